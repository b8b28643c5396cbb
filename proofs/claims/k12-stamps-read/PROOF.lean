import PyProof.Rows.All
import Wide.All
import OpenK.AllK
import Wide.FinOn
import PyProof.Rows.IntBool
import PyProof.Rows.RuleB_bool
import PyProof.ReprRoads
import PyProof.CallFns
import KE.GoesEnum
import PyProof.Rows.StrJoinMade
import PyProof.StrLawsRepr
import KE.SortData
import KE.DataFind
import KE.DataMinMax
import KE.KExcSuper
import KE.KExcIs
import KE.KNestM
import PyProof.StrBlock2
import KE.IntTextLaws
import HandS.ForMost
import HandS.Exc
import HandS.WordsExc
import HandS.Lambda
import HandS.Flow
import HandS.Wide
import HandS.TupAny
import HandS.TupLe
import HandS.IsInst
import HandS.Conv
import HandS.RaiseMore
import HandS.Iter
import HandS.Zip
import HandS.Comp
import HandS.Small
import HandS.Style
import HandS.Words
import HandS.ExcOwn
import HandS.Codes
import HandS.Ends
import HandS.TupMul
import HandS.WordsDict
import HandS.SortKw
import HandS.DictComp
import HandS.ExcInit
import HandS.ExcIs
import HandS.ExcField
import HandS.EndTab
import HandS.SetFor
import HandS.Strs
import HandS.TupSets
import HandS.HotCalls
import HandS.Defaults
import HandS.Star
import PySem.Challenge.RW_stampahead_k12_stamps_read
set_option Elab.async false
set_option linter.all false
set_option maxRecDepth 100000
set_option maxHeartbeats 4000000
namespace Pv
open PySem PySem.Spec L2
open PyProof.Rows hiding St

/-! ### data, the store of what changes, worlds -/
abbrev D := PyData
/-- the r-th object of the store -/
@[reducible] def Rf (r : Nat) : D := .dict [(.int (r : Int), .none)]
inductive MO where
  /-- a list that may grow; a list that is read alone (the script) -/
  | lst (ds : List D) | ro (ds : List D)
  | dct (kvs : List (Key × D)) | dctT (kvs : List (List Key × D))
  /-- the table of the code objects of a def that makes lambdas: where it stands, their name -/
  | tb (P : Addr) (q : Str)
abbrev Sto := List MO
def tbs : Sto → List (Addr × Str)
  | [] => []
  | .tb P q :: st => (P, q) :: tbs st
  | _ :: st => tbs st
def noTb : MO → Bool
  | .tb _ _ => false
  | _ => true
theorem tbs_app (st : Sto) {m : MO} (h : noTb m = true) : tbs (st ++ [m]) = tbs st := by
  induction st with
  | nil => cases m with
    | tb P q => cases h
    | _ => rfl
  | cons o st ih => cases o <;> simp [tbs, ih]
theorem tbs_set {m : MO} (h : noTb m = true) : ∀ (st : Sto) (r : Nat), ∀ p ∈ tbs (st.set r m), p ∈ tbs st
  | [], _, p, hp => by cases hp
  | o :: st, 0, p, hp => by
    have hp' : p ∈ tbs (m :: st) := hp
    have : tbs (m :: st) = tbs st := by cases m <;> first | rfl | cases h
    rw [this] at hp'
    cases o <;> simp [tbs, hp']
  | o :: st, r + 1, p, hp => by
    have hp' : p ∈ tbs (o :: st.set r m) := hp
    cases o with
    | tb P q =>
      rcases List.mem_cons.mp hp' with e | e
      · subst e; exact List.mem_cons_self
      · exact List.mem_cons_of_mem _ (tbs_set h st r p e)
    | _ => exact tbs_set h st r p hp'
abbrev Sl := List (Option D)
/-- F: the part of the heap that never changes; rho: where the store's objects stand -/
structure Wd where
  F : Hp
  rho : List Addr

/-- a tuple whose object is known: the module's own, or one that was laid down so -/
def SqZ (K : PySem.W.Frag) (F : Hp) (a : Addr) (xs : List V) : Prop :=
  (∃ (o : Obj) (its : Array Value) (n : Nat), K.lookup a = some o ∧ o.cls = .type "tuple" ∧ o.dict = none ∧ o.data = .seq its n ∧ its.size ≤ sizeLine ∧ Vals xs its.toList) ∨ ∃ o : Obj, F a = some (.frz o (.tup xs)) ∧ o.dict = none
theorem SqZ.mono {K : PySem.W.Frag} {F F' : Hp} {a : Addr} {xs : List V} (hf : ∀ b o, F b = some o → F' b = some o) (h : SqZ K F a xs) : SqZ K F' a xs := h.imp id fun ⟨o, h1, h2⟩ => ⟨o, hf _ _ h1, h2⟩
theorem SqZ.T {K : PySem.W.Frag} {F F' : Hp} {a : Addr} {xs : List V} (hf : ∀ b o, F b = some o → F' b = some o) (h : SqZ K F a xs) : SqT K F' a xs := by
  rcases h with ⟨o, its, n, h1, h2, _, h4, h5, h6⟩ | ⟨o, h1, _⟩
  · exact .inr ⟨o, its, n, h1, h2, h4, h5, h6⟩
  · exact .inl (.inr ⟨o, hf _ _ h1⟩)
/-- a tuple of the module's own -/
@[reducible] def Gc (ds : List D) : D := .dict [(.none, .tuple ds)]
/-- a list that is read alone: the script, a list of the module's own -/
@[reducible] def Gs (ds : List D) : D := .dict [(.none, .list ds)]
/-- a caught exception: where it and its dict stand, its class, its fields -/
@[reducible] def Ec (a dd : Nat) (c : Str) (ns fs : List D) : D := .dict [(.bool true, .tuple [.int (a : Int), .int (dd : Int), .str c, .tuple ns, .tuple fs])]
def nmD : List D → List Str
  | [] => []
  | .str x :: ds => x :: nmD ds
  | _ :: ds => nmD ds
mutual
def rep (K : PySem.W.Frag) (W : Wd) (v : V) : D → Prop
  | .none => v = .non
  | .bool b => v = .bl b
  | .int i => v = .int i
  | .str x => v = .str x
  | .list ds => ∃ a xs, v = .ref a ∧ W.F a = some (.lst xs) ∧ repL K W xs ds
  | .tuple ds => ∃ a xs, v = .ref a ∧ W.F a = some (.tup xs) ∧ repL K W xs ds
  | .dict [(.int i, .none)] => ∃ (r : Nat) (a : Addr), i = (r : Int) ∧ v = .ref a ∧ W.rho[r]? = some a
  | .dict [(.none, .tuple ds)] => ∃ a xs, v = .ref a ∧ SqZ K W.F a xs ∧ repL K W xs ds
  | .dict [(.none, .list ds)] => ∃ a xs, v = .ref a ∧ SqL K W.F a xs ∧ repL K W xs ds
  | .dict [(.bool true, .tuple [.int a, .int dd, .str _, .tuple ns, .tuple fs])] => v = .ref a.toNat ∧ ∃ xs, W.F dd.toNat = some (.xd ((nmD ns).zip xs)) ∧ repL K W xs fs
  | .dict _ => False
def repL (K : PySem.W.Frag) (W : Wd) (vs : List V) : List D → Prop
  | [] => vs = []
  | d :: ds => ∃ v us, vs = v :: us ∧ rep K W v d ∧ repL K W us ds
end
/-- pairs: the keys are the same, the values are told -/
def repP {κ : Type} (K : PySem.W.Frag) (W : Wd) : List (κ × V) → List (κ × D) → Prop := Paired fun p q => p.1 = q.1 ∧ rep K W p.2 q.2
def repO (K : PySem.W.Frag) (W : Wd) (H : Hp) (a : Addr) : MO → Prop
  | .lst ds => ∃ xs, H a = some (.lst xs) ∧ repL K W xs ds
  | .ro ds => ∃ o xs, H a = some (.frz o (.lst xs)) ∧ repL K W xs ds
  | .dct kvs => ∃ ks, H a = some (.dK ks) ∧ repP K W ks kvs
  | .dctT kvs => ∃ ks, H a = some (.dT ks) ∧ repP K W ks kvs
  | .tb P _ => a = P ∧ ∃ ps, H a = some (.tbl ps)
structure HR (K : PySem.W.Frag) (W : Wd) (H : Hp) (st : Sto) : Prop where
  len : W.rho.length = st.length
  nd : W.rho.Nodup
  sub : ∀ b o, W.F b = some o → H b = some o
  obj : ∀ (r : Nat) (a : Addr) (m : MO), W.rho[r]? = some a → st[r]? = some m → W.F a = none ∧ repO K W H a m
  tab : LamX.Tabs (tbs st) H
  nt : ∀ b ps, W.F b ≠ some (.tbl ps)
/-- nothing stands there, or the table of a def's code objects (it may be written anew) -/
def Nn (H : Hp) (a : Addr) : Prop := ∀ o, H a = some o → ∃ ps, o = .tbl ps
theorem Nn.of {H : Hp} {a : Addr} (h : H a = none) : Nn H a := fun o e => by rw [h] at e; cases e
structure Ext (W : Wd) (H : Hp) (W' : Wd) (H' : Hp) : Prop where
  fr : ∀ b o, W.F b = some o → W'.F b = some o
  rh : ∃ r, W'.rho = W.rho ++ r ∧ ∀ a ∈ r, Nn H a
  out : ∀ b o, H b = some o → b ∉ W.rho → (∀ ps, o ≠ .tbl ps) → H' b = some o
  non : ∀ b, Nn H' b → Nn H b
  nf : ∀ b o, W'.F b = some o → W.F b = some o ∨ Nn H b

section
variable {K : PySem.W.Frag} {W W' W'' : Wd} {H H' H'' : Hp} {st st' : Sto} {v : V} {vs us : List V} {d : D} {ds es : List D} {a : Addr}
/-- a thing that is neither a table nor a code object -/
def plainO : HO → Bool
  | .tbl _ => false
  | .ext _ => false
  | _ => true
theorem plainO_tbl {o : HO} (h : plainO o = true) : ∀ ps, o ≠ .tbl ps := fun ps e => by subst e; cases h
theorem tabs_new {T : List (Addr × Str)} {o : HO} (t : LamX.Tabs T H) (hp : H a = none) : LamX.Tabs T (upd H a o) := t.ext fun b u e => by
  have hb : b ≠ a := fun z => by subst z; rw [hp] at e; cases e
  rw [upd_ne hb]; exact e
theorem tabs_set {T : List (Addr × Str)} {o u : HO} (t : LamX.Tabs T H) (hp : H a = some u) (hu : plainO u = true) : LamX.Tabs T (upd H a o) := fun p hm => by
  obtain ⟨ps, h1, h2, h3⟩ := t p hm
  refine ⟨ps, ?_, h2, fun pos cv hc => ?_⟩
  · have hb : p.1 ≠ a := fun z => by rw [z, hp] at h1; cases h1; cases hu
    rw [upd_ne hb]; exact h1
  · obtain ⟨c, e1, e2⟩ := h3 pos cv hc
    have hb : c ≠ a := fun z => by rw [z, hp] at e2; cases e2; cases hu
    exact ⟨c, e1, by rw [upd_ne hb]; exact e2⟩
theorem Ext.refl : Ext W H W H := ⟨fun _ _ h => h, ⟨[], by simp, fun _ h => by cases h⟩, fun _ _ h _ _ => h, fun _ h => h, fun _ _ h => .inl h⟩
theorem Ext.trans (e : Ext W H W' H') (f : Ext W' H' W'' H'') : Ext W H W'' H'' := by
  obtain ⟨r, hr, hn⟩ := e.rh
  obtain ⟨q, hq, hm⟩ := f.rh
  refine ⟨fun b o h => f.fr b o (e.fr b o h), ⟨r ++ q, by rw [hq, hr, List.append_assoc], fun a ha => ?_⟩, fun b o h hb htb => ?_, fun b h => e.non b (f.non b h), fun b o h => ?_⟩
  · rcases List.mem_append.mp ha with h | h
    · exact hn a h
    · exact e.non a (hm a h)
  · refine f.out b o (e.out b o h hb htb) ?_ htb
    rw [hr]
    intro hx
    rcases List.mem_append.mp hx with h' | h'
    · exact hb h'
    · obtain ⟨ps, z⟩ := hn b h' o h; exact htb ps z
  · rcases f.nf b o h with h | h
    · exact e.nf b o h
    · exact .inr (e.non b h)
theorem sqT_mono {F F' : Hp} {xs : List V} (hf : ∀ b o, F b = some o → F' b = some o) (h : SqT K F a xs) : SqT K F' a xs := by
  rcases h with (h | ⟨o, h⟩) | h
  · exact .inl (.inl (hf _ _ h))
  · exact .inl (.inr ⟨o, hf _ _ h⟩)
  · exact .inr h
theorem sqL_mono {F F' : Hp} {xs : List V} (hf : ∀ b o, F b = some o → F' b = some o) (h : SqL K F a xs) : SqL K F' a xs := by
  rcases h with (h | ⟨o, h⟩) | h
  · exact .inl (.inl (hf _ _ h))
  · exact .inl (.inr ⟨o, hf _ _ h⟩)
  · exact .inr h
theorem rep_dict {kvs : List (D × D)} (h : rep K W v (.dict kvs)) : (∃ (r : Nat) (a : Addr), kvs = [(.int (r : Int), .none)] ∧ v = .ref a ∧ W.rho[r]? = some a) ∨
    (∃ ds a xs, kvs = [(.none, .tuple ds)] ∧ v = .ref a ∧ SqZ K W.F a xs ∧ repL K W xs ds) ∨
    (∃ ds a xs, kvs = [(.none, .list ds)] ∧ v = .ref a ∧ SqL K W.F a xs ∧ repL K W xs ds) ∨
    ∃ (a dd : Int) (c : Str) (ns fs : List D), kvs = [(.bool true, .tuple [.int a, .int dd, .str c, .tuple ns, .tuple fs])] := by
  match kvs, h with
  | [(.int i, .none)], ⟨r, a, e1, e2, e3⟩ => subst e1; exact .inl ⟨r, a, rfl, e2, e3⟩
  | [(.none, .tuple ds)], ⟨a, xs, e1, e2, e3⟩ => exact .inr (.inl ⟨ds, a, xs, rfl, e1, e2, e3⟩)
  | [(.none, .list ds)], ⟨a, xs, e1, e2, e3⟩ => exact .inr (.inr (.inl ⟨ds, a, xs, rfl, e1, e2, e3⟩))
  | [(.bool true, .tuple [.int a, .int dd, .str c, .tuple ns, .tuple fs])], _ => exact .inr (.inr (.inr ⟨a, dd, c, ns, fs, rfl⟩))
mutual
theorem rep_mono (hf : ∀ b o, W.F b = some o → W'.F b = some o) (hr : ∀ (r : Nat) (a : Addr), W.rho[r]? = some a → W'.rho[r]? = some a) : ∀ {v : V} (d : D), rep K W v d → rep K W' v d
  | _, .none, h => h
  | _, .bool _, h => h
  | _, .int _, h => h
  | _, .str _, h => h
  | _, .list ds, ⟨a, xs, e, h, l⟩ => ⟨a, xs, e, hf _ _ h, repL_mono hf hr ds l⟩
  | _, .tuple ds, ⟨a, xs, e, h, l⟩ => ⟨a, xs, e, hf _ _ h, repL_mono hf hr ds l⟩
  | _, .dict [(.int _, .none)], ⟨r, a, e1, e2, h⟩ => ⟨r, a, e1, e2, hr r a h⟩
  | _, .dict [(.none, .tuple ds)], ⟨a, xs, e, h, l⟩ => ⟨a, xs, e, h.mono hf, repL_mono hf hr ds l⟩
  | _, .dict [(.none, .list ds)], ⟨a, xs, e, h, l⟩ => ⟨a, xs, e, sqL_mono hf h, repL_mono hf hr ds l⟩
  | _, .dict [(.bool true, .tuple [.int _, .int _, .str _, .tuple _, .tuple fs])], ⟨e, xs, h, l⟩ => ⟨e, xs, hf _ _ h, repL_mono hf hr fs l⟩
theorem repL_mono (hf : ∀ b o, W.F b = some o → W'.F b = some o) (hr : ∀ (r : Nat) (a : Addr), W.rho[r]? = some a → W'.rho[r]? = some a) : ∀ {vs : List V} (ds : List D), repL K W vs ds → repL K W' vs ds
  | _, [], h => h
  | _, d :: ds, ⟨v, us, e, h, l⟩ => ⟨v, us, e, rep_mono hf hr d h, repL_mono hf hr ds l⟩
end
theorem Ext.at (e : Ext W H W' H') (r : Nat) (a : Addr) (h : W.rho[r]? = some a) : W'.rho[r]? = some a := by
  obtain ⟨q, hq, _⟩ := e.rh
  have hlt : r < W.rho.length := (List.getElem?_eq_some_iff.mp h).1
  rw [hq, List.getElem?_append_left hlt]; exact h
theorem Ext.rep (e : Ext W H W' H') (h : rep K W v d) : Pv.rep K W' v d := rep_mono e.fr e.at d h
theorem Ext.repL (e : Ext W H W' H') (h : repL K W vs ds) : Pv.repL K W' vs ds := repL_mono e.fr e.at ds h
theorem repP_mono {κ : Type} {ks : List (κ × V)} {kvs : List (κ × D)} (hf : ∀ b o, W.F b = some o → W'.F b = some o) (hr : ∀ (r : Nat) (a : Addr), W.rho[r]? = some a → W'.rho[r]? = some a) (h : repP K W ks kvs) : repP K W' ks kvs :=
  Paired.mapP h fun _ _ z => ⟨z.1, rep_mono hf hr _ z.2⟩
theorem repO_mono {m : MO} (hf : ∀ b o, W.F b = some o → W'.F b = some o) (hr : ∀ (r : Nat) (a : Addr), W.rho[r]? = some a → W'.rho[r]? = some a) (hH : ∀ o, H a = some o → H' a = some o) (h : repO K W H a m) : repO K W' H' a m := by
  cases m with
  | lst ds => obtain ⟨xs, h1, h2⟩ := h; exact ⟨xs, hH _ h1, repL_mono hf hr ds h2⟩
  | ro ds => obtain ⟨o, xs, h1, h2⟩ := h; exact ⟨o, xs, hH _ h1, repL_mono hf hr ds h2⟩
  | dct kvs => obtain ⟨xs, h1, h2⟩ := h; exact ⟨xs, hH _ h1, repP_mono hf hr h2⟩
  | dctT kvs => obtain ⟨xs, h1, h2⟩ := h; exact ⟨xs, hH _ h1, repP_mono hf hr h2⟩
  | tb P q => obtain ⟨e, ps, h1⟩ := h; exact ⟨e, ps, hH _ h1⟩
theorem repO.some {m : MO} (h : repO K W H a m) : ∃ o, H a = some o := by
  cases m with
  | lst ds => obtain ⟨xs, h1, _⟩ := h; exact ⟨_, h1⟩
  | ro ds => obtain ⟨o, xs, h1, _⟩ := h; exact ⟨_, h1⟩
  | dct kvs => obtain ⟨xs, h1, _⟩ := h; exact ⟨_, h1⟩
  | dctT kvs => obtain ⟨xs, h1, _⟩ := h; exact ⟨_, h1⟩
  | tb P q => obtain ⟨e, ps, h1⟩ := h; exact ⟨_, h1⟩
theorem repO_plain {m : MO} (h : repO K W H a m) (ht : noTb m = true) : ∃ o, H a = some o ∧ plainO o = true := by
  cases m with
  | tb P q => cases ht
  | lst ds => obtain ⟨xs, h1, _⟩ := h; exact ⟨_, h1, rfl⟩
  | ro ds => obtain ⟨o, xs, h1, _⟩ := h; exact ⟨_, h1, rfl⟩
  | dct ds => obtain ⟨xs, h1, _⟩ := h; exact ⟨_, h1, rfl⟩
  | dctT ds => obtain ⟨xs, h1, _⟩ := h; exact ⟨_, h1, rfl⟩
theorem HR.at (h : HR K W H st) {r : Nat} (e : W.rho[r]? = some a) : ∃ m, st[r]? = some m ∧ W.F a = none ∧ repO K W H a m := by
  have hlt : r < st.length := by rw [← h.len]; exact (List.getElem?_eq_some_iff.mp e).1
  have hm : st[r]? = some st[r] := List.getElem?_eq_getElem hlt
  obtain ⟨p, q⟩ := h.obj r a _ e hm
  exact ⟨_, hm, p, q⟩
theorem HR.at' (h : HR K W H st) {r : Nat} {m : MO} (e : st[r]? = some m) : ∃ a, W.rho[r]? = some a ∧ W.F a = none ∧ repO K W H a m := by
  have hlt : r < W.rho.length := by rw [h.len]; exact (List.getElem?_eq_some_iff.mp e).1
  have hm : W.rho[r]? = some W.rho[r] := List.getElem?_eq_getElem hlt
  obtain ⟨p, q⟩ := h.obj r _ m hm e
  exact ⟨_, hm, p, q⟩
theorem HR.mem (h : HR K W H st) (ha : a ∈ W.rho) : ∃ o, H a = some o := by
  obtain ⟨r, hr⟩ := List.mem_iff_getElem?.mp ha
  obtain ⟨m, _, _, q⟩ := h.at hr
  exact q.some
theorem HR.free (h : HR K W H st) (hp : H a = none) : a ∉ W.rho := fun ha => by
  obtain ⟨o, e⟩ := h.mem ha
  rw [e] at hp; cases hp
theorem HR.freeF (h : HR K W H st) (hp : H a = none) : W.F a = none := by
  cases q : W.F a with
  | none => rfl
  | some o => rw [h.sub _ _ q] at hp; cases hp
/-- a new thing that never changes -/
theorem HR.new {o : HO} (h : HR K W H st) (hp : H a = none) (ho : plainO o = true := by rfl) : HR K ⟨upd W.F a o, W.rho⟩ (upd H a o) st ∧ Ext W H ⟨upd W.F a o, W.rho⟩ (upd H a o) := by
  have hf : ∀ b u, W.F b = some u → upd W.F a o b = some u := fun b u e => by
    have hb : b ≠ a := fun z => by subst z; rw [h.freeF hp] at e; cases e
    rw [upd_ne hb]; exact e
  have hn := h.free hp
  refine ⟨⟨h.len, h.nd, fun b u e => ?_, fun r b m e1 e2 => ?_, tabs_new h.tab hp, fun b ps e => ?_⟩, ⟨hf, ⟨[], by simp, fun _ z => by cases z⟩, fun b u e _ _ => ?_, fun b e => ?_, fun b u e => ?_⟩⟩
  · have e' : upd W.F a o b = some u := e
    by_cases hb : b = a
    · subst hb; rw [upd_same] at e' ⊢; exact e'
    · rw [upd_ne hb] at e' ⊢; exact h.sub b u e'
  · have hb : b ≠ a := fun z => hn (by rw [← z]; exact List.mem_of_getElem? e1)
    obtain ⟨p, q⟩ := h.obj r b m e1 e2
    exact ⟨by show upd W.F a o b = none; rw [upd_ne hb]; exact p, repO_mono (W := W) hf (fun _ _ z => z) (fun u z => by rw [upd_ne hb]; exact z) q⟩
  · have e' : upd W.F a o b = some (.tbl ps) := e
    by_cases hb : b = a
    · subst hb; rw [upd_same] at e'; cases e'; cases ho
    · rw [upd_ne hb] at e'; exact h.nt b ps e'
  · have hb : b ≠ a := fun z => by subst z; rw [hp] at e; cases e
    rw [upd_ne hb]; exact e
  · by_cases hb : b = a
    · subst hb; exact .of hp
    · exact fun u z => e u (by rw [upd_ne hb]; exact z)
  · have e' : upd W.F a o b = some u := e
    by_cases hb : b = a
    · subst hb; exact .inr (.of hp)
    · rw [upd_ne hb] at e'; exact .inl e'
/-- a new object of the store -/
theorem HR.newM {o : HO} {m : MO} (h : HR K W H st) (hp : H a = none) (ho : repO K ⟨W.F, W.rho ++ [a]⟩ (upd H a o) a m) (hm : noTb m = true := by rfl) :
    HR K ⟨W.F, W.rho ++ [a]⟩ (upd H a o) (st ++ [m]) ∧ Ext W H ⟨W.F, W.rho ++ [a]⟩ (upd H a o) := by
  have hn := h.free hp
  have hx : Ext W H ⟨W.F, W.rho ++ [a]⟩ (upd H a o) := by
    refine ⟨fun _ _ e => e, ⟨[a], rfl, fun b hb => ?_⟩, fun b u e _ _ => ?_, fun b e => ?_, fun _ _ e => .inl e⟩
    · have : b = a := by simpa using hb
      subst this; exact .of hp
    · have hb : b ≠ a := fun z => by subst z; rw [hp] at e; cases e
      rw [upd_ne hb]; exact e
    · by_cases hb : b = a
      · subst hb; exact .of hp
      · exact fun u z => e u (by rw [upd_ne hb]; exact z)
  refine ⟨⟨by simp [h.len], ?_, fun b u e => ?_, fun r b m' e1 e2 => ?_, by rw [tbs_app st hm]; exact tabs_new h.tab hp, h.nt⟩, hx⟩
  · exact List.nodup_append.mpr ⟨h.nd, by simp, fun x hx' y hy => by
      have hy' : y = a := by simpa using hy
      rw [hy']
      exact fun z => hn (z ▸ hx')⟩
  · have hb : b ≠ a := fun z => by subst z; rw [h.freeF hp] at e; cases e
    rw [upd_ne hb]; exact h.sub b u e
  · by_cases hr : r < W.rho.length
    · rw [List.getElem?_append_left hr] at e1
      rw [List.getElem?_append_left (by rw [← h.len]; exact hr)] at e2
      have hb : b ≠ a := fun z => hn (by rw [← z]; exact List.mem_of_getElem? e1)
      obtain ⟨p, q⟩ := h.obj r b m' e1 e2
      exact ⟨p, repO_mono (W := W) hx.fr hx.at (fun u z => by rw [upd_ne hb]; exact z) q⟩
    · rw [List.getElem?_append_right (by omega)] at e1
      rw [List.getElem?_append_right (by rw [← h.len]; omega)] at e2
      rw [h.len] at e1
      cases hk : r - st.length with
      | zero =>
        rw [hk] at e1 e2
        simp at e1 e2
        subst e1; subst e2
        exact ⟨h.freeF hp, ho⟩
      | succ k => rw [hk] at e1; simp at e1
/-- an object of the store is changed -/
theorem HR.set {o : HO} {m m0 : MO} {r : Nat} (h : HR K W H st) (hr : W.rho[r]? = some a) (hm0 : st[r]? = some m0) (ho : repO K W (upd H a o) a m) (ht0 : noTb m0 = true := by rfl) (ht : noTb m = true := by rfl) : HR K W (upd H a o) (st.set r m) ∧ Ext W H W (upd H a o) := by
  obtain ⟨hF, hO⟩ := h.obj r a m0 hr hm0
  obtain ⟨u0, hu0, hpl⟩ := repO_plain hO ht0
  have hno : ∀ ps, o ≠ .tbl ps := fun ps z => by
    obtain ⟨u1, hu1, hp1⟩ := repO_plain ho ht
    rw [upd_same] at hu1; cases hu1; exact plainO_tbl hp1 ps z
  have ham : a ∈ W.rho := List.mem_of_getElem? hr
  refine ⟨⟨by rw [List.length_set]; exact h.len, h.nd, fun b u e => ?_, fun q b m' e1 e2 => ?_, fun p hp => tabs_set h.tab hu0 hpl p (tbs_set ht st r p hp), h.nt⟩, ⟨fun _ _ e => e, ⟨[], by simp, fun _ z => by cases z⟩, fun b u e hb _ => ?_, fun b e => ?_, fun _ _ e => .inl e⟩⟩
  · have hb : b ≠ a := fun z => by subst z; rw [hF] at e; cases e
    rw [upd_ne hb]; exact h.sub b u e
  · by_cases hq : q = r
    · subst hq
      rw [hr] at e1; cases e1
      rw [List.getElem?_set_self (by rw [← h.len]; exact (List.getElem?_eq_some_iff.mp hr).1)] at e2
      cases e2
      exact ⟨hF, ho⟩
    · rw [List.getElem?_set_ne (Ne.symm hq)] at e2
      have hb : b ≠ a := fun z => by
        subst z
        exact hq ((List.getElem?_inj (List.getElem?_eq_some_iff.mp e1).1 h.nd).mp (e1.trans hr.symm))
      obtain ⟨p, q'⟩ := h.obj q b m' e1 e2
      exact ⟨p, repO_mono (W := W) (fun _ _ z => z) (fun _ _ z => z) (fun u z => by rw [upd_ne hb]; exact z) q'⟩
  · have hb : b ≠ a := fun z => hb (z ▸ ham)
    rw [upd_ne hb]; exact e
  · by_cases hb : b = a
    · subst hb; obtain ⟨ps, z⟩ := e _ (upd_same ..); exact absurd z (hno ps)
    · exact fun u z => e u (by rw [upd_ne hb]; exact z)

theorem mem_tbs {P : Addr} {q : Str} : ∀ (st : Sto) (r : Nat), st[r]? = some (.tb P q) → (P, q) ∈ tbs st
  | [], r, h => by simp at h
  | o :: st, 0, h => by
    have : o = .tb P q := by simpa using h
    subst this; exact List.mem_cons_self
  | o :: st, r + 1, h => by
    have h' : st[r]? = some (.tb P q) := by simpa using h
    cases o with
    | tb P' q' => exact List.mem_cons_of_mem _ (mem_tbs st r h')
    | _ => exact mem_tbs st r h'
/-- code objects are made: only tables are written -/
theorem HR.extN (h : HR K W H st) (e : LamX.ExtN H H') (t : LamX.Tabs (tbs st) H') : HR K W H' st ∧ Ext W H W H' := by
  have hs : ∀ b o, W.F b = some o → H' b = some o := fun b o z => e b o (h.sub b o z) fun ps y => h.nt b ps (y ▸ z)
  refine ⟨⟨h.len, h.nd, hs, fun r b m e1 e2 => ?_, t, h.nt⟩, ⟨fun _ _ z => z, ⟨[], by simp, fun _ z => by cases z⟩, fun b o z _ y => e b o z y, fun b z o y => ?_, fun _ _ z => .inl z⟩⟩
  · obtain ⟨p, q⟩ := h.obj r b m e1 e2
    refine ⟨p, ?_⟩
    by_cases ht : noTb m = true
    · cases m with
      | tb P q => cases ht
      | lst ds => obtain ⟨xs, h1, h2⟩ := q; exact ⟨xs, e _ _ h1 (plainO_tbl rfl), h2⟩
      | ro ds => obtain ⟨o, xs, h1, h2⟩ := q; exact ⟨o, xs, e _ _ h1 (plainO_tbl rfl), h2⟩
      | dct kvs => obtain ⟨xs, h1, h2⟩ := q; exact ⟨xs, e _ _ h1 (plainO_tbl rfl), h2⟩
      | dctT kvs => obtain ⟨xs, h1, h2⟩ := q; exact ⟨xs, e _ _ h1 (plainO_tbl rfl), h2⟩
    · cases m with
      | tb P q0 =>
        obtain ⟨rfl, ps, _⟩ := q
        obtain ⟨ps', h1, _⟩ := t _ (mem_tbs st r e2)
        exact ⟨rfl, ps', h1⟩
      | _ => exact absurd rfl ht
  · by_cases ht : ∃ ps, o = .tbl ps
    · exact ht
    · have hn : ∀ ps, o ≠ .tbl ps := fun ps c => ht ⟨ps, c⟩
      obtain ⟨ps, c⟩ := z o (e b o y hn)
      exact absurd c (hn ps)
/-- a list that was made beside the store is kept: as data, or as an object of the store -/
theorem HR.keepF {xs : List V} (h : HR K W H st) (e : H a = some (.lst xs)) (hn : a ∉ W.rho) (hF : W.F a = none) : HR K ⟨upd W.F a (.lst xs), W.rho⟩ H st := by
  refine ⟨h.len, h.nd, fun b u q => ?_, fun r b m e1 e2 => ?_, h.tab, fun b ps q => ?_⟩
  · have q' : upd W.F a (.lst xs) b = some u := q
    by_cases hb : b = a
    · subst hb; rw [upd_same] at q'; cases q'; exact e
    · rw [upd_ne hb] at q'; exact h.sub b u q'
  · have hb : b ≠ a := fun z => hn (by rw [← z]; exact List.mem_of_getElem? e1)
    obtain ⟨p, q⟩ := h.obj r b m e1 e2
    refine ⟨by show upd W.F a (.lst xs) b = none; rw [upd_ne hb]; exact p, repO_mono (W := W) (fun c o z => ?_) (fun _ _ z => z) (fun u z => z) q⟩
    have hc : c ≠ a := fun w => by subst w; rw [hF] at z; cases z
    show upd W.F a (.lst xs) c = some o
    rw [upd_ne hc]; exact z
  · have q' : upd W.F a (.lst xs) b = some (.tbl ps) := q
    by_cases hb : b = a
    · subst hb; rw [upd_same] at q'; cases q'
    · rw [upd_ne hb] at q'; exact h.nt b ps q'
theorem HR.keepM {m : MO} (h : HR K W H st) (hn : a ∉ W.rho) (hF : W.F a = none) (ho : repO K ⟨W.F, W.rho ++ [a]⟩ H a m) (hm : noTb m = true := by rfl) : HR K ⟨W.F, W.rho ++ [a]⟩ H (st ++ [m]) := by
  refine ⟨by simp [h.len], List.nodup_append.mpr ⟨h.nd, by simp, fun x hx' y hy => by
      have hy' : y = a := by simpa using hy
      rw [hy']
      exact fun z => hn (z ▸ hx')⟩, h.sub, fun r b m' e1 e2 => ?_, by rw [tbs_app st hm]; exact h.tab, h.nt⟩
  by_cases hr : r < W.rho.length
  · rw [List.getElem?_append_left hr] at e1
    rw [List.getElem?_append_left (by rw [← h.len]; exact hr)] at e2
    obtain ⟨p, q⟩ := h.obj r b m' e1 e2
    exact ⟨p, repO_mono (W := W) (fun _ _ z => z) (fun r b z => by
      have hlt : r < W.rho.length := (List.getElem?_eq_some_iff.mp z).1
      show (W.rho ++ [a])[r]? = some b
      rw [List.getElem?_append_left hlt]; exact z) (fun u z => z) q⟩
  · rw [List.getElem?_append_right (by omega)] at e1
    rw [List.getElem?_append_right (by rw [← h.len]; omega)] at e2
    rw [h.len] at e1
    cases hk : r - st.length with
    | zero =>
      rw [hk] at e1 e2
      simp at e1 e2
      subst e1; subst e2
      exact ⟨hF, ho⟩
    | succ k => rw [hk] at e1; simp at e1

/-! ### slots -/
structure SR (K : PySem.W.Frag) (W : Wd) (sh : St) (sl : Sl) : Prop where
  len : sh.length = sl.length
  at_ : ∀ (i : Nat) (d : D), sl[i]? = some (some d) → ∃ v, sh[i]? = some (some v) ∧ rep K W v d
theorem SR.ext {sh : St} {sl : Sl} (e : Ext W H W' H') (s : SR K W sh sl) : SR K W' sh sl := ⟨s.len, fun i d h => let ⟨v, a, b⟩ := s.at_ i d h; ⟨v, a, e.rep b⟩⟩
theorem SR.set {sh : St} {sl : Sl} (s : SR K W sh sl) (i : Nat) (h : rep K W v d) : SR K W (sh.set i (some v)) (sl.set i (some d)) := by
  refine ⟨by simp [s.len], fun j e hj => ?_⟩
  by_cases hij : j = i
  · subst hij
    by_cases hlt : j < sl.length
    · rw [List.getElem?_set_self hlt] at hj
      cases hj
      exact ⟨v, List.getElem?_set_self (by rw [s.len]; exact hlt), h⟩
    · rw [List.getElem?_eq_none (by simp; omega)] at hj; cases hj
  · rw [List.getElem?_set_ne (Ne.symm hij)] at hj ⊢
    exact s.at_ j e hj
/-- slots are forgotten -/
theorem SR.weak {sh : St} {sl sl' : Sl} (s : SR K W sh sl) (hl : sl'.length = sl.length) (h : ∀ (i : Nat) (d : D), sl'[i]? = some (some d) → sl[i]? = some (some d)) : SR K W sh sl' :=
  ⟨s.len.trans hl.symm, fun i d e => s.at_ i d (h i d e)⟩

/-! ### what a reckoning ends with -/
/-- an exception: its class's name, its fields -/
abbrev XV := Str × List (Str × D)
inductive R (α : Type) where
  | ok (a : α) (st : Sto)
  | exc (x : XV) (st : Sto)
  | bad
abbrev M := Sl → Sto → R D
def R.bind {α β : Type} (x : R α) (f : α → Sto → R β) : R β :=
  match x with
  | .ok a st => f a st
  | .exc e st => .exc e st
  | .bad => .bad
@[simp] theorem R.bind_ok {α β : Type} (a : α) (st : Sto) (f : α → Sto → R β) : (R.ok a st).bind f = f a st := rfl
@[simp] theorem R.bind_exc {α β : Type} (x : XV) (st : Sto) (f : α → Sto → R β) : (R.exc x st).bind f = .exc x st := rfl
@[simp] theorem R.bind_bad {α β : Type} (f : α → Sto → R β) : (R.bad : R α).bind f = .bad := rfl
def lift {α : Type} (o : Option α) (st : Sto) : R α :=
  match o with
  | some a => .ok a st
  | none => .bad
@[simp] theorem lift_some {α : Type} (a : α) (st : Sto) : lift (some a) st = .ok a st := rfl
@[simp] theorem lift_none {α : Type} (st : Sto) : lift (none : Option α) st = .bad := rfl
end

/-- the facts of the written part that an exception's telling leans on -/
structure Nv where
  K : PySem.W.Frag
  mg : Str → Option Value
/-- how an exception is told: its class, its own dict -/
def repX (N : Nv) (W : Wd) (H : Hp) (cls : Value) (dd : Option Addr) (x : XV) : Prop :=
  ∃ C, N.mg x.1 = some (.ref C) ∧ cls = .ref C ∧ ∃ d fs, dd = some d ∧ W.F d = some (.xd fs) ∧ repP N.K W fs x.2
/-- what is wanted, given what the reckoning ends with -/
def Post (N : Nv) (W : Wd) (H : Hp) (Q : VK) (E : XK) : R D → Prop
  | .ok d st => ∀ W' v H', Ext W H W' H' → HR N.K W' H' st → rep N.K W' v d → Q v H'
  | .exc x st => ∀ W' cls dd H', Ext W H W' H' → HR N.K W' H' st → repX N W' H' cls dd x → E cls dd H'
  | .bad => False
abbrev nv (X : Cx) : Nv := ⟨X.K, X.mg⟩
/-- the reading of a reckoning -/
def rd (N : Nv) (Wx : WX) (m : M) : TE := fun sh H Q => ∃ W sl st, HR N.K W H st ∧ SR N.K W sh sl ∧ Post N W H Q (fun cls dd H' => Wx cls dd sh H') (m sl st)
def GE (X : Cx) (Wx : WX) (e : Expr) (m : M) : Prop := PE X e (rd (nv X) Wx m)

section
variable {X : Cx} {Wx : WX} {N : Nv} {W W' : Wd} {H H' : Hp} {st : Sto} {sh : St} {sl : Sl}
theorem _root_.L2.PE.imp {e : Expr} {t t' : TE} (h : PE X e t) (i : ∀ σ H Q, t' σ H Q → t σ H Q) : PE X e t' := ⟨fun pins s σ H Q I q => h.run pins s σ H Q I (i σ H Q q)⟩
theorem _root_.L2.PE.or {e : Expr} {t t' : TE} (h : PE X e t) (h' : PE X e t') : PE X e (fun σ H Q => t σ H Q ∨ t' σ H Q) :=
  ⟨fun pins s σ H Q I q => q.elim (h.run pins s σ H Q I) (h'.run pins s σ H Q I)⟩
theorem _root_.L2.PT.imp {e : Expr} {t t' : TT} (h : PT X e t) (i : ∀ σ H Q, t' σ H Q → t σ H Q) : PT X e t' := ⟨fun pins s σ H Q I q => h.run pins s σ H Q I (i σ H Q q)⟩
theorem _root_.L2.PS.imp {e : Stmt} {t t' : TS} (h : PS X e t) (i : ∀ D σ H, t' D σ H → t D σ H) : PS X e t' := ⟨fun pins s σ H D I q => h.run pins s σ H D I (i D σ H q)⟩
theorem _root_.L2.PSs.imp {e : List Stmt} {t t' : TS} (h : PSs X e t) (i : ∀ D σ H, t' D σ H → t D σ H) : PSs X e t' := ⟨fun pins s σ H D I q => h.run pins s σ H D I (i D σ H q)⟩
theorem _root_.L2.PA.imp {e : List Expr} {t t' : TA} (h : PA X e t) (i : ∀ σ H Q, t' σ H Q → t σ H Q) : PA X e t' := ⟨fun pos pins s σ H Q I q => h.run pos pins s σ H Q I (i σ H Q q)⟩
theorem Post.ext {Q : VK} {E : XK} {r : R D} (e : Ext W H W' H') (h : Post N W H Q E r) : Post N W' H' Q E r := by
  cases r with
  | ok d st => exact fun W2 v H2 e2 hr rp => h W2 v H2 (e.trans e2) hr rp
  | exc x st => exact fun W2 c dd H2 e2 hr rp => h W2 c dd H2 (e.trans e2) hr rp
  | bad => exact h
theorem Post.mono {Q Q' : VK} {E E' : XK} {r : R D} (h : Post N W H Q E r) (hq : ∀ v H', Q v H' → Q' v H') (he : ∀ c d H', E c d H' → E' c d H') : Post N W H Q' E' r := by
  cases r with
  | ok d st => exact fun W2 v H2 e2 hr rp => hq _ _ (h W2 v H2 e2 hr rp)
  | exc x st => exact fun W2 c dd H2 e2 hr rp => he _ _ _ (h W2 c dd H2 e2 hr rp)
  | bad => exact h
/-- a part is reckoned, then the rest -/
theorem rd_bind {m : M} {f : D → Sto → R D} {Q Q2 : VK} (hr : HR N.K W H st) (hs : SR N.K W sh sl)
    (h : Post N W H Q (fun cls dd H' => Wx cls dd sh H') ((m sl st).bind f))
    (k : ∀ d st1 W1 v H1, m sl st = .ok d st1 → Ext W H W1 H1 → HR N.K W1 H1 st1 → SR N.K W1 sh sl → rep N.K W1 v d → Post N W1 H1 Q (fun cls dd H' => Wx cls dd sh H') (f d st1) → Q2 v H1) : rd N Wx m sh H Q2 := by
  refine ⟨W, sl, st, hr, hs, ?_⟩
  cases e : m sl st with
  | ok d st1 => rw [e] at h; exact fun W1 v H1 e1 h1 r1 => k d st1 W1 v H1 e e1 h1 (hs.ext e1) r1 (Post.ext e1 h)
  | exc x st1 => rw [e] at h; exact h
  | bad => rw [e] at h; exact h
end
end Pv
set_option Elab.async false
set_option linter.all false
set_option maxRecDepth 100000
set_option maxHeartbeats 4000000
namespace Pv
open PySem PySem.Spec L2
open PyProof.Rows hiding St

/-! ### views -/
def deref (st : Sto) (d : D) : D :=
  match d with
  | .dict [(.int r, .none)] => (match st[r.toNat]? with | some (.lst ds) => .list ds | _ => d)
  | .dict [(.none, .tuple ds)] => .tuple ds
  | _ => d
@[simp] theorem deref_gc (st : Sto) (ds : List D) : deref st (Gc ds) = .tuple ds := rfl
@[simp] theorem deref_gs (st : Sto) (ds : List D) : deref st (Gs ds) = Gs ds := rfl
@[simp] theorem deref_none (st : Sto) : deref st .none = .none := rfl
@[simp] theorem deref_bool (st : Sto) (b : Bool) : deref st (.bool b) = .bool b := rfl
@[simp] theorem deref_int (st : Sto) (i : Int) : deref st (.int i) = .int i := rfl
@[simp] theorem deref_str (st : Sto) (x : Str) : deref st (.str x) = .str x := rfl
@[simp] theorem deref_list (st : Sto) (ds : List D) : deref st (.list ds) = .list ds := rfl
@[simp] theorem deref_tuple (st : Sto) (ds : List D) : deref st (.tuple ds) = .tuple ds := rfl
theorem deref_ref (st : Sto) (r : Nat) : deref st (Rf r) = (match st[r]? with | some (.lst ds) => .list ds | _ => Rf r) := by
  show (match st[(r : Int).toNat]? with | some (.lst ds) => PyData.list ds | _ => Rf r) = _
  rw [Int.toNat_natCast]

section
variable {K : PySem.W.Frag} {W W' : Wd} {H H' : Hp} {st st' : Sto} {v : V} {vs us : List V} {d : D} {ds es : List D} {a : Addr}
theorem repL_length : ∀ {vs : List V} {ds : List D}, repL K W vs ds → vs.length = ds.length
  | _, [], h => by cases h; rfl
  | _, d :: ds, ⟨v, us, e, _, l⟩ => by rw [e, List.length_cons, List.length_cons, repL_length l]
theorem repL_get : ∀ {vs : List V} {ds : List D} (i : Nat) {d : D}, repL K W vs ds → ds[i]? = some d → ∃ v, vs[i]? = some v ∧ rep K W v d
  | _, [], i, _, _, e => by simp at e
  | _, d :: ds, 0, _, ⟨v, us, e, r, l⟩, h => by simp at h; subst h; subst e; exact ⟨v, rfl, r⟩
  | _, d :: ds, i + 1, _, ⟨v, us, e, r, l⟩, h => by subst e; simpa using repL_get i l (by simpa using h)
theorem repL_get' : ∀ {vs : List V} {ds : List D} (i : Nat) {v : V}, repL K W vs ds → vs[i]? = some v → ∃ d, ds[i]? = some d ∧ rep K W v d
  | _, [], i, _, h, e => by cases h; simp at e
  | _, d :: ds, 0, _, ⟨v, us, e, r, l⟩, h => by subst e; simp at h; subst h; exact ⟨d, rfl, r⟩
  | _, d :: ds, i + 1, _, ⟨v, us, e, r, l⟩, h => by subst e; simpa using repL_get' i l (by simpa using h)
theorem repL_append : ∀ {vs us : List V} {ds es : List D}, repL K W vs ds → repL K W us es → repL K W (vs ++ us) (ds ++ es)
  | _, _, [], _, h, k => by cases h; exact k
  | _, _, d :: ds, _, ⟨v, ws, e, r, l⟩, k => by subst e; exact ⟨v, ws ++ _, rfl, r, repL_append l k⟩
theorem repL_take : ∀ {vs : List V} {ds : List D} (n : Nat), repL K W vs ds → repL K W (vs.take n) (ds.take n)
  | _, _, 0, _ => by simp [repL]
  | _, [], n + 1, h => by cases h; simp [repL]
  | _, d :: ds, n + 1, ⟨v, ws, e, r, l⟩ => by subst e; exact ⟨v, _, rfl, r, repL_take n l⟩
theorem repL_drop : ∀ {vs : List V} {ds : List D} (n : Nat), repL K W vs ds → repL K W (vs.drop n) (ds.drop n)
  | _, _, 0, h => by simpa using h
  | _, [], n + 1, h => by cases h; simp [repL]
  | _, d :: ds, n + 1, ⟨v, ws, e, r, l⟩ => by subst e; simpa using repL_drop n l
theorem repL_one (h : rep K W v d) : repL K W [v] [d] := ⟨v, [], rfl, h, rfl⟩
theorem repL_set : ∀ {vs : List V} {ds : List D} (i : Nat), repL K W vs ds → rep K W v d → repL K W (vs.set i v) (ds.set i d)
  | _, [], i, h, _ => by cases h; simp [repL]
  | _, e :: ds, 0, ⟨w, ws, q, r, l⟩, k => by subst q; exact ⟨v, ws, rfl, k, l⟩
  | _, e :: ds, i + 1, ⟨w, ws, q, r, l⟩, k => by subst q; exact ⟨w, _, rfl, r, repL_set i l k⟩
theorem repL_reverse {vs : List V} {ds : List D} (h : repL K W vs ds) : repL K W vs.reverse ds.reverse := by
  induction ds generalizing vs with
  | nil => cases h; simp [repL]
  | cons d ds ih =>
    obtain ⟨v, ws, e, r, l⟩ := h
    subst e
    rw [List.reverse_cons, List.reverse_cons]
    exact repL_append (ih l) (repL_one r)
/-- scalars are what they say -/
theorem rep_int {i : Int} (h : rep K W v (.int i)) : v = .int i := h
theorem rep_of_deref_scalar (hr : HR K W H st) (h : rep K W v d) : (∀ i, deref st d = .int i → v = .int i) ∧ (∀ b, deref st d = .bool b → v = .bl b) ∧ (∀ x, deref st d = .str x → v = .str x) ∧ (deref st d = .none → v = .non) := by
  cases d with
  | none => exact ⟨fun _ e => by simp at e, fun _ e => by simp at e, fun _ e => by simp at e, fun _ => h⟩
  | bool b => exact ⟨fun _ e => by simp at e, fun _ e => by simp at e; subst e; exact h, fun _ e => by simp at e, fun e => by simp at e⟩
  | int i => exact ⟨fun _ e => by simp at e; subst e; exact h, fun _ e => by simp at e, fun _ e => by simp at e, fun e => by simp at e⟩
  | str x => exact ⟨fun _ e => by simp at e, fun _ e => by simp at e, fun _ e => by simp at e; subst e; exact h, fun e => by simp at e⟩
  | list ds => exact ⟨fun _ e => by simp at e, fun _ e => by simp at e, fun _ e => by simp at e, fun e => by simp at e⟩
  | tuple ds => exact ⟨fun _ e => by simp at e, fun _ e => by simp at e, fun _ e => by simp at e, fun e => by simp at e⟩
  | dict kvs =>
    rcases rep_dict h with ⟨r, a, e, _, _⟩ | ⟨ds, a, xs, e, _, _⟩ | ⟨ds, a, xs, e, _, _⟩ | ⟨ae, ade, ce, nse, fse, he⟩
    · subst e
      have q := deref_ref st r
      refine ⟨fun _ e => ?_, fun _ e => ?_, fun _ e => ?_, fun e => ?_⟩ <;> (rw [q] at e; split at e <;> simp at e)
    · subst e
      exact ⟨fun _ e => by simp at e, fun _ e => by simp at e, fun _ e => by simp at e, fun e => by simp at e⟩
    · subst e
      exact ⟨fun _ e => by simp at e, fun _ e => by simp at e, fun _ e => by simp at e, fun e => by simp at e⟩
    · subst he
      exact ⟨fun _ e => (by cases e), fun _ e => (by cases e), fun _ e => (by cases e), fun e => (by cases e)⟩
theorem rep_dint (hr : HR K W H st) (h : rep K W v d) {i : Int} (e : deref st d = .int i) : v = .int i := (rep_of_deref_scalar hr h).1 i e
theorem rep_dbool (hr : HR K W H st) (h : rep K W v d) {i : Bool} (e : deref st d = .bool i) : v = .bl i := (rep_of_deref_scalar hr h).2.1 i e
theorem rep_dstr (hr : HR K W H st) (h : rep K W v d) {i : Str} (e : deref st d = .str i) : v = .str i := (rep_of_deref_scalar hr h).2.2.1 i e
theorem rep_dnone (hr : HR K W H st) (h : rep K W v d) (e : deref st d = .none) : v = .non := (rep_of_deref_scalar hr h).2.2.2 e
theorem rep_dlist (hr : HR K W H st) (h : rep K W v d) (e : deref st d = .list ds) : ∃ a xs, v = .ref a ∧ H a = some (.lst xs) ∧ repL K W xs ds := by
  cases d with
  | list es => simp at e; subst e; obtain ⟨a, xs, q, f, l⟩ := h; exact ⟨a, xs, q, hr.sub _ _ f, l⟩
  | dict kvs =>
    rcases rep_dict h with ⟨r, a, e1, e2, e3⟩ | ⟨ds', a, xs, e1, _, _⟩ | ⟨ds', a, xs, e1, _, _⟩ | ⟨ae, ade, ce, nse, fse, he⟩
    rotate_left
    · subst e1; simp at e
    · subst e1; simp at e
    · subst he; cases e
    subst e1
    rw [deref_ref] at e
    obtain ⟨m, hm, _, ho⟩ := hr.at e3
    rw [hm] at e
    cases m with
    | lst es =>
      simp at e; subst e
      obtain ⟨xs, f, l⟩ := ho
      exact ⟨a, xs, e2, f, l⟩
    | ro es => simp at e
    | dct es => simp at e
    | dctT es => simp at e
    | tb _ _ => simp at e
  | none => simp at e
  | bool b => simp at e
  | int b => simp at e
  | str b => simp at e
  | tuple b => simp at e
theorem rep_dgs (hr : HR K W H st) (h : rep K W v d) (e : deref st d = Gs ds) : ∃ a xs, v = .ref a ∧ SqL K H a xs ∧ repL K W xs ds := by
  cases d with
  | dict kvs =>
    rcases rep_dict h with ⟨r, a, e1, e2, e3⟩ | ⟨ds', a, xs, e1, e2, f, l⟩ | ⟨ds', a, xs, e1, e2, f, l⟩ | ⟨ae, ade, ce, nse, fse, he⟩
    · subst e1
      rw [deref_ref] at e
      split at e <;> simp at e
    · subst e1; simp at e
    · subst e1
      simp at e
      subst e
      exact ⟨a, xs, e2, sqL_mono hr.sub f, l⟩
    · subst he; cases e
  | _ => simp at e
theorem rep_dtuple (hr : HR K W H st) (h : rep K W v d) (e : deref st d = .tuple ds) : ∃ a xs, v = .ref a ∧ SqT K H a xs ∧ repL K W xs ds := by
  cases d with
  | tuple es => simp at e; subst e; obtain ⟨a, xs, q, f, l⟩ := h; exact ⟨a, xs, q, .inl (.inl (hr.sub _ _ f)), l⟩
  | dict kvs =>
    rcases rep_dict h with ⟨r, a, e1, e2, e3⟩ | ⟨ds', a, xs, e1, e2, f, l⟩ | ⟨ds', a, xs, e1, _, _⟩ | ⟨ae, ade, ce, nse, fse, he⟩
    · subst e1
      rw [deref_ref] at e
      split at e <;> simp at e
    · subst e1
      simp at e
      subst e
      exact ⟨a, xs, e2, f.T hr.sub, l⟩
    · subst e1; simp at e
    · subst he; cases e
  | none => simp at e
  | bool b => simp at e
  | int b => simp at e
  | str b => simp at e
  | list b => simp at e
end

/-! ### operations by values -/
abbrev F2 := D → D → Sto → R D
abbrev F1 := D → Sto → R D
def mOp2 (f : F2) (a b : M) : M := fun sl st => (a sl st).bind fun x st => (b sl st).bind fun y st => f x y st
def mOp1 (f : F1) (a : M) : M := fun sl st => (a sl st).bind fun x st => f x st
def Ok2 (N : Nv) (r : R2) (f : F2) : Prop := ∀ W H st x y dx dy Q, HR N.K W H st → rep N.K W x dx → rep N.K W y dy → Post N W H Q (fun _ _ _ => False) (f dx dy st) → r x y H Q
def Ok1 (N : Nv) (r : V → Hp → VK → Prop) (f : F1) : Prop := ∀ W H st x dx Q, HR N.K W H st → rep N.K W x dx → Post N W H Q (fun _ _ _ => False) (f dx st) → r x H Q
def noExc (r : R D) : R D := match r with | .exc _ _ => .bad | r => r
section
variable {X : Cx} {Wx : WX} {ea eb e : Expr} {ma mb mc : M} {r : R2} {f : F2} {pos : Pos}
/-- from a reading of two parts, one after another -/
theorem ge_op2 (hx : ∀ x y st ex s2, f x y st ≠ .exc ex s2) (ok : Ok2 (nv X) r f) (h : PE X e (tOp r (rd (nv X) Wx ma) (rd (nv X) Wx mb))) : GE X Wx e (mOp2 f ma mb) := by
  refine h.imp fun sh H Q ⟨W, sl, st, hr, hs, p⟩ => ?_
  refine rd_bind hr hs p fun d1 st1 W1 v1 H1 e1 x1 h1 s1 r1 p1 => ?_
  refine rd_bind h1 s1 p1 fun d2 st2 W2 v2 H2 e2 x2 h2 s2 r2 p2 => ?_
  refine ok W2 H2 st2 v1 v2 d1 d2 Q h2 (x2.rep r1) r2 ?_
  cases q : f d1 d2 st2 with
  | ok d st3 => rw [q] at p2; exact p2
  | bad => rw [q] at p2; exact p2
  | exc ex s3 => exact absurd q (hx _ _ _ _ _)
theorem ge_op1 {r : V → Hp → VK → Prop} {f : F1} (hx : ∀ x st ex s2, f x st ≠ .exc ex s2) (ok : Ok1 (nv X) r f) (h : PE X e (fun σ H Q => rd (nv X) Wx ma σ H fun x H1 => r x H1 Q)) : GE X Wx e (mOp1 f ma) := by
  refine h.imp fun sh H Q ⟨W, sl, st, hr, hs, p⟩ => ?_
  refine rd_bind hr hs p fun d1 st1 W1 v1 H1 e1 x1 h1 s1 r1 p1 => ?_
  refine ok W1 H1 st1 v1 d1 Q h1 r1 ?_
  cases q : f d1 st1 with
  | ok d st3 => rw [q] at p1; exact p1
  | bad => rw [q] at p1; exact p1
  | exc ex s3 => exact absurd q (hx _ _ _ _)
theorem Ok2.or {N : Nv} {r r' : R2} (h : ∀ W H st x y dx dy Q, HR N.K W H st → rep N.K W x dx → rep N.K W y dy → Post N W H Q (fun _ _ _ => False) (f dx dy st) → r x y H Q ∨ r' x y H Q) : Ok2 N (fun x y H Q => r x y H Q ∨ r' x y H Q) f := h
/-- a scalar result, the store as it is -/
theorem Post.val {N : Nv} {W : Wd} {H : Hp} {st : Sto} {Q : VK} {E : XK} {d : D} {v : V} (hr : HR N.K W H st) (p : Post N W H Q E (.ok d st)) (h : rep N.K W v d) : Q v H := p W v H .refl hr h
/-- a new tuple, a new list -/
theorem Post.tup {N : Nv} {W : Wd} {H : Hp} {st : Sto} {Q : VK} {E : XK} {xs : List V} {ds : List D} (hr : HR N.K W H st) (p : Post N W H Q E (.ok (.tuple ds) st)) (h : repL N.K W xs ds) : ∀ a, H a = none → Q (.ref a) (upd H a (.tup xs)) := fun a ha => by
  obtain ⟨h1, h2⟩ := hr.new (o := .tup xs) ha
  exact p _ _ _ h2 h1 ⟨a, xs, rfl, upd_same, h2.repL h⟩
theorem Post.lst {N : Nv} {W : Wd} {H : Hp} {st : Sto} {Q : VK} {E : XK} {xs : List V} {ds : List D} (hr : HR N.K W H st) (p : Post N W H Q E (.ok (.list ds) st)) (h : repL N.K W xs ds) : ∀ a, H a = none → Q (.ref a) (upd H a (.lst xs)) := fun a ha => by
  obtain ⟨h1, h2⟩ := hr.new (o := .lst xs) ha
  exact p _ _ _ h2 h1 ⟨a, xs, rfl, upd_same, h2.repL h⟩
end

/-! ### names and constants -/
def mVar (i : Nat) : M := fun sl st => match sl[i]? with | some (some d) => .ok d st | _ => .bad
def mC (d : D) : M := fun _ st => .ok d st
/-- what the written part says of a constant of the module -/
def GlobIs (N : Nv) (u : V) (d : D) : Prop := ∀ W, rep N.K W u d
section
variable {X : Cx} {Wx : WX} {pos : Pos}
theorem ge_var (i : Nat) {x : Str} (hN : X.N[i]? = some x := by rfl) (hv : Vis X.env.scope x := by first | exact Or.inl rfl | exact Or.inr (Or.inl rfl) | exact Or.inr (Or.inr rfl)) (hd : (x == ("__debug__" : Str)) = false := by decide +kernel)
    (hcd : (x == ("__classdict__" : Str)) = false := by decide +kernel) : GE X Wx (.Name x pos) (mVar i) := by
  refine (pe_var hN hv hd hcd).imp fun sh H Q ⟨W, sl, st, hr, hs, p⟩ => ?_
  unfold mVar at p
  split at p
  · rename_i d e
    obtain ⟨v, e1, r1⟩ := hs.at_ i d e
    exact ⟨v, e1, p.val hr r1⟩
  · exact p.elim
theorem ge_c {e : Expr} {v : V} {d : D} (h : PE X e (tC v)) (r : ∀ W, rep X.K W v d) : GE X Wx e (mC d) := h.imp fun _ _ _ ⟨W, _, _, hr, _, p⟩ => p.val hr (r W)
theorem ge_int {i : Int} {j} : GE X Wx (.Constant (.int i) j pos) (mC (.int i)) := ge_c pe_int fun _ => rfl
theorem ge_bool {b : Bool} {j} : GE X Wx (.Constant (.bool b) j pos) (mC (.bool b)) := ge_c pe_bl fun _ => rfl
theorem ge_none {j} : GE X Wx (.Constant .none j pos) (mC .none) := ge_c pe_non fun _ => rfl
theorem ge_str {x : Str} {j} : GE X Wx (.Constant (.str x) j pos) (mC (.str x)) := ge_c pe_str fun _ => rfl
theorem ge_glob {x : Str} {u : Value} {v : V} {d : D} (hg : Gl X x) (hm : X.mg x = some u) (r : RelV v u) (g : GlobIs (nv X) v d) (hd : (x == ("__debug__" : Str)) = false := by decide +kernel) : GE X Wx (.Name x pos) (mC d) := ge_c (pe_glob hg hm r hd) g
end

/-! ### arithmetic -/
def dAdd : D → D → Option D
  | .int i, .int j => some (.int (i + j))
  | .int i, .bool k => some (.int (i + b2i k))
  | .bool k, .int j => some (.int (b2i k + j))
  | .bool k, .bool l => some (.int (b2i k + b2i l))
  | .str a, .str b => if a.length + b.length ≤ sizeLine then some (.str (a ++ b)) else none
  | .list a, .list b => if a.length + b.length ≤ sizeLine then some (.list (a ++ b)) else none
  | _, _ => none
def dAddT (a b : List D) : Option D := if a.length + b.length ≤ sizeLine then some (.tuple (a ++ b)) else none
def onD2 (g : D → D → Option D) : F2 := fun x y st => lift (g (deref st x) (deref st y)) st
def onD1 (g : D → Option D) : F1 := fun x st => lift (g (deref st x)) st
theorem onD2_nx {g : D → D → Option D} (x y : D) (st : Sto) (ex : XV) (s2 : Sto) : onD2 g x y st ≠ .exc ex s2 := by
  unfold onD2 lift; split <;> simp
theorem onD1_nx {g : D → Option D} (x : D) (st : Sto) (ex : XV) (s2 : Sto) : onD1 g x st ≠ .exc ex s2 := by
  unfold onD1 lift; split <;> simp
/-- what onD2 asks, by the operation's own cases -/
theorem onD2_post {N : Nv} {W : Wd} {H : Hp} {Q : VK} {E : XK} {g : D → D → Option D} {x y : D} {st : Sto} (p : Post N W H Q E (onD2 g x y st)) : ∃ d, g (deref st x) (deref st y) = some d ∧ Post N W H Q E (.ok d st) := by
  unfold onD2 lift at p
  split at p
  · rename_i d e; exact ⟨d, e, p⟩
  · exact p.elim
theorem onD1_post {N : Nv} {W : Wd} {H : Hp} {Q : VK} {E : XK} {g : D → Option D} {x : D} {st : Sto} (p : Post N W H Q E (onD1 g x st)) : ∃ d, g (deref st x) = some d ∧ Post N W H Q E (.ok d st) := by
  unfold onD1 lift at p
  split at p
  · rename_i d e; exact ⟨d, e, p⟩
  · exact p.elim
def fAdd : F2 := fun x y st =>
  match x, y with
  | .tuple a, .tuple b => lift (dAddT a b) st
  | .dict [(.none, .tuple a)], .dict [(.none, .tuple b)] => if a.length + b.length ≤ sizeLine then .ok (Gc (a ++ b)) st else .bad
  | _, _ => onD2 dAdd x y st
theorem fAdd_nx (x y : D) (st : Sto) (ex : XV) (s2 : Sto) : fAdd x y st ≠ .exc ex s2 := by
  unfold fAdd
  split
  · unfold lift; split <;> simp
  · split <;> simp
  · exact onD2_nx _ _ _ _ _
def mAdd : M → M → M := mOp2 fAdd
section
variable {X : Cx} {Wx : WX} {ea eb e : Expr} {ma mb mc : M} {pos : Pos}
theorem op_add_bi : OpR X (binaryOp .Add) (fun x y H Q => ∃ k j, x = .bl k ∧ y = .int j ∧ Q (.int (b2i k + j)) H) := by
  intro pins s sh H x y v u Q I rx ry ⟨k, j, ex, ey, q⟩
  subst ex ey
  cases rx
  obtain ⟨t, rfl⟩ := ry
  exact PySem.IntBool.add_bool_int ⟨.int (b2i k + j), H, I.tok _, ⟨_, rfl⟩, q⟩
theorem op_add_bb : OpR X (binaryOp .Add) (fun x y H Q => ∃ k l, x = .bl k ∧ y = .bl l ∧ Q (.int (b2i k + b2i l)) H) := by
  intro pins s sh H x y v u Q I rx ry ⟨k, l, ex, ey, q⟩
  subst ex ey
  cases rx
  cases ry
  exact add_bool ⟨.int (b2i k + b2i l), H, I.tok _, ⟨_, rfl⟩, q⟩
def rCatZ (K : PySem.W.Frag) : R2 := fun x y H Q => ∃ a b xs ys, x = .ref a ∧ y = .ref b ∧ SqT K H a xs ∧ SqT K H b ys ∧ xs.length + ys.length ≤ sizeLine ∧ (xs = [] → Q (.ref b) H) ∧ (xs ≠ [] → ys = [] → Q (.ref a) H) ∧
  (xs ≠ [] → ys ≠ [] → ∀ p o, H p = none → o.dict = none → Q (.ref p) (upd H p (.frz o (.tup (xs ++ ys)))))
theorem op_catZ : OpR X (binaryOp .Add) (rCatZ X.K) := by
  intro pins s σ H x y v u Q I rx ry h
  obtain ⟨a, b, xs, ys, rfl, rfl, ha, hb, hz, q0, q1, q2⟩ := h
  cases rx
  cases ry
  obtain ⟨its, r1, p1, _⟩ := I.tuple ha
  obtain ⟨its2, r2, p2, _⟩ := I.tuple hb
  by_cases hx : xs = []
  · subst hx
    cases r1
    exact cat_tup0 p1 p2 ⟨.ref b, H, I, rfl, q0 rfl⟩
  · refine HT.cat_tup p1 p2 (fun z => hx (r1.nil_iff.mp z)) (fun z => ⟨.ref a, H, I, rfl, q1 hx (r2.nil_iff.mp z)⟩) (fun z => ?_) (by rw [← r1.length, ← r2.length]; exact hz)
    refine ⟨.ref s.heap.objs.size, _, I.laid (t' := s.toks) (o := .frz { cls := .type "tuple", data := .seq (its ++ its2).toArray } (.tup (xs ++ ys))) (fun b ob q => Heap.get?_push_of_some _ q) (Nat.le_refl _) ?_, rfl, q2 hx (fun w => z (r2.nil_iff.mpr w)) _ _ (I.hok.fresh (Nat.le_refl _)) rfl⟩
    exact ⟨Heap.get?_push_size _ rfl, by rw [List.length_append]; exact hz, _, r1.append r2, IsTup.new _ _⟩
theorem ge_add (ha : GE X Wx ea ma) (hb : GE X Wx eb mb) : GE X Wx (.BinOp ea .Add eb pos) (mAdd ma mb) := by
  refine ge_op2 fAdd_nx ?_ (pe_op (((((op_add.or op_add_str).or op_cat).or op_catA).or ((op_add_ib.or op_add_bi).or op_add_bb)).or op_catZ) ha hb)
  intro W H st x y dx dy Q hr rx ry p0
  unfold fAdd at p0
  split at p0
  · rename_i a b
    unfold dAddT lift at p0
    split at p0
    · rename_i d e
      split at e
      · rename_i hl
        cases e
        obtain ⟨a1, xs, e1, h1, l1⟩ := rx
        obtain ⟨a2, ys, e2, h2, l2⟩ := ry
        subst e1; subst e2
        refine .inl (.inl (.inr ⟨a1, a2, xs, ys, rfl, rfl, .inl (.inl (hr.sub _ _ h1)), .inl (.inl (hr.sub _ _ h2)), by rw [repL_length l1, repL_length l2]; exact hl, fun z => ?_, fun _ z => ?_, fun _ _ => p0.tup hr (repL_append l1 l2)⟩))
        · have : a = [] := by cases a with | nil => rfl | cons q qs => obtain ⟨_, _, w, _, _⟩ := l1; rw [z] at w; cases w
          subst this
          rw [List.nil_append] at p0
          exact p0.val hr ⟨a2, ys, rfl, h2, l2⟩
        · have : b = [] := by cases b with | nil => rfl | cons q qs => obtain ⟨_, _, w, _, _⟩ := l2; rw [z] at w; cases w
          subst this
          rw [List.append_nil] at p0
          exact p0.val hr ⟨a1, xs, rfl, h1, l1⟩
      · cases e
    · exact p0.elim
  · rename_i a b
    split at p0
    · rename_i hz
      obtain ⟨c, xs, e1, z1, l1⟩ := rx
      obtain ⟨d, ys, e2, z2, l2⟩ := ry
      refine .inr ⟨c, d, xs, ys, e1, e2, z1.T hr.sub, z2.T hr.sub, by rw [repL_length l1, repL_length l2]; exact hz, fun hx => ?_, fun _ hy => ?_, fun _ _ p o hp ho => ?_⟩
      · subst hx
        have : a = [] := by have := repL_length l1; simpa using this.symm
        subst this
        rw [List.nil_append] at p0
        exact p0.val hr ⟨d, ys, rfl, z2, l2⟩
      · subst hy
        have : b = [] := by have := repL_length l2; simpa using this.symm
        subst this
        rw [List.append_nil] at p0
        exact p0.val hr ⟨c, xs, rfl, z1, l1⟩
      · obtain ⟨h2, x2⟩ := hr.new (o := .frz o (.tup (xs ++ ys))) hp
        exact p0 _ (.ref p) _ x2 h2 ⟨p, xs ++ ys, rfl, .inr ⟨o, upd_same, ho⟩, x2.repL (repL_append l1 l2)⟩
    · exact p0.elim
  · obtain ⟨d, e, p⟩ := onD2_post p0
    clear p0
    cases hx : deref st dx with
    | int i =>
      cases hy : deref st dy with
      | int j => rw [hx, hy] at e; cases e; rw [rep_dint hr rx hx, rep_dint hr ry hy]; exact .inl (.inl (.inl (.inl (.inl ⟨i, j, rfl, rfl, p.val hr rfl⟩))))
      | bool k => rw [hx, hy] at e; cases e; rw [rep_dint hr rx hx, rep_dbool hr ry hy]; exact .inl (.inr (.inl (.inl ⟨i, k, rfl, rfl, p.val hr rfl⟩)))
      | _ => rw [hx, hy] at e; cases e
    | bool k =>
      cases hy : deref st dy with
      | int j => rw [hx, hy] at e; cases e; rw [rep_dbool hr rx hx, rep_dint hr ry hy]; exact .inl (.inr (.inl (.inr ⟨k, j, rfl, rfl, p.val hr rfl⟩)))
      | bool l => rw [hx, hy] at e; cases e; rw [rep_dbool hr rx hx, rep_dbool hr ry hy]; exact .inl (.inr (.inr ⟨k, l, rfl, rfl, p.val hr rfl⟩))
      | _ => rw [hx, hy] at e; cases e
    | str a =>
      cases hy : deref st dy with
      | str b =>
        rw [hx, hy] at e
        simp only [dAdd] at e
        split at e
        · rename_i hl
          cases e; rw [rep_dstr hr rx hx, rep_dstr hr ry hy]; exact .inl (.inl (.inl (.inl (.inr ⟨a, b, rfl, rfl, hl, p.val hr rfl⟩))))
        · cases e
      | _ => rw [hx, hy] at e; cases e
    | list a =>
      cases hy : deref st dy with
      | list b =>
        rw [hx, hy] at e
        simp only [dAdd] at e
        split at e
        · rename_i hl
          cases e
          obtain ⟨a1, xs, e1, h1, l1⟩ := rep_dlist hr rx hx
          obtain ⟨a2, ys, e2, h2, l2⟩ := rep_dlist hr ry hy
          exact .inl (.inl (.inl (.inr ⟨a1, a2, xs, ys, e1, e2, h1, h2, by rw [repL_length l1, repL_length l2]; exact hl, p.lst hr (repL_append l1 l2)⟩)))
        · cases e
      | _ => rw [hx, hy] at e; cases e
    | _ => rw [hx] at e; cases e
/-- an operation of two ints -/
def dInt2 (c : Int → Int → Bool) (g : Int → Int → D) : D → D → Option D
  | .int i, .int j => if c i j then some (g i j) else none
  | _, _ => none
theorem dInt2_inv {c : Int → Int → Bool} {g : Int → Int → D} {x y d : D} (h : dInt2 c g x y = some d) : ∃ i j, x = .int i ∧ y = .int j ∧ c i j = true ∧ d = g i j := by
  unfold dInt2 at h
  split at h
  · rename_i i j
    split at h
    · rename_i hc; exact ⟨i, j, rfl, rfl, hc, (Option.some.inj h).symm⟩
    · cases h
  · cases h
theorem ok_int2 {N : Nv} {C : Int → Int → Prop} {gv : Int → Int → V} {c : Int → Int → Bool} {g : Int → Int → D} (hc : ∀ i j, c i j = true → C i j) (hg : ∀ i j W, rep N.K W (gv i j) (g i j)) : Ok2 N (rI C gv) (onD2 (dInt2 c g)) := by
  intro W H st x y dx dy Q hr rx ry p
  obtain ⟨d, e, p⟩ := onD2_post p
  obtain ⟨i, j, e1, e2, e3, e4⟩ := dInt2_inv e
  subst e4
  exact ⟨i, j, rep_dint hr rx e1, rep_dint hr ry e2, hc i j e3, p.val hr (hg i j W)⟩
theorem ok_int20 {N : Nv} {gv : Int → Int → V} {g : Int → Int → D} (hg : ∀ i j W, rep N.K W (gv i j) (g i j)) : Ok2 N (rI0 gv) (onD2 (dInt2 (fun _ _ => true) g)) := by
  intro W H st x y dx dy Q hr rx ry p
  obtain ⟨d, e, p⟩ := onD2_post p
  obtain ⟨i, j, e1, e2, e3, e4⟩ := dInt2_inv e
  subst e4
  exact ⟨i, j, rep_dint hr rx e1, rep_dint hr ry e2, p.val hr (hg i j W)⟩
def mSub : M → M → M := mOp2 (onD2 (dInt2 (fun _ _ => true) fun i j => .int (i - j)))
theorem ge_sub (ha : GE X Wx ea ma) (hb : GE X Wx eb mb) : GE X Wx (.BinOp ea .Sub eb pos) (mSub ma mb) :=
  ge_op2 onD2_nx (ok_int20 fun _ _ _ => rfl) (pe_op op_sub ha hb)
def mMod : M → M → M := mOp2 (onD2 (dInt2 (fun _ j => decide (0 < j)) fun i j => .int (i % j)))
theorem ge_mod (ha : GE X Wx ea ma) (hb : GE X Wx eb mb) : GE X Wx (.BinOp ea .Mod eb pos) (mMod ma mb) :=
  ge_op2 onD2_nx (ok_int2 (fun _ _ h => of_decide_eq_true h) fun _ _ _ => rfl) (pe_op op_mod ha hb)
def mFdiv : M → M → M := mOp2 (onD2 (dInt2 (fun _ j => decide (0 < j ∧ j < 1073741824)) fun i j => .int (i / j)))
theorem ge_fdiv (ha : GE X Wx ea ma) (hb : GE X Wx eb mb) : GE X Wx (.BinOp ea .FloorDiv eb pos) (mFdiv ma mb) :=
  ge_op2 onD2_nx (ok_int2 (fun _ _ h => of_decide_eq_true h) fun _ _ _ => rfl) (pe_op op_fdiv ha hb)
def mPow : M → M → M := mOp2 (onD2 (dInt2 (fun i j => decide (0 ≤ j ∧ j ≤ 1000000 ∧ i.natAbs < 2 ^ 64)) fun i j => .int (i ^ j.toNat)))
theorem ge_pow (ha : GE X Wx ea ma) (hb : GE X Wx eb mb) : GE X Wx (.BinOp ea .Pow eb pos) (mPow ma mb) :=
  ge_op2 onD2_nx (ok_int2 (fun _ _ h => of_decide_eq_true h) fun _ _ _ => rfl) (pe_op op_pow ha hb)
/-- i * j (one factor below 2 ^ 64), a tuple or a list or a text several times -/
def dMul : D → D → Option D
  | .int i, .int j => if (-(2 ^ 64) < i ∧ i < 2 ^ 64) ∨ (-(2 ^ 64) < j ∧ j < 2 ^ 64) then some (.int (i * j)) else none
  | _, _ => none
def mMul : M → M → M := mOp2 (onD2 dMul)
theorem ge_mul (ha : GE X Wx ea ma) (hb : GE X Wx eb mb) : GE X Wx (.BinOp ea .Mult eb pos) (mMul ma mb) := by
  refine ge_op2 onD2_nx ?_ (pe_op op_mul ha hb)
  intro W H st x y dx dy Q hr rx ry p
  obtain ⟨d, e, p⟩ := onD2_post p
  unfold dMul at e
  split at e
  · rename_i i j e1 e2
    split at e
    · rename_i hc
      cases e
      exact ⟨i, j, rep_dint hr rx e1, rep_dint hr ry e2, hc, p.val hr rfl⟩
    · cases e
  · cases e
def dNeg : D → Option D
  | .int i => some (.int (-i))
  | _ => none
def mNeg : M → M := mOp1 (onD1 dNeg)
theorem ge_neg (ha : GE X Wx ea ma) : GE X Wx (.UnaryOp .USub ea pos) (mNeg ma) := by
  refine ge_op1 onD1_nx ?_ (pe_un un_neg ha)
  intro W H st x dx Q hr rx p
  obtain ⟨d, e, p⟩ := onD1_post p
  unfold dNeg at e
  split at e
  · rename_i i e1; cases e; exact ⟨i, rep_dint hr rx e1, p.val hr rfl⟩
  · cases e
end
end Pv
set_option Elab.async false
set_option linter.all false
set_option maxRecDepth 100000
set_option maxHeartbeats 4000000
namespace Pv
open PySem PySem.Spec L2
open PyProof.Rows hiding St

/-! ### plain data: what is read of it -/
section
variable {K : PySem.W.Frag} {W : Wd} {H : Hp} {st : Sto} {v : V} {vs : List V}
mutual
theorem rep_dp (hs : ∀ b o, W.F b = some o → H b = some o) : ∀ {v : V} (d : D), d.canLay0 = true → rep K W v d → Dp K H v d
  | _, .none, _, h => by cases h; exact .non
  | _, .bool b, _, h => by cases h; exact .bl b
  | _, .int i, _, h => by cases h; exact .int i
  | _, .str x, _, h => by cases h; exact .str x
  | _, .list ds, hc, ⟨a, xs, e, f, l⟩ => by subst e; exact .lst (.inl (.inl (hs _ _ f))) (repL_dp hs ds (by simpa [PyData.canLay0] using hc) l)
  | _, .tuple ds, hc, ⟨a, xs, e, f, l⟩ => by subst e; exact .tup (.inl (.inl (hs _ _ f))) (repL_dp hs ds (by simpa [PyData.canLay0] using hc) l)
  | _, .dict _, hc, _ => by simp [PyData.canLay0] at hc
theorem repL_dp (hs : ∀ b o, W.F b = some o → H b = some o) : ∀ {vs : List V} (ds : List D), PyData.canLayAll0 ds = true → repL K W vs ds → DpAll K H vs ds
  | _, [], _, h => by cases h; exact .nil
  | _, d :: ds, hc, ⟨v, us, e, r, l⟩ => by
    simp only [PyData.canLayAll0, Bool.and_eq_true] at hc
    subst e; exact .cons (rep_dp hs d hc.1 r) (repL_dp hs ds hc.2 l)
end
theorem rep_dpR (hr : HR K W H st) {d e : D} (h : rep K W v d) (q : deref st d = e) (hc : e.canLay0 = true) : Dp K H v e := by
  cases d with
  | dict kvs =>
    cases e with
    | list ds =>
      obtain ⟨a, xs, e1, e2, l⟩ := rep_dlist hr h q
      subst e1
      exact .lst (.inl (.inl e2)) (repL_dp hr.sub ds (by simpa [PyData.canLay0] using hc) l)
    | tuple ds =>
      obtain ⟨a, xs, e1, e2, l⟩ := rep_dtuple hr h q
      subst e1
      exact .tup e2 (repL_dp hr.sub ds (by simpa [PyData.canLay0] using hc) l)
    | none => rw [rep_dnone hr h q]; exact .non
    | bool b => rw [rep_dbool hr h q]; exact .bl b
    | int b => rw [rep_dint hr h q]; exact .int b
    | str b => rw [rep_dstr hr h q]; exact .str b
    | dict _ => simp [PyData.canLay0] at hc
  | none => subst q; exact rep_dp hr.sub _ hc h
  | bool b => subst q; exact rep_dp hr.sub _ hc h
  | int b => subst q; exact rep_dp hr.sub _ hc h
  | str b => subst q; exact rep_dp hr.sub _ hc h
  | list b => subst q; exact rep_dp hr.sub _ hc h
  | tuple b => subst q; exact rep_dp hr.sub _ hc h
end

/-! ### order of data -/
mutual
def cmpD : D → D → Ordering
  | .int i, .int j => if i < j then .lt else if i = j then .eq else .gt
  | .str x, .str y => if x.cps.toList < y.cps.toList then .lt else if x = y then .eq else .gt
  | .tuple xs, .tuple ys => cmpDs xs ys
  | _, _ => .eq
def cmpDs : List D → List D → Ordering
  | [], [] => .eq
  | [], _ :: _ => .lt
  | _ :: _, [] => .gt
  | x :: xs, y :: ys => match cmpD x y with | .eq => cmpDs xs ys | o => o
end
mutual
/-- data that can be set in order: ints, texts, tuples of such, place by place of one kind -/
def ordD : D → D → Bool
  | .int _, .int _ => true
  | .str _, .str _ => true
  | .tuple xs, .tuple ys => ordDs xs ys
  | _, _ => false
def ordDs : List D → List D → Bool
  | [], _ => true
  | _, [] => true
  | x :: xs, y :: ys => ordD x y && ordDs xs ys
end
def cmpR (op : CmpOp) (o : Ordering) : Bool :=
  match op with
  | .Lt => o == .lt
  | .LtE => o != .gt
  | .Gt => o == .gt
  | .GtE => o != .lt
  | _ => false
def isOrd : CmpOp → Bool
  | .Lt | .LtE | .Gt | .GtE => true
  | _ => false
theorem str_lt_irrefl (x : Str) : ¬ x.cps.toList < x.cps.toList := List.lt_irrefl _
theorem str_lt_asymm {x y : Str} (h : x.cps.toList < y.cps.toList) : ¬ y.cps.toList < x.cps.toList := List.lt_asymm h
theorem str_total {x y : Str} (h : ¬ x.cps.toList < y.cps.toList) (n : x ≠ y) : y.cps.toList < x.cps.toList := by
  rcases Std.lt_trichotomy x.cps.toList y.cps.toList with q | q | q
  · exact absurd q h
  · exact absurd (by cases x; cases y; simp only at q; congr 1; exact Array.toList_inj.mp q) n
  · exact q
mutual
theorem cmpD_eqv : ∀ (x y : D), ordD x y = true → (cmpD x y = .eq ↔ PyData.eqv x y = true)
  | .int i, y, h => by
    cases y with
    | int j =>
      simp only [cmpD, PyData.eqv]
      by_cases h1 : i < j
      · simp [h1]; omega
      · by_cases h2 : i = j
        · simp [h2]
        · simp [h1, h2]
    | _ => simp [ordD] at h
  | .str x, y, h => by
    cases y with
    | str y =>
      simp only [cmpD, PyData.eqv]
      by_cases h1 : x.cps.toList < y.cps.toList
      · simp only [h1, if_true]
        constructor
        · intro q; cases q
        · intro q
          have : x = y := by simpa using q
          subst this
          exact absurd h1 (str_lt_irrefl _)
      · by_cases h2 : x = y
        · subst h2; simp [h1]
        · simp [h1, h2]
    | _ => simp [ordD] at h
  | .tuple xs, y, h => by
    cases y with
    | tuple ys =>
      simp only [ordD] at h
      simp only [cmpD, PyData.eqv]
      exact cmpDs_eqv xs ys h
    | _ => simp [ordD] at h
  | .none, _, h => by simp [ordD] at h
  | .bool _, _, h => by simp [ordD] at h
  | .list _, _, h => by simp [ordD] at h
  | .dict _, _, h => by simp [ordD] at h
theorem cmpDs_eqv : ∀ (xs ys : List D), ordDs xs ys = true → (cmpDs xs ys = .eq ↔ PyData.eqvAll xs ys = true)
  | [], [], _ => by simp [cmpDs, PyData.eqvAll]
  | [], _ :: _, _ => by simp [cmpDs, PyData.eqvAll]
  | _ :: _, [], _ => by simp [cmpDs, PyData.eqvAll]
  | x :: xs, y :: ys, h => by
    simp only [ordDs, Bool.and_eq_true] at h
    have h1 := cmpD_eqv x y h.1
    have h2 := cmpDs_eqv xs ys h.2
    simp only [cmpDs, PyData.eqvAll, Bool.and_eq_true]
    cases e : cmpD x y with
    | eq => rw [e] at h1; simp only [true_iff] at h1; simp [h1, h2]
    | lt =>
      rw [e] at h1
      have h1' : ¬ PyData.eqv x y = true := fun q => by have := h1.mpr q; cases this
      constructor
      · intro q; cases q
      · intro q; exact absurd q.1 h1'
    | gt =>
      rw [e] at h1
      have h1' : ¬ PyData.eqv x y = true := fun q => by have := h1.mpr q; cases this
      constructor
      · intro q; cases q
      · intro q; exact absurd q.1 h1'
end
/-- the tuple's loop is the order of lists -/
theorem lexAt_cmp (op : CmpOp) (hop : isOrd op = true) : ∀ (xs ys : List D) (e r : Nat → Bool) (i : Nat), ordDs xs ys = true →
    (∀ j x y, xs[j]? = some x → ys[j]? = some y → e (i + j) = PyData.eqv x y ∧ r (i + j) = cmpR op (cmpD x y)) →
    Ob.lexAt e r (cmpR op (compare xs.length ys.length)) i (min xs.length ys.length) = cmpR op (cmpDs xs ys)
  | [], [], e, r, i, _, _ => by
    simp [Ob.lexAt, cmpDs]
  | [], y :: ys, e, r, i, _, _ => by
    have : compare (0 : Nat) (ys.length + 1) = .lt := Nat.compare_eq_lt.mpr (Nat.succ_pos _)
    simp [Ob.lexAt, cmpDs, this]
  | x :: xs, [], e, r, i, _, _ => by
    have : compare (xs.length + 1) (0 : Nat) = .gt := Nat.compare_eq_gt.mpr (Nat.succ_pos _)
    simp [Ob.lexAt, cmpDs, this]
  | x :: xs, y :: ys, e, r, i, h, q => by
    simp only [ordDs, Bool.and_eq_true] at h
    have h0 := q 0 x y rfl rfl
    have hc := cmpD_eqv x y h.1
    have ih := lexAt_cmp op hop xs ys e r (i + 1) h.2 fun j a b h1 h2 => by
      have := q (j + 1) a b (by simpa using h1) (by simpa using h2)
      rw [show i + 1 + j = i + (j + 1) by omega]; exact this
    have hm : min (x :: xs).length (y :: ys).length = min xs.length ys.length + 1 := by simp only [List.length_cons]; omega
    have hcp : compare (x :: xs).length (y :: ys).length = compare xs.length ys.length := by
      simp only [List.length_cons]
      rcases Nat.lt_trichotomy xs.length ys.length with g | g | g
      · rw [Nat.compare_eq_lt.mpr g, Nat.compare_eq_lt.mpr (by omega)]
      · rw [Nat.compare_eq_eq.mpr g, Nat.compare_eq_eq.mpr (by omega)]
      · rw [Nat.compare_eq_gt.mpr g, Nat.compare_eq_gt.mpr (by omega)]
    rw [hm, hcp, Ob.lexAt_succ]
    simp only [Nat.add_zero] at h0
    rw [h0.1, h0.2, ih]
    cases e1 : cmpD x y with
    | eq => rw [if_pos (hc.mp e1)]; simp [cmpDs, e1]
    | lt => rw [if_neg (fun z => by have := hc.mpr z; rw [e1] at this; cases this)]; simp [cmpDs, e1]
    | gt => rw [if_neg (fun z => by have := hc.mpr z; rw [e1] at this; cases this)]; simp [cmpDs, e1]
theorem readsAll_at : ∀ {h : Heap} {vs : List Value} {ds : List PyData} {as : List Addr} (i : Nat) {d : PyData}, ReadsAll h vs ds as → ds[i]? = some d → ∃ v bs, vs[i]? = some v ∧ Reads h v d bs
  | _, _, _, _, i, _, .nil, e => by simp at e
  | _, _, _, _, 0, _, .cons r _, e => by simp at e; subst e; exact ⟨_, _, rfl, r⟩
  | _, _, _, _, i + 1, _, .cons _ t, e => by simpa using readsAll_at i t (by simpa using e)

theorem rc_int (op : CmpOp) (hop : isOrd op = true) (i j : Int) (A : Around) (s : Shared) (t u : Tok) : Ob.RcOp op A s (.int i t) (.int j u) (cmpR op (cmpD (.int i) (.int j))) := by
  have e : cmpD (.int i) (.int j) = if i < j then .lt else if i = j then .eq else .gt := by simp only [cmpD]
  rw [e]
  cases op with
  | Lt =>
    have e : cmpR .Lt (if i < j then .lt else if i = j then .eq else .gt) = decide (i < j) := by
      by_cases h1 : i < j
      · simp [h1, cmpR]
      · by_cases h2 : i = j <;> simp [h1, h2, cmpR]
    rw [e]; exact Ob.RcOp.lt_int i j t u
  | LtE =>
    have e : cmpR .LtE (if i < j then .lt else if i = j then .eq else .gt) = decide (i ≤ j) := by
      by_cases h1 : i < j
      · have : i ≤ j := by omega
        simp [h1, cmpR, this]
      · by_cases h2 : i = j
        · simp [h2, cmpR]
        · have : ¬ i ≤ j := by omega
          simp [h1, h2, cmpR, this]
    rw [e]; exact Ob.RcOp.le_int i j t u
  | Gt =>
    have e : cmpR .Gt (if i < j then .lt else if i = j then .eq else .gt) = decide (j < i) := by
      by_cases h1 : i < j
      · have : ¬ j < i := by omega
        simp [h1, cmpR, this]
      · by_cases h2 : i = j
        · simp [h2, cmpR]
        · have : j < i := by omega
          simp [h1, h2, cmpR, this]
    rw [e]; exact Ob.RcOp.gt_int i j t u
  | GtE =>
    have e : cmpR .GtE (if i < j then .lt else if i = j then .eq else .gt) = decide (j ≤ i) := by
      by_cases h1 : i < j
      · have : ¬ j ≤ i := by omega
        simp [h1, cmpR, this]
      · by_cases h2 : i = j
        · simp [h2, cmpR]
        · have : j ≤ i := by omega
          simp [h1, h2, cmpR, this]
    rw [e]; exact Ob.RcOp.ge_int i j t u
  | _ => simp [isOrd] at hop
theorem rc_str (op : CmpOp) (hop : isOrd op = true) (x y : Str) (A : Around) (s : Shared) (t u : Tok) : Ob.RcOp op A s (.str x t) (.str y u) (cmpR op (cmpD (.str x) (.str y))) := by
  have e : cmpD (.str x) (.str y) = if x.cps.toList < y.cps.toList then .lt else if x = y then .eq else .gt := by simp only [cmpD]
  rw [e]
  cases op with
  | Lt =>
    have e : cmpR .Lt (if x.cps.toList < y.cps.toList then .lt else if x = y then .eq else .gt) = decide (x.cps.toList < y.cps.toList) := by
      by_cases h1 : x.cps.toList < y.cps.toList
      · simp [h1, cmpR]
      · by_cases h2 : x = y
        · subst h2; simp [h1, cmpR]
        · simp [h1, h2, cmpR]
    rw [e]; exact fun prog w E Q q => PyProof.Rows.lt_str q
  | LtE =>
    have e : cmpR .LtE (if x.cps.toList < y.cps.toList then .lt else if x = y then .eq else .gt) = !decide (y.cps.toList < x.cps.toList) := by
      by_cases h1 : x.cps.toList < y.cps.toList
      · simp [h1, cmpR, str_lt_asymm h1]
      · by_cases h2 : x = y
        · subst h2; simp [h1, cmpR]
        · simp [h1, h2, cmpR, str_total h1 h2]
    rw [e]; exact fun prog w E Q q => PySem.P.le_str q
  | Gt =>
    have e : cmpR .Gt (if x.cps.toList < y.cps.toList then .lt else if x = y then .eq else .gt) = decide (y.cps.toList < x.cps.toList) := by
      by_cases h1 : x.cps.toList < y.cps.toList
      · simp [h1, cmpR, str_lt_asymm h1]
      · by_cases h2 : x = y
        · subst h2; simp [h1, cmpR]
        · simp [h1, h2, cmpR, str_total h1 h2]
    rw [e]; exact fun prog w E Q q => PySem.P.gt_str q
  | GtE =>
    have e : cmpR .GtE (if x.cps.toList < y.cps.toList then .lt else if x = y then .eq else .gt) = !decide (x.cps.toList < y.cps.toList) := by
      by_cases h1 : x.cps.toList < y.cps.toList
      · simp [h1, cmpR]
      · by_cases h2 : x = y
        · subst h2; simp [h1, cmpR]
        · simp [h1, h2, cmpR]
    rw [e]; exact fun prog w E Q q => PySem.P.ge_str q
  | _ => simp [isOrd] at hop

theorem cmp_len (op : CmpOp) (n m : Nat) : (op = .Lt → cmpR op (compare n m) = decide (n < m)) ∧ (op = .LtE → cmpR op (compare n m) = decide (n ≤ m)) ∧ (op = .Gt → cmpR op (compare n m) = decide (n > m)) ∧ (op = .GtE → cmpR op (compare n m) = decide (n ≥ m)) := by
  rcases Nat.lt_trichotomy n m with g | g | g
  · have a1 : n ≤ m := by omega
    have a2 : ¬ n > m := by omega
    have a3 : ¬ n ≥ m := by omega
    rw [Nat.compare_eq_lt.mpr g]
    refine ⟨fun z => ?_, fun z => ?_, fun z => ?_, fun z => ?_⟩ <;> (subst z; simp [cmpR, g, a1, a2, a3])
  · subst g
    rw [Nat.compare_eq_eq.mpr rfl]
    refine ⟨fun z => ?_, fun z => ?_, fun z => ?_, fun z => ?_⟩ <;> (subst z; simp [cmpR])
  · have a1 : ¬ n ≤ m := by omega
    have a2 : ¬ n < m := by omega
    have a3 : n ≥ m := by omega
    rw [Nat.compare_eq_gt.mpr g]
    refine ⟨fun z => ?_, fun z => ?_, fun z => ?_, fun z => ?_⟩ <;> (subst z; simp [cmpR, g, a1, a2, a3])
theorem rc_tup (op : CmpOp) (hop : isOrd op = true) (xs ys : List D) (A : Around) (s : Shared) (a b : Addr) (vs ws : Array Value) (h : ordDs xs ys = true) (hu : A.units < cLine) (h1 : s.heap.IsTuple a vs) (h2 : s.heap.IsTuple b ws)
    (hl1 : vs.size = xs.length) (hl2 : ws.size = ys.length)
    (items : ∀ j (h1 : j < vs.size) (h2 : j < ws.size), SeqAt.EqAt A.in1 s vs[j] ws[j] (PyData.eqv (xs.getD j .none) (ys.getD j .none)) ∧ Ob.RcOp op A.in1 s vs[j] ws[j] (cmpR op (cmpD (xs.getD j .none) (ys.getD j .none)))) :
    Ob.RcOp op A s (.ref a) (.ref b) (cmpR op (cmpDs xs ys)) := by
  obtain ⟨e, he⟩ : ∃ e : Nat → Bool, ∀ j, e j = PyData.eqv (xs.getD j .none) (ys.getD j .none) := ⟨_, fun _ => rfl⟩
  obtain ⟨r, hr⟩ : ∃ r : Nat → Bool, ∀ j, r j = cmpR op (cmpD (xs.getD j .none) (ys.getD j .none)) := ⟨_, fun _ => rfl⟩
  have eqs : ∀ j (h1 : j < vs.size) (h2 : j < ws.size), SeqAt.EqAt A.in1 s vs[j] ws[j] (e j) := fun j h1 h2 => by rw [he]; exact (items j h1 h2).1
  have rcs : ∀ j (h1 : j < vs.size) (h2 : j < ws.size), e j = false → Ob.RcOp op A.in1 s vs[j] ws[j] (r j) := fun j h1 h2 _ => by rw [hr]; exact (items j h1 h2).2
  have fin := lexAt_cmp op hop xs ys e r 0 h fun j x y e1 e2 => by
    rw [Nat.zero_add, he, hr]
    simp only [List.getD_eq_getElem?_getD, e1, e2, Option.getD_some]
    exact ⟨trivial, trivial⟩
  obtain ⟨c1, c2, c3, c4⟩ := cmp_len op xs.length ys.length
  rw [← fin]
  cases op with
  | Lt => rw [c1 rfl, ← hl1, ← hl2]; exact Ob.RcOp.tuples_lt h1 h2 hu eqs rcs
  | LtE => rw [c2 rfl, ← hl1, ← hl2]; exact Ob.RcOp.tuples_le h1 h2 hu eqs rcs
  | Gt => rw [c3 rfl, ← hl1, ← hl2]; exact Ob.RcOp.tuples_gt h1 h2 hu eqs rcs
  | GtE => rw [c4 rfl, ← hl1, ← hl2]; exact Ob.RcOp.tuples_ge h1 h2 hu eqs rcs
  | _ => simp [isOrd] at hop

theorem depth_at : ∀ {ds : List D} {j : Nat} {d : D}, ds[j]? = some d → d.depth ≤ PyData.depthAll ds
  | [], j, _, e => by simp at e
  | x :: xs, 0, _, e => by simp at e; subst e; simp only [PyData.depthAll]; omega
  | x :: xs, j + 1, _, e => by
    have := depth_at (ds := xs) (j := j) (by simpa using e)
    simp only [PyData.depthAll]; omega
theorem lay_at : ∀ {ds : List D} {j : Nat} {d : D}, PyData.canLayAll0 ds = true → ds[j]? = some d → d.canLay0 = true
  | [], j, _, _, e => by simp at e
  | x :: xs, 0, _, h, e => by simp only [PyData.canLayAll0, Bool.and_eq_true] at h; simp at e; subst e; exact h.1
  | x :: xs, j + 1, _, h, e => by simp only [PyData.canLayAll0, Bool.and_eq_true] at h; exact lay_at h.2 (by simpa using e)
theorem ord_at : ∀ {ds es : List D} {j : Nat} {d e : D}, ordDs ds es = true → ds[j]? = some d → es[j]? = some e → ordD d e = true
  | [], _, j, _, _, _, h, _ => by simp at h
  | _ :: _, [], j, _, _, _, _, h => by simp at h
  | x :: xs, y :: ys, 0, _, _, h, h1, h2 => by simp only [ordDs, Bool.and_eq_true] at h; simp at h1 h2; subst h1; subst h2; exact h.1
  | x :: xs, y :: ys, j + 1, _, _, h, h1, h2 => by simp only [ordDs, Bool.and_eq_true] at h; exact ord_at h.2 (by simpa using h1) (by simpa using h2)
theorem rc_reads (op : CmpOp) (hop : isOrd op = true) : ∀ (n : Nat) (x y : D) (A : Around) (s : Shared) (a b : Value) (as bs : List Addr), x.depth ≤ n → ordD x y = true → x.canLay0 = true → y.canLay0 = true → A.units + min x.depth y.depth < cLine →
    Reads s.heap a x as → Reads s.heap b y bs → Ob.RcOp op A s a b (cmpR op (cmpD x y)) := by
  intro n
  induction n with
  | zero =>
    intro x y A s a b as bs hn h cx cy hu ra rb
    cases ra with
    | int i t =>
      cases rb with
      | int j u => exact rc_int op hop i j A s t u
      | _ => simp [ordD] at h
    | str i t =>
      cases rb with
      | str j u => exact rc_str op hop i j A s t u
      | _ => simp [ordD] at h
    | tuple h1 h2 h3 h4 => simp [PyData.depth] at hn
    | _ => simp [ordD] at h
  | succ n ih =>
    intro x y A s a b as bs hn h cx cy hu ra rb
    cases ra with
    | int i t =>
      cases rb with
      | int j u => exact rc_int op hop i j A s t u
      | _ => simp [ordD] at h
    | str i t =>
      cases rb with
      | str j u => exact rc_str op hop i j A s t u
      | _ => simp [ordD] at h
    | @tuple a o vs n1 xs as h1 h2 h3 h4 =>
      cases rb with
      | @tuple b o2 ws n2 ys bs g1 g2 g3 g4 =>
        simp only [ordD] at h
        simp only [PyData.canLay0] at cx cy
        simp only [PyData.depth] at hu hn
        have hl1 : vs.size = xs.length := by have := SeqAt.ReadsAll.length xs vs.toList _ h4; simpa using this
        have hl2 : ws.size = ys.length := by have := SeqAt.ReadsAll.length ys ws.toList _ g4; simpa using this
        simp only [cmpD]
        refine rc_tup op hop xs ys A s a b vs ws h (by omega) ⟨o, h1, h2, n1, h3⟩ ⟨o2, g1, g2, n2, g3⟩ hl1 hl2 fun j j1 j2 => ?_
        have e1 : xs[j]? = some xs[j] := List.getElem?_eq_getElem (by omega)
        have e2 : ys[j]? = some ys[j] := List.getElem?_eq_getElem (by omega)
        obtain ⟨v, vb, ev, rv⟩ := readsAll_at j h4 e1
        obtain ⟨u, ub, eu, ru⟩ := readsAll_at j g4 e2
        have ev' : vs[j] = v := by simpa [j1] using ev
        have eu' : ws[j] = u := by simpa [j2] using eu
        have d1 := depth_at e1
        have d2 := depth_at e2
        have q1 : xs.getD j .none = xs[j] := by simp [List.getD_eq_getElem?_getD, e1]
        have q2 : ys.getD j .none = ys[j] := by simp [List.getD_eq_getElem?_getD, e2]
        rw [ev', eu', q1, q2]
        have room : A.in1.units + min xs[j].depth ys[j].depth < cLine := by show A.units + 1 + _ < cLine; omega
        exact ⟨SeqAt.eqAt_reads _ _ A.in1 s _ _ _ _ rv ru (lay_at cx e1) (lay_at cy e2) room, ih _ _ A.in1 s _ _ _ _ (by omega) (ord_at h e1 e2) (lay_at cx e1) (lay_at cy e2) room rv ru⟩
      | _ => simp [ordD] at h
    | _ => simp [ordD] at h
end Pv
set_option Elab.async false
set_option linter.all false
set_option maxRecDepth 100000
set_option maxHeartbeats 4000000
namespace Pv
open PySem PySem.Spec L2
open PyProof.Rows hiding St

/-! ### comparisons by values -/
def layOk (x y : D) : Bool := x.canLay0 && y.canLay0 && decide (min x.depth y.depth ≤ 64)
def dEqB : D → D → Option Bool
  | .str a, .str b => some (a == b)
  | x, y => if layOk x y then some (PyData.eqv x y) else none
def dOrd (op : CmpOp) : D → D → Option Bool
  | .str a, .str b => some (cmpR op (cmpD (.str a) (.str b)))
  | x, y => if layOk x y && ordD x y then some (cmpR op (cmpD x y)) else none
def strIn (a b : Str) : Bool := !(Builtin.Str.occurrences b a 0 b.length 1).isEmpty
def dIn (x y : D) : Option Bool :=
  match y with
  | .list ys => if PyData.canLayAll0 ys && x.canLay0 && decide (min (PyData.depthAll ys) x.depth ≤ 64) then some (ys.any fun z => PyData.eqv z x) else none
  | .tuple ys => if PyData.canLayAll0 ys && x.canLay0 && decide (min (PyData.depthAll ys) x.depth ≤ 64) then some (ys.any fun z => PyData.eqv z x) else none
  | .str b => match x with | .str a => some (strIn a b) | _ => none
  | _ => none
def obD (o : Option Bool) : Option D := o.map .bool
def dCmp (op : CmpOp) (x y : D) : Option D :=
  match op with
  | .Eq => obD (dEqB x y)
  | .NotEq => obD ((dEqB x y).map (!·))
  | .Lt | .LtE | .Gt | .GtE => obD (dOrd op x y)
  | .In => obD (dIn x y)
  | .NotIn => obD ((dIn x y).map (!·))
  | _ => none
/-- two values compared, by their data -/
def rCmpG (K : PySem.W.Frag) (op : CmpOp) : R2 := fun x y H Q => ∃ dx dy b, (Dp K H x dx ∨ ∃ a, dx = .str a ∧ x = .str a) ∧ (Dp K H y dy ∨ ∃ a, dy = .str a ∧ y = .str a) ∧ dCmp op dx dy = some (.bool b) ∧ Q (.bl b) H
theorem layOk_inv {x y : D} (h : layOk x y = true) : x.canLay0 = true ∧ y.canLay0 = true ∧ min x.depth y.depth ≤ 64 := by
  unfold layOk at h
  rw [Bool.and_eq_true, Bool.and_eq_true] at h
  exact ⟨h.1.1, h.1.2, of_decide_eq_true h.2⟩
theorem dEqB_inv {x y : D} {b : Bool} (h : dEqB x y = some b) : (∃ a c, x = .str a ∧ y = .str c ∧ b = (a == c)) ∨ (layOk x y = true ∧ b = PyData.eqv x y) := by
  unfold dEqB at h
  split at h
  · exact .inl ⟨_, _, rfl, rfl, (Option.some.inj h).symm⟩
  · split at h
    · rename_i hl; exact .inr ⟨hl, (Option.some.inj h).symm⟩
    · cases h
theorem dOrd_inv {op : CmpOp} {x y : D} {b : Bool} (h : dOrd op x y = some b) : (∃ a c, x = .str a ∧ y = .str c ∧ b = cmpR op (cmpD x y)) ∨ (layOk x y = true ∧ ordD x y = true ∧ b = cmpR op (cmpD x y)) := by
  unfold dOrd at h
  split at h
  · exact .inl ⟨_, _, rfl, rfl, (Option.some.inj h).symm⟩
  · split at h
    · rename_i hl; rw [Bool.and_eq_true] at hl; exact .inr ⟨hl.1, hl.2, (Option.some.inj h).symm⟩
    · cases h
theorem obD_inv {o : Option Bool} {b : Bool} (h : obD o = some (.bool b)) : o = some b := by
  unfold obD at h
  cases o with
  | none => cases h
  | some c => simp at h; rw [h]
theorem obN_inv {o : Option Bool} {b : Bool} (h : obD (o.map (!·)) = some (.bool b)) : o = some (!b) := by
  have := obD_inv h
  cases o with
  | none => cases this
  | some c => simp at this; subst this; simp
section
variable {X : Cx}
theorem dp_reads' {pins : List (Addr × Obj)} {σ : L2.St} {H : Hp} {s : Shared} (I : Inv X pins σ H s) {d : D} {v : V} {u : Value} (h : Dp X.K H v d ∨ ∃ a, d = .str a ∧ v = .str a) (r : RelV v u) : ∃ as, Reads s.heap u d as := by
  rcases h with h | ⟨a, rfl, rfl⟩
  · exact Dp.reads I d v u h r
  · obtain ⟨t, rfl⟩ := r; exact ⟨_, .str a t⟩
theorem dp_str {H : Hp} {v : V} {a : Str} (h : Dp X.K H v (.str a) ∨ ∃ c, (PyData.str a) = .str c ∧ v = .str c) : v = .str a := by
  rcases h with h | ⟨c, e, rfl⟩
  · cases h; rfl
  · cases e; rfl
theorem op_cmpG (op : CmpOp) (hu : X.A.units + 66 < cLine) : OpR X (compareOp op) (rCmpG X.K op) := by
  intro pins s σ H x y v u Q I rx ry h
  obtain ⟨dx, dy, b, hx, hy, e, q⟩ := h
  obtain ⟨as, r1⟩ := dp_reads' I hx rx
  obtain ⟨bs, r2⟩ := dp_reads' I hy ry
  have fin : EP X pins σ Q (.bool b) s := ⟨.bl b, H, I, rfl, q⟩
  have hst : ∀ {a c : Str}, dx = .str a → dy = .str c → x = .str a ∧ y = .str c ∧ (∃ t, v = .str a t) ∧ (∃ t, u = .str c t) := fun {a c} e1 e2 => by
    subst e1; subst e2
    have h1 := dp_str hx
    have h2 := dp_str hy
    subst h1; subst h2
    exact ⟨rfl, rfl, rx, ry⟩
  have ordc : isOrd op = true → dOrd op dx dy = some b → wpAny (model X.prog X.w) X.A (richCompare op v u) (EP X pins σ Q) X.xe s := fun hop e => by
    rcases dOrd_inv e with ⟨a, c, e1, e2, e3⟩ | ⟨hl, ho, e3⟩
    · obtain ⟨h1, h2, ⟨t, h3⟩, ⟨t', h4⟩⟩ := hst e1 e2
      subst h3; subst h4
      refine rc_str op hop a c X.A s t t' X.prog X.w X.xe _ ?_
      rw [e1, e2] at e3
      rw [← e3]; exact fin
    · obtain ⟨c1, c2, c3⟩ := layOk_inv hl
      refine rc_reads op hop _ dx dy X.A s v u as bs (Nat.le_refl _) ho c1 c2 (by omega) r1 r2 X.prog X.w X.xe _ ?_
      rw [← e3]; exact fin
  have inc : ∀ {b'}, dIn dx dy = some b' → (∀ (Q' : Value → Shared → Prop), Q' (.bool b') s → wpAny (model X.prog X.w) X.A (compareOp .In v u) Q' X.xe s) ∧ (∀ (Q' : Value → Shared → Prop), Q' (.bool (!b')) s → wpAny (model X.prog X.w) X.A (compareOp .NotIn v u) Q' X.xe s) := fun {b'} e => by
    unfold dIn at e
    split at e
    · rename_i ys
      split at e
      · rename_i hc
        rw [Bool.and_eq_true, Bool.and_eq_true] at hc
        have h64 := of_decide_eq_true hc.2
        cases e
        exact ⟨fun Q' q => SeqAt.in_list_reads r2 r1 hc.1.1 hc.1.2 (by omega) q, fun Q' q => SeqAt.notIn_list_reads r2 r1 hc.1.1 hc.1.2 (by omega) q⟩
      · cases e
    · rename_i ys
      split at e
      · rename_i hc
        rw [Bool.and_eq_true, Bool.and_eq_true] at hc
        have h64 := of_decide_eq_true hc.2
        cases e
        exact ⟨fun Q' q => SeqAt.in_tuple_reads r2 r1 hc.1.1 hc.1.2 (by omega) q, fun Q' q => SeqAt.notIn_tuple_reads r2 r1 hc.1.1 hc.1.2 (by omega) q⟩
      · cases e
    · rename_i c
      split at e
      · rename_i a
        obtain ⟨h1, h2, ⟨t, h3⟩, ⟨t', h4⟩⟩ := hst rfl rfl
        subst h3; subst h4
        cases e
        exact ⟨fun Q' q => PyProof.Rows.in_str q, fun Q' q => PyProof.Rows.notIn_str q⟩
      · cases e
    · cases e
  cases op with
  | Eq =>
    rcases dEqB_inv (obD_inv e) with ⟨a, c, e1, e2, e3⟩ | ⟨hl, e3⟩
    · obtain ⟨h1, h2, ⟨t, h3⟩, ⟨t', h4⟩⟩ := hst e1 e2
      subst h3; subst h4
      refine PyProof.Rows.eq_str ?_
      rw [← e3]; exact fin
    · obtain ⟨c1, c2, c3⟩ := layOk_inv hl
      refine SeqAt.compareEq_reads r1 r2 c1 c2 (by omega) ?_
      rw [← e3]; exact fin
  | NotEq =>
    rcases dEqB_inv (obN_inv e) with ⟨a, c, e1, e2, e3⟩ | ⟨hl, e3⟩
    · obtain ⟨h1, h2, ⟨t, h3⟩, ⟨t', h4⟩⟩ := hst e1 e2
      subst h3; subst h4
      refine PyProof.Rows.ne_str ?_
      have : (a != c) = b := by rw [bne, ← e3]; simp
      rw [this]; exact fin
    · obtain ⟨c1, c2, c3⟩ := layOk_inv hl
      refine SeqAt.compareNe_reads r1 r2 c1 c2 (by omega) ?_
      rw [← e3, Bool.not_not]; exact fin
  | Lt => exact ordc rfl (obD_inv e)
  | LtE => exact ordc rfl (obD_inv e)
  | Gt => exact ordc rfl (obD_inv e)
  | GtE => exact ordc rfl (obD_inv e)
  | In => exact (inc (obD_inv e)).1 _ fin
  | NotIn => exact (inc (obN_inv e)).2 _ (by rw [Bool.not_not]; exact fin)
  | Is => simp [dCmp] at e
  | IsNot => simp [dCmp] at e
end
end Pv
set_option Elab.async false
set_option linter.all false
set_option maxRecDepth 100000
set_option maxHeartbeats 4000000
namespace Pv
open PySem PySem.Spec L2
open PyProof.Rows hiding St

/-- what the rules ask of the place where one stands -/
structure Gd0 (X : Cx) : Prop where
  nd : X.N.Nodup
  un : X.A.units + 200 < cLine
  gu : X.A.guards = some []
structure Gd (X : Cx) : Prop where
  calm : X.calm = true
  nd : X.N.Nodup
  un : X.A.units + 200 < cLine
  gu : X.A.guards = some []
theorem Gd.z {X : Cx} (g : Gd X) : Gd0 X := ⟨g.nd, g.un, g.gu⟩
instance {X : Cx} : Coe (Gd X) (Gd0 X) := ⟨Gd.z⟩

/-! ### comparisons -/
section
variable {X : Cx} {Wx : WX} {ea eb ec e : Expr} {ma mb mc : M} {pos : Pos}
theorem dCmp_bool {op : CmpOp} {x y d : D} (h : dCmp op x y = some d) : ∃ b, d = .bool b := by
  have mp : ∀ {o : Option Bool}, obD o = some d → ∃ b, d = .bool b := fun {o} h => by
    cases o with
    | none => cases h
    | some b => cases h; exact ⟨b, rfl⟩
  cases op with
  | Is => cases h
  | IsNot => cases h
  | Eq => exact mp h
  | NotEq => exact mp h
  | Lt => exact mp h
  | LtE => exact mp h
  | Gt => exact mp h
  | GtE => exact mp h
  | In => exact mp h
  | NotIn => exact mp h
theorem dEqB_dict {a y : D} {kvs : List (D × D)} {b : Bool} (h : dEqB (.dict kvs) y = some b) : False := by
  rcases dEqB_inv h with ⟨_, _, e, _, _⟩ | ⟨hl, _⟩
  · cases e
  · have := (layOk_inv hl).1; simp [PyData.canLay0] at this
/-- what is compared is plain -/
theorem dCmp_lay {op : CmpOp} {x y d : D} (h : dCmp op x y = some d) : (x.canLay0 = true ∨ ∃ a, x = .str a) ∧ (y.canLay0 = true ∨ ∃ a, y = .str a) := by
  have eqc : ∀ {o}, dEqB x y = some o → (x.canLay0 = true ∨ ∃ a, x = .str a) ∧ (y.canLay0 = true ∨ ∃ a, y = .str a) := fun h => by
    rcases dEqB_inv h with ⟨a, c, e1, e2, _⟩ | ⟨hl, _⟩
    · exact ⟨.inr ⟨a, e1⟩, .inr ⟨c, e2⟩⟩
    · exact ⟨.inl (layOk_inv hl).1, .inl (layOk_inv hl).2.1⟩
  have orc : ∀ {op o}, dOrd op x y = some o → (x.canLay0 = true ∨ ∃ a, x = .str a) ∧ (y.canLay0 = true ∨ ∃ a, y = .str a) := fun h => by
    rcases dOrd_inv h with ⟨a, c, e1, e2, _⟩ | ⟨hl, _, _⟩
    · exact ⟨.inr ⟨a, e1⟩, .inr ⟨c, e2⟩⟩
    · exact ⟨.inl (layOk_inv hl).1, .inl (layOk_inv hl).2.1⟩
  have inc : ∀ {o}, dIn x y = some o → (x.canLay0 = true ∨ ∃ a, x = .str a) ∧ (y.canLay0 = true ∨ ∃ a, y = .str a) := fun h => by
    unfold dIn at h
    split at h
    · split at h
      · rename_i hc; rw [Bool.and_eq_true, Bool.and_eq_true] at hc; exact ⟨.inl hc.1.2, .inl (by simpa [PyData.canLay0] using hc.1.1)⟩
      · cases h
    · split at h
      · rename_i hc; rw [Bool.and_eq_true, Bool.and_eq_true] at hc; exact ⟨.inl hc.1.2, .inl (by simpa [PyData.canLay0] using hc.1.1)⟩
      · cases h
    · split at h
      · exact ⟨.inr ⟨_, rfl⟩, .inr ⟨_, rfl⟩⟩
      · cases h
    · cases h
  have mp : ∀ {o : Option Bool} {d}, obD o = some d → ∃ b, o = some b := fun {o d} h => by cases o with | none => cases h | some b => exact ⟨b, rfl⟩
  have mp2 : ∀ {o : Option Bool} {d}, obD (o.map (!·)) = some d → ∃ b, o = some b := fun {o d} h => by cases o with | none => cases h | some b => exact ⟨b, rfl⟩
  cases op with
  | Eq => obtain ⟨b, h⟩ := mp h; exact eqc h
  | NotEq => obtain ⟨b, h⟩ := mp2 h; exact eqc h
  | Lt => obtain ⟨b, h⟩ := mp h; exact orc h
  | LtE => obtain ⟨b, h⟩ := mp h; exact orc h
  | Gt => obtain ⟨b, h⟩ := mp h; exact orc h
  | GtE => obtain ⟨b, h⟩ := mp h; exact orc h
  | In => obtain ⟨b, h⟩ := mp h; exact inc h
  | NotIn => obtain ⟨b, h⟩ := mp2 h; exact inc h
  | Is => cases h
  | IsNot => cases h
theorem ok_cmp {N : Nv} (op : CmpOp) : Ok2 N (rCmpG N.K op) (onD2 (dCmp op)) := by
  intro W H st x y dx dy Q hr rx ry p
  obtain ⟨d, e, p⟩ := onD2_post p
  obtain ⟨b, rfl⟩ := dCmp_bool e
  obtain ⟨l1, l2⟩ := dCmp_lay e
  refine ⟨deref st dx, deref st dy, b, ?_, ?_, e, p.val hr rfl⟩
  · rcases l1 with l | ⟨a, l⟩
    · exact .inl (rep_dpR hr rx rfl l)
    · exact .inr ⟨a, l, rep_dstr hr rx l⟩
  · rcases l2 with l | ⟨a, l⟩
    · exact .inl (rep_dpR hr ry rfl l)
    · exact .inr ⟨a, l, rep_dstr hr ry l⟩
def mCmp (op : CmpOp) : M → M → M := mOp2 (onD2 (dCmp op))
theorem ge_cmp {op : CmpOp} (g : Gd0 X) (ha : GE X Wx ea ma) (hb : GE X Wx eb mb) (hm : behindInMarks op eb = false := by first | exact nomark _ | rfl) : GE X Wx (.Compare ea [op] [eb] pos) (mCmp op ma mb) :=
  ge_op2 onD2_nx (ok_cmp op) (pe_cmpR (op_cmpG op (by have := g.un; omega)) ha hb hm)
def isNone : D → Bool
  | .none => true
  | _ => false
def dIsN : D → Option D := fun x => some (.bool (isNone x))
def dNotN : D → Option D := fun x => some (.bool (!isNone x))
theorem isN_rep {K : PySem.W.Frag} {W : Wd} {v : V} {d : D} (h : rep K W v d) : decide (v = V.non) = isNone d := by
  cases d with
  | none => cases h; rfl
  | bool b => cases h; rfl
  | int i => cases h; rfl
  | str x => cases h; rfl
  | list ds => obtain ⟨a, xs, e, _⟩ := h; subst e; rfl
  | tuple ds => obtain ⟨a, xs, e, _⟩ := h; subst e; rfl
  | dict ds => rcases rep_dict h with ⟨_, a, _, e, _⟩ | ⟨_, a, xs, _, e, _⟩ | ⟨_, a, xs, _, e, _⟩ | ⟨ae, ade, ce, nse, fse, he⟩ <;> first | (subst e; rfl) | (subst he; obtain ⟨e, _⟩ := h; subst e; rfl)
def f1 (g : D → Option D) : F1 := fun x st => lift (g x) st
def mIsN : M → M := mOp1 (f1 dIsN)
def mNotN : M → M := mOp1 (f1 dNotN)
theorem f1_nx {g : D → Option D} (x : D) (st : Sto) (ex : XV) (s2 : Sto) : f1 g x st ≠ .exc ex s2 := by
  unfold f1 lift; split <;> simp
theorem f1_post {N : Nv} {W : Wd} {H : Hp} {Q : VK} {E : XK} {g : D → Option D} {x : D} {st : Sto} (p : Post N W H Q E (f1 g x st)) : ∃ d, g x = some d ∧ Post N W H Q E (.ok d st) := by
  unfold f1 lift at p
  split at p
  · rename_i d e; exact ⟨d, e, p⟩
  · exact p.elim
theorem ge_isN {j p2} (ha : GE X Wx ea ma) : GE X Wx (.Compare ea [.Is] [.Constant .none j p2] pos) (mIsN ma) := by
  refine ge_op1 (r := fun x H Q => Q (.bl (decide (x = .non))) H) f1_nx ?_ (pe_cmp (pc_isN ha))
  intro W H st x dx Q hr rx p
  obtain ⟨d, e, p⟩ := f1_post p
  cases e
  exact p.val hr (by rw [isN_rep rx]; rfl)
theorem ge_notN {j p2} (ha : GE X Wx ea ma) : GE X Wx (.Compare ea [.IsNot] [.Constant .none j p2] pos) (mNotN ma) := by
  refine ge_op1 (r := fun x H Q => Q (.bl (!decide (x = .non))) H) f1_nx ?_ (pe_cmp (pc_notN ha))
  intro W H st x dx Q hr rx p
  obtain ⟨d, e, p⟩ := f1_post p
  cases e
  exact p.val hr (by rw [isN_rep rx]; rfl)
/-- a op b op' c -/
def mChain (op op' : CmpOp) (a b c : M) : M := fun sl st => (a sl st).bind fun x st => (b sl st).bind fun y st => match onD2 (dCmp op) x y st with
  | .ok (.bool true) st => (c sl st).bind fun z st => onD2 (dCmp op') y z st
  | .ok (.bool false) st => .ok (.bool false) st
  | _ => .bad
theorem chain_read {op op' : CmpOp} {W : Wd} {H : Hp} {st : Sto} {sl : Sl} {sh : L2.St} {Q : VK} (hr : HR X.K W H st) (hs : SR X.K W sh sl) (p : Post (nv X) W H Q (fun cls dd H' => Wx cls dd sh H') (mChain op op' ma mb mc sl st)) :
    tChain (rCmpG X.K op) (rCmpG X.K op') (rd (nv X) Wx ma) (rd (nv X) Wx mb) (rd (nv X) Wx mc) sh H Q := by
  refine rd_bind hr hs p fun d1 st1 W1 v1 H1 e1 x1 h1 s1 r1 p1 => ?_
  refine rd_bind h1 s1 p1 fun d2 st2 W2 v2 H2 e2 x2 h2 s2 r2 p2 => ?_
  cases e3 : onD2 (dCmp op) d1 d2 st2 with
  | bad => rw [e3] at p2; exact p2.elim
  | exc a b => exact absurd e3 (onD2_nx _ _ _ _ _)
  | ok d st3 =>
    have hst : st3 = st2 := by
      unfold onD2 lift at e3
      split at e3
      · cases e3; rfl
      · cases e3
    subst hst
    rw [e3] at p2
    refine ok_cmp (N := nv X) op W2 H2 st3 v1 v2 d1 d2 _ h2 (x2.rep r1) r2 ?_
    rw [e3]
    intro W3 v3 H3 x3 h3 r3
    cases d with
    | bool k =>
      cases r3
      refine ⟨k, rfl, ?_⟩
      cases k with
      | false => simp only [Bool.false_eq_true, if_false]; exact (Post.ext x3 p2).val h3 rfl
      | true =>
        simp only [if_true]
        refine rd_bind h3 (s2.ext x3) (Post.ext x3 p2) fun d4 st4 W4 v4 H4 e4 x4 h4 s4 r4 p4 => ?_
        refine ok_cmp (N := nv X) op' W4 H4 st4 v2 v4 d2 d4 Q h4 (x4.rep (x3.rep r2)) r4 ?_
        cases q : onD2 (dCmp op') d2 d4 st4 with
        | ok d st3 => rw [q] at p4; exact p4
        | bad => rw [q] at p4; exact p4
        | exc ex s3 => exact absurd q (onD2_nx _ _ _ _ _)
    | _ => exact p2.elim
theorem ge_chain {op op' : CmpOp} (g : Gd0 X) (ha : GE X Wx ea ma) (hb : GE X Wx eb mb) (hc : GE X Wx ec mc) (hm : lastMarks [op, op'] [eb, ec] = false := by with_unfolding_all rfl) :
    GE X Wx (.Compare ea [op, op'] [eb, ec] pos) (mChain op op' ma mb mc) :=
  (pe_chain (op_cmpG op (by have := g.un; omega)) (op_cmpG op' (by have := g.un; omega)) ha hb hc hm).imp fun sh H Q ⟨W, sl, st, hr, hs, p⟩ => chain_read hr hs p
end

/-! ### tests -/
abbrev MT := Sl → Sto → R Bool
def PostT (N : Nv) (W : Wd) (H : Hp) (Q : Bool → Hp → Prop) (E : XK) : R Bool → Prop
  | .ok b st => ∀ W' H', Ext W H W' H' → HR N.K W' H' st → Q b H'
  | .exc x st => ∀ W' cls dd H', Ext W H W' H' → HR N.K W' H' st → repX N W' H' cls dd x → E cls dd H'
  | .bad => False
def rdT (N : Nv) (Wx : WX) (m : MT) : TT := fun sh H Q => ∃ W sl st, HR N.K W H st ∧ SR N.K W sh sl ∧ PostT N W H Q (fun cls dd H' => Wx cls dd sh H') (m sl st)
def GT (X : Cx) (Wx : WX) (e : Expr) (m : MT) : Prop := PT X e (rdT (nv X) Wx m)
def GW (X : Cx) (Wx : WX) (e : Expr) (m : MT) : Prop := PW X e (rdT (nv X) Wx m)
theorem _root_.L2.PW.imp {X : Cx} {e : Expr} {t t' : TT} (h : PW X e t) (i : ∀ σ H Q, t' σ H Q → t σ H Q) : PW X e t' := ⟨fun w pins s σ H Q I q => h.run w pins s σ H Q I (i σ H Q q)⟩
section
variable {X : Cx} {Wx : WX} {N : Nv} {W W' : Wd} {H H' : Hp} {st : Sto} {sl : Sl} {sh : L2.St}
theorem PostT.ext {Q : Bool → Hp → Prop} {E : XK} {r : R Bool} (e : Ext W H W' H') (h : PostT N W H Q E r) : PostT N W' H' Q E r := by
  cases r with
  | ok d st => exact fun W2 H2 e2 hr => h W2 H2 (e.trans e2) hr
  | exc x st => exact fun W2 c dd H2 e2 hr rp => h W2 c dd H2 (e.trans e2) hr rp
  | bad => exact h
theorem PostT.now {Q : Bool → Hp → Prop} {E : XK} {b : Bool} (hr : HR N.K W H st) (p : PostT N W H Q E (.ok b st)) : Q b H := p W H .refl hr
theorem rdT_bind {m : MT} {f : Bool → Sto → R Bool} {Q Q2 : Bool → Hp → Prop} (hr : HR N.K W H st) (hs : SR N.K W sh sl)
    (h : PostT N W H Q (fun cls dd H' => Wx cls dd sh H') ((m sl st).bind f))
    (k : ∀ b st1 W1 H1, m sl st = .ok b st1 → Ext W H W1 H1 → HR N.K W1 H1 st1 → SR N.K W1 sh sl → PostT N W1 H1 Q (fun cls dd H' => Wx cls dd sh H') (f b st1) → Q2 b H1) : rdT N Wx m sh H Q2 := by
  refine ⟨W, sl, st, hr, hs, ?_⟩
  cases e : m sl st with
  | ok d st1 => rw [e] at h; exact fun W1 H1 e1 h1 => k d st1 W1 H1 e e1 h1 (hs.ext e1) (PostT.ext e1 h)
  | exc x st1 => rw [e] at h; exact h
  | bad => rw [e] at h; exact h
/-- a value is reckoned first, then a test goes on -/
theorem rd_bindT {m : M} {f : D → Sto → R Bool} {Q : Bool → Hp → Prop} {Q2 : VK} (hr : HR N.K W H st) (hs : SR N.K W sh sl)
    (h : PostT N W H Q (fun cls dd H' => Wx cls dd sh H') ((m sl st).bind f))
    (k : ∀ d st1 W1 v H1, m sl st = .ok d st1 → Ext W H W1 H1 → HR N.K W1 H1 st1 → SR N.K W1 sh sl → rep N.K W1 v d → PostT N W1 H1 Q (fun cls dd H' => Wx cls dd sh H') (f d st1) → Q2 v H1) : rd N Wx m sh H Q2 := by
  refine ⟨W, sl, st, hr, hs, ?_⟩
  cases e : m sl st with
  | ok d st1 => rw [e] at h; exact fun W1 v H1 e1 h1 r1 => k d st1 W1 v H1 e e1 h1 (hs.ext e1) r1 (PostT.ext e1 h)
  | exc x st1 => rw [e] at h; exact h
  | bad => rw [e] at h; exact h
/-- a test first, then a value -/
theorem rdT_bindD {m : MT} {f : Bool → Sto → R D} {Q : VK} {Q2 : Bool → Hp → Prop} (hr : HR N.K W H st) (hs : SR N.K W sh sl)
    (h : Post N W H Q (fun cls dd H' => Wx cls dd sh H') ((m sl st).bind f))
    (k : ∀ b st1 W1 H1, m sl st = .ok b st1 → Ext W H W1 H1 → HR N.K W1 H1 st1 → SR N.K W1 sh sl → Post N W1 H1 Q (fun cls dd H' => Wx cls dd sh H') (f b st1) → Q2 b H1) : rdT N Wx m sh H Q2 := by
  refine ⟨W, sl, st, hr, hs, ?_⟩
  cases e : m sl st with
  | ok d st1 => rw [e] at h; exact fun W1 H1 e1 h1 => k d st1 W1 H1 e e1 h1 (hs.ext e1) (Post.ext e1 h)
  | exc x st1 => rw [e] at h; exact h
  | bad => rw [e] at h; exact h
end
/-- the truth of a value -/
def truD (st : Sto) (d : D) : Option Bool :=
  match deref st d with
  | .none => some false
  | .bool b => some b
  | .int i => some (i != 0)
  | .str y => if y.length ≤ sizeLine then some ((y.length : Int) != 0) else none
  | .list ds => some (!ds.isEmpty)
  | .tuple ds => some (!ds.isEmpty)
  | .dict [(.int r, .none)] => (match st[r.toNat]? with | some (.dct kvs) => some (!kvs.isEmpty) | _ => none)
  | _ => none
section
variable {X : Cx} {Wx : WX} {ea eb ec e : Expr} {ma mb mc : M} {ta tb tc : MT} {pos : Pos} {K : PySem.W.Frag} {W : Wd} {H : Hp} {st : Sto} {v : V} {d : D}
theorem isEmpty_repL {vs : List V} {ds : List D} (h : repL K W vs ds) : (!ds.isEmpty) = !vs.isEmpty := by
  cases ds with
  | nil => cases h; rfl
  | cons d ds => obtain ⟨v, us, e, _, _⟩ := h; subst e; rfl
theorem isEmpty_repP {κ : Type} {ks : List (κ × V)} {kvs : List (κ × D)} (h : repP K W ks kvs) : (!kvs.isEmpty) = !ks.isEmpty := by
  cases h <;> rfl
theorem tru_rep {k : Bool} (hr : HR K W H st) (h : rep K W v d) (e : truD st d = some k) : TruV K v H k := by
  unfold truD at e
  cases q : deref st d with
  | none => rw [q] at e; cases e; rw [rep_dnone hr h q]; rfl
  | bool b => rw [q] at e; cases e; rw [rep_dbool hr h q]; rfl
  | int i => rw [q] at e; cases e; rw [rep_dint hr h q]; rfl
  | str y =>
    rw [q] at e
    simp only at e
    split at e
    · rename_i hl; cases e; rw [rep_dstr hr h q]; exact ⟨hl, rfl⟩
    · cases e
  | list ds => rw [q] at e; cases e; obtain ⟨a, xs, e1, e2, l⟩ := rep_dlist hr h q; subst e1; exact .inl ⟨xs, .inl (.inl e2), isEmpty_repL l⟩
  | tuple ds => rw [q] at e; cases e; obtain ⟨a, xs, e1, e2, l⟩ := rep_dtuple hr h q; subst e1; exact .inr (.inl ⟨xs, e2, isEmpty_repL l⟩)
  | dict kvs =>
    cases d with
    | dict kvs' =>
      rcases rep_dict h with ⟨r, a, e1, e2, e3⟩ | ⟨ds', a, xs, e1, _, _⟩ | ⟨ds', a, xs, e1, _, _⟩ | ⟨ae, ade, ce, nse, fse, he⟩
      rotate_left
      · subst e1; simp at q
      · subst e1; rw [deref_gs] at e; cases e
      · subst he; cases q; cases e
      subst e1
      obtain ⟨m, hm, _, ho⟩ := hr.at e3
      rw [deref_ref, hm] at q
      cases m with
      | lst ds => simp at q
      | ro ds => simp at q; subst q; rw [deref_ref, hm] at e; simp [hm] at e
      | dct ds =>
        rw [deref_ref, hm] at e
        have e' : (!ds.isEmpty) = k := by simpa [hm] using e
        subst e'
        obtain ⟨ks, f1, f2⟩ := ho
        subst e2
        exact .inr (.inr ⟨ks, f1, isEmpty_repP f2⟩)
      | dctT ds => simp at q; subst q; rw [deref_ref, hm] at e; simp [hm] at e
      | tb _ _ => simp at q; subst q; rw [deref_ref, hm] at e; simp [hm] at e
    | none => simp at q
    | bool _ => simp at q
    | int _ => simp at q
    | str _ => simp at q
    | list _ => simp at q
    | tuple _ => simp at q
def mTru (m : M) : MT := fun sl st => (m sl st).bind fun d st => lift (truD st d) st
def mTb (m : M) : MT := fun sl st => (m sl st).bind fun d st => match d with | .bool b => .ok b st | _ => .bad
/-- any value, by its truth -/
theorem gt_val (ha : GE X Wx ea ma) (he : ∀ whole, isTrue ea X.env whole = (do let v ← whole; standAt ea.pos; holding [v] (truthy v)) := by intro _; rfl) : GT X Wx ea (mTru ma) := by
  refine (pt_truth ha he).imp fun sh H Q ⟨W, sl, st, hr, hs, p⟩ => ?_
  refine rd_bindT hr hs p fun d1 st1 W1 v1 H1 e1 x1 h1 s1 r1 p1 => ?_
  cases e : truD st1 d1 with
  | none => rw [e] at p1; exact p1.elim
  | some k => rw [e] at p1; exact ⟨k, tru_rep h1 r1 e, PostT.now h1 p1⟩
theorem gt_cmp {op : CmpOp} (g : Gd0 X) (ha : GE X Wx ea ma) (hb : GE X Wx eb mb) (hm : behindInMarks op eb = false := by first | exact nomark _ | rfl) : GT X Wx (.Compare ea [op] [eb] pos) (mTb (mCmp op ma mb)) := by
  refine (pt_cmpR (op_cmpG op (by have := g.un; omega)) ha hb hm).imp fun sh H Q ⟨W, sl, st, hr, hs, p⟩ => ?_
  have p' : PostT (nv X) W H Q (fun cls dd H' => Wx cls dd sh H') ((ma sl st).bind fun x st => (mb sl st).bind fun y st => (onD2 (dCmp op) x y st).bind fun d st => match d with | .bool b => .ok b st | _ => .bad) := by
    have e : (mTb (mCmp op ma mb)) sl st = ((ma sl st).bind fun x st => (mb sl st).bind fun y st => (onD2 (dCmp op) x y st).bind fun d st => match d with | .bool b => .ok b st | _ => .bad) := by
      unfold mTb mCmp mOp2
      cases ma sl st with
      | ok a b =>
        show ((mb sl b).bind _).bind _ = (mb sl b).bind _
        cases mb sl b <;> rfl
      | exc _ _ => rfl
      | bad => rfl
    rw [← e]; exact p
  refine rd_bindT hr hs p' fun d1 st1 W1 v1 H1 e1 x1 h1 s1 r1 p1 => ?_
  refine rd_bindT h1 s1 p1 fun d2 st2 W2 v2 H2 e2 x2 h2 s2 r2 p2 => ?_
  refine ok_cmp (N := nv X) op W2 H2 st2 v1 v2 d1 d2 _ h2 (x2.rep r1) r2 ?_
  cases q : onD2 (dCmp op) d1 d2 st2 with
  | bad => rw [q] at p2; exact p2.elim
  | exc _ _ => exact absurd q (onD2_nx _ _ _ _ _)
  | ok d st3 =>
    rw [q] at p2
    intro W3 v3 H3 x3 h3 r3
    cases d with
    | bool b => cases r3; exact ⟨b, rfl, PostT.now h3 (PostT.ext x3 p2)⟩
    | _ => exact p2.elim
theorem gt_isN {j p2} (ha : GE X Wx ea ma) : GT X Wx (.Compare ea [.Is] [.Constant .none j p2] pos) (mTb (mIsN ma)) := by
  refine (pt_cmp (pc_isN ha)).imp fun sh H Q ⟨W, sl, st, hr, hs, p⟩ => ?_
  have e : (mTb (mIsN ma)) sl st = ((ma sl st).bind fun x st => .ok (isNone x) st) := by
    unfold mTb mIsN mOp1
    cases ma sl st <;> rfl
  rw [e] at p
  refine rd_bindT hr hs p fun d1 st1 W1 v1 H1 e1 x1 h1 s1 r1 p1 => ⟨_, rfl, ?_⟩
  rw [isN_rep r1]; exact PostT.now h1 p1
theorem gt_notN {j p2} (ha : GE X Wx ea ma) : GT X Wx (.Compare ea [.IsNot] [.Constant .none j p2] pos) (mTb (mNotN ma)) := by
  refine (pt_cmp (pc_notN ha)).imp fun sh H Q ⟨W, sl, st, hr, hs, p⟩ => ?_
  have e : (mTb (mNotN ma)) sl st = ((ma sl st).bind fun x st => .ok (!isNone x) st) := by
    unfold mTb mNotN mOp1
    cases ma sl st <;> rfl
  rw [e] at p
  refine rd_bindT hr hs p fun d1 st1 W1 v1 H1 e1 x1 h1 s1 r1 p1 => ⟨_, rfl, ?_⟩
  rw [isN_rep r1]; exact PostT.now h1 p1
theorem tb_bind {m : M} {sl : Sl} {st : Sto} {f : D → Sto → R D} {g : D → Sto → R Bool} (h : ∀ d st, ((f d st).bind fun d st => match d with | .bool b => R.ok b st | _ => .bad) = g d st) : mTb (fun sl st => (m sl st).bind f) sl st = (m sl st).bind g := by
  unfold mTb
  show ((m sl st).bind f).bind _ = (m sl st).bind g
  cases m sl st with
  | ok a b => exact h a b
  | exc _ _ => rfl
  | bad => rfl
theorem chainT_read {op op' : CmpOp} {W : Wd} {H : Hp} {st : Sto} {sl : Sl} {sh : L2.St} {Q : Bool → Hp → Prop} (hr : HR X.K W H st) (hs : SR X.K W sh sl) (p : PostT (nv X) W H Q (fun cls dd H' => Wx cls dd sh H') (mTb (mChain op op' ma mb mc) sl st)) :
    tTest (tChain (rCmpG X.K op) (rCmpG X.K op') (rd (nv X) Wx ma) (rd (nv X) Wx mb) (rd (nv X) Wx mc)) sh H Q := by
  refine chain_read (op := op) (op' := op') (ma := ma) (mb := mb) (mc := mc) hr hs ?_
  unfold mTb at p
  cases q : mChain op op' ma mb mc sl st with
  | bad => rw [q] at p; exact p
  | exc x st => rw [q] at p; exact p
  | ok d st1 =>
    rw [q] at p
    cases d with
    | bool b => intro W1 v H1 x1 h1 r1; cases r1; exact ⟨b, rfl, p W1 H1 x1 h1⟩
    | _ => exact p.elim
theorem gt_chain {op op' : CmpOp} (g : Gd0 X) (ha : GE X Wx ea ma) (hb : GE X Wx eb mb) (hc : GE X Wx ec mc) (hm : lastMarks [op, op'] [eb, ec] = false := by with_unfolding_all rfl) :
    GT X Wx (.Compare ea [op, op'] [eb, ec] pos) (mTb (mChain op op' ma mb mc)) :=
  (pt_chain (op_cmpG op (by have := g.un; omega)) (op_cmpG op' (by have := g.un; omega)) ha hb hc hm).imp fun sh H Q ⟨W, sl, st, hr, hs, p⟩ => chainT_read hr hs p
def mNotT (t : MT) : MT := fun sl st => (t sl st).bind fun b st => .ok (!b) st
theorem gt_not (ha : GT X Wx ea ta) : GT X Wx (.UnaryOp .Not ea pos) (mNotT ta) := by
  refine (pt_not ha).imp fun sh H Q ⟨W, sl, st, hr, hs, p⟩ => ?_
  exact rdT_bind hr hs p fun b st1 W1 H1 e1 x1 h1 s1 p1 => PostT.now h1 p1
def mAndT (t u : MT) : MT := fun sl st => (t sl st).bind fun b st => if b = true then u sl st else .ok false st
def mOrT (t u : MT) : MT := fun sl st => (t sl st).bind fun b st => if b = true then .ok true st else u sl st
theorem gw_and {rest : List Expr} (ha : GT X Wx ea ta) (hb : GW X Wx (.BoolOp .And (eb :: rest) pos) tb) : GW X Wx (.BoolOp .And (ea :: eb :: rest) pos) (mAndT ta tb) := by
  refine (pw_and ha hb).imp fun sh H Q ⟨W, sl, st, hr, hs, p⟩ => ?_
  refine rdT_bind hr hs p fun b st1 W1 H1 e1 x1 h1 s1 p1 => ?_
  cases b with
  | true => rw [if_pos rfl] at p1 ⊢; exact ⟨W1, sl, st1, h1, s1, p1⟩
  | false => rw [if_neg Bool.false_ne_true] at p1 ⊢; exact PostT.now h1 p1
theorem gw_or {rest : List Expr} (ha : GT X Wx ea ta) (hb : GW X Wx (.BoolOp .Or (eb :: rest) pos) tb) : GW X Wx (.BoolOp .Or (ea :: eb :: rest) pos) (mOrT ta tb) := by
  refine (pw_or ha hb).imp fun sh H Q ⟨W, sl, st, hr, hs, p⟩ => ?_
  refine rdT_bind hr hs p fun b st1 W1 H1 e1 x1 h1 s1 p1 => ?_
  cases b with
  | true => rw [if_pos rfl] at p1 ⊢; exact PostT.now h1 p1
  | false => rw [if_neg Bool.false_ne_true] at p1 ⊢; exact ⟨W1, sl, st1, h1, s1, p1⟩
theorem gw_and1 (ha : GT X Wx ea ta) : GW X Wx (.BoolOp .And [ea] pos) ta := pw_and1 ha
theorem gw_or1 (ha : GT X Wx ea ta) : GW X Wx (.BoolOp .Or [ea] pos) ta := pw_or1 ha
theorem gt_bool (h : GW X Wx e ta) : GT X Wx e ta := PW.pt h

/-! ### and, or, not, if as values -/
def mAnd (a b : M) : M := fun sl st => (a sl st).bind fun x st => match truD st x with | some true => b sl st | some false => .ok x st | none => .bad
def mOr (a b : M) : M := fun sl st => (a sl st).bind fun x st => match truD st x with | some true => .ok x st | some false => b sl st | none => .bad
theorem ge_and {rest : List Expr} (ha : GE X Wx ea ma) (hb : GE X Wx (.BoolOp .And (eb :: rest) pos) mb) : GE X Wx (.BoolOp .And (ea :: eb :: rest) pos) (mAnd ma mb) := by
  refine (pe_andT ha hb).imp fun sh H Q ⟨W, sl, st, hr, hs, p⟩ => ?_
  refine rd_bind hr hs p fun d1 st1 W1 v1 H1 e1 x1 h1 s1 r1 p1 => ?_
  cases e : truD st1 d1 with
  | none => rw [e] at p1; exact p1.elim
  | some k =>
    rw [e] at p1
    refine ⟨k, tru_rep h1 r1 e, ?_⟩
    cases k with
    | true => rw [if_pos rfl]; exact ⟨W1, sl, st1, h1, s1, p1⟩
    | false => rw [if_neg Bool.false_ne_true]; exact p1.val h1 r1
theorem ge_or {rest : List Expr} (ha : GE X Wx ea ma) (hb : GE X Wx (.BoolOp .Or (eb :: rest) pos) mb) : GE X Wx (.BoolOp .Or (ea :: eb :: rest) pos) (mOr ma mb) := by
  refine (pe_orT ha hb).imp fun sh H Q ⟨W, sl, st, hr, hs, p⟩ => ?_
  refine rd_bind hr hs p fun d1 st1 W1 v1 H1 e1 x1 h1 s1 r1 p1 => ?_
  cases e : truD st1 d1 with
  | none => rw [e] at p1; exact p1.elim
  | some k =>
    rw [e] at p1
    refine ⟨k, tru_rep h1 r1 e, ?_⟩
    cases k with
    | true => rw [if_pos rfl]; exact p1.val h1 r1
    | false => rw [if_neg Bool.false_ne_true]; exact ⟨W1, sl, st1, h1, s1, p1⟩
theorem ge_one {op} (ha : GE X Wx ea ma) : GE X Wx (.BoolOp op [ea] pos) ma := pe_one ha
def mNot (a : M) : M := fun sl st => (a sl st).bind fun x st => match truD st x with | some k => .ok (.bool (!k)) st | none => .bad
theorem ge_not (ha : GE X Wx ea ma) : GE X Wx (.UnaryOp .Not ea pos) (mNot ma) := by
  refine (pe_notT ha).imp fun sh H Q ⟨W, sl, st, hr, hs, p⟩ => ?_
  refine rd_bind hr hs p fun d1 st1 W1 v1 H1 e1 x1 h1 s1 r1 p1 => ?_
  cases e : truD st1 d1 with
  | none => rw [e] at p1; exact p1.elim
  | some k => rw [e] at p1; exact ⟨k, tru_rep h1 r1 e, p1.val h1 rfl⟩
def mIf (t : MT) (a b : M) : M := fun sl st => (t sl st).bind fun k st => if k = true then a sl st else b sl st
theorem ge_if (hc : GT X Wx ec tc) (ha : GE X Wx ea ma) (hb : GE X Wx eb mb) : GE X Wx (.IfExp ec ea eb pos) (mIf tc ma mb) := by
  refine (pe_ifExp hc ha hb).imp fun sh H Q ⟨W, sl, st, hr, hs, p⟩ => ?_
  refine rdT_bindD hr hs p fun b st1 W1 H1 e1 x1 h1 s1 p1 => ?_
  cases b with
  | true => rw [if_pos rfl] at p1 ⊢; exact ⟨W1, sl, st1, h1, s1, p1⟩
  | false => rw [if_neg Bool.false_ne_true] at p1 ⊢; exact ⟨W1, sl, st1, h1, s1, p1⟩
end
end Pv
set_option Elab.async false
set_option linter.all false
set_option maxRecDepth 100000
set_option maxHeartbeats 4000000
namespace Pv
open PySem PySem.Spec L2
open PyProof.Rows hiding St

/-! ### several parts from the left -/
abbrev Ms := Sl → Sto → R (List D)
def msNil : Ms := fun _ st => .ok [] st
def msCons (a : M) (r : Ms) : Ms := fun sl st => (a sl st).bind fun x st => (r sl st).bind fun xs st => .ok (x :: xs) st
def PostL (N : Nv) (W : Wd) (H : Hp) (Q : List V → Hp → Prop) (E : XK) : R (List D) → Prop
  | .ok ds st => ∀ W' vs H', Ext W H W' H' → HR N.K W' H' st → repL N.K W' vs ds → Q vs H'
  | .exc x st => ∀ W' cls dd H', Ext W H W' H' → HR N.K W' H' st → repX N W' H' cls dd x → E cls dd H'
  | .bad => False
def rdL (N : Nv) (Wx : WX) (m : Ms) : TA := fun sh H Q => ∃ W sl st, HR N.K W H st ∧ SR N.K W sh sl ∧ PostL N W H Q (fun cls dd H' => Wx cls dd sh H') (m sl st)
def GA (X : Cx) (Wx : WX) (es : List Expr) (ms : Ms) : Prop := PA X es (rdL (nv X) Wx ms)
section
variable {X : Cx} {Wx : WX} {N : Nv} {W W' : Wd} {H H' : Hp} {st : Sto} {sl : Sl} {sh : L2.St}
theorem PostL.ext {Q : List V → Hp → Prop} {E : XK} {r : R (List D)} (e : Ext W H W' H') (h : PostL N W H Q E r) : PostL N W' H' Q E r := by
  cases r with
  | ok d st => exact fun W2 v H2 e2 hr rp => h W2 v H2 (e.trans e2) hr rp
  | exc x st => exact fun W2 c dd H2 e2 hr rp => h W2 c dd H2 (e.trans e2) hr rp
  | bad => exact h
theorem rd_bindL {m : M} {f : D → Sto → R (List D)} {Q : List V → Hp → Prop} {Q2 : VK} (hr : HR N.K W H st) (hs : SR N.K W sh sl)
    (h : PostL N W H Q (fun cls dd H' => Wx cls dd sh H') ((m sl st).bind f))
    (k : ∀ d st1 W1 v H1, m sl st = .ok d st1 → Ext W H W1 H1 → HR N.K W1 H1 st1 → SR N.K W1 sh sl → rep N.K W1 v d → PostL N W1 H1 Q (fun cls dd H' => Wx cls dd sh H') (f d st1) → Q2 v H1) : rd N Wx m sh H Q2 := by
  refine ⟨W, sl, st, hr, hs, ?_⟩
  cases e : m sl st with
  | ok d st1 => rw [e] at h; exact fun W1 v H1 e1 h1 r1 => k d st1 W1 v H1 e e1 h1 (hs.ext e1) r1 (PostL.ext e1 h)
  | exc x st1 => rw [e] at h; exact h
  | bad => rw [e] at h; exact h
theorem rdL_bindL {m : Ms} {f : List D → Sto → R (List D)} {Q Q2 : List V → Hp → Prop} (hr : HR N.K W H st) (hs : SR N.K W sh sl)
    (h : PostL N W H Q (fun cls dd H' => Wx cls dd sh H') ((m sl st).bind f))
    (k : ∀ ds st1 W1 vs H1, m sl st = .ok ds st1 → Ext W H W1 H1 → HR N.K W1 H1 st1 → SR N.K W1 sh sl → repL N.K W1 vs ds → PostL N W1 H1 Q (fun cls dd H' => Wx cls dd sh H') (f ds st1) → Q2 vs H1) : rdL N Wx m sh H Q2 := by
  refine ⟨W, sl, st, hr, hs, ?_⟩
  cases e : m sl st with
  | ok d st1 => rw [e] at h; exact fun W1 v H1 e1 h1 r1 => k d st1 W1 v H1 e e1 h1 (hs.ext e1) r1 (PostL.ext e1 h)
  | exc x st1 => rw [e] at h; exact h
  | bad => rw [e] at h; exact h
theorem rdL_bind {m : Ms} {f : List D → Sto → R D} {Q : VK} {Q2 : List V → Hp → Prop} (hr : HR N.K W H st) (hs : SR N.K W sh sl)
    (h : Post N W H Q (fun cls dd H' => Wx cls dd sh H') ((m sl st).bind f))
    (k : ∀ ds st1 W1 vs H1, m sl st = .ok ds st1 → Ext W H W1 H1 → HR N.K W1 H1 st1 → SR N.K W1 sh sl → repL N.K W1 vs ds → Post N W1 H1 Q (fun cls dd H' => Wx cls dd sh H') (f ds st1) → Q2 vs H1) : rdL N Wx m sh H Q2 := by
  refine ⟨W, sl, st, hr, hs, ?_⟩
  cases e : m sl st with
  | ok d st1 => rw [e] at h; exact fun W1 v H1 e1 h1 r1 => k d st1 W1 v H1 e e1 h1 (hs.ext e1) r1 (Post.ext e1 h)
  | exc x st1 => rw [e] at h; exact h
  | bad => rw [e] at h; exact h
theorem PostL.now {Q : List V → Hp → Prop} {E : XK} {ds : List D} {vs : List V} (hr : HR N.K W H st) (p : PostL N W H Q E (.ok ds st)) (h : repL N.K W vs ds) : Q vs H := p W vs H .refl hr h
theorem ga_nil : GA X Wx [] msNil := pa_nil.imp fun sh H Q ⟨W, sl, st, hr, hs, p⟩ => PostL.now (vs := []) hr p rfl
theorem ga_cons {e : Expr} {es : List Expr} {m : M} {ms : Ms} (ha : GE X Wx e m) (hr : GA X Wx es ms) (hs : starEach (e :: es) X.env = (false, eval e X.env) :: starEach es X.env := by rfl) : GA X Wx (e :: es) (msCons m ms) := by
  refine (pa_cons ha hr hs).imp fun sh H Q ⟨W, sl, st, hr, hs, p⟩ => ?_
  refine rd_bindL hr hs p fun d1 st1 W1 v1 H1 e1 x1 h1 s1 r1 p1 => ?_
  refine rdL_bindL h1 s1 p1 fun ds st2 W2 vs H2 e2 x2 h2 s2 r2 p2 => ?_
  exact PostL.now h2 p2 ⟨v1, vs, rfl, x2.rep r1, r2⟩
end

/-! ### displays -/
def mkTup (ds : List D) (st : Sto) : R D := if ds.length ≤ sizeLine then .ok (.tuple ds) st else .bad
def mkLst (ds : List D) (st : Sto) : R D := if ds.length ≤ sizeLine then .ok (.list ds) st else .bad
/-- a list that will grow: an object of the store -/
def mkLstM (ds : List D) (st : Sto) : R D := if ds.length ≤ sizeLine then .ok (Rf st.length) (st ++ [.lst ds]) else .bad
def mTup (ms : Ms) : M := fun sl st => (ms sl st).bind mkTup
def mLst (ms : Ms) : M := fun sl st => (ms sl st).bind mkLst
def mLstM (ms : Ms) : M := fun sl st => (ms sl st).bind mkLstM
section
variable {X : Cx} {Wx : WX} {es : List Expr} {ms : Ms} {pos : Pos} {N : Nv} {W W' : Wd} {H H' : Hp} {st : Sto}
theorem post_tup {Q : VK} {E : XK} {ds : List D} {vs : List V} (hr : HR N.K W H st) (h : repL N.K W vs ds) (p : Post N W H Q E (mkTup ds st)) : vs.length ≤ sizeLine ∧ ∀ a, H a = none → Q (.ref a) (upd H a (.tup vs)) := by
  unfold mkTup at p
  split at p
  · rename_i hl; exact ⟨by rw [repL_length h]; exact hl, p.tup hr h⟩
  · exact p.elim
theorem post_lst {Q : VK} {E : XK} {ds : List D} {vs : List V} (hr : HR N.K W H st) (h : repL N.K W vs ds) (p : Post N W H Q E (mkLst ds st)) : vs.length ≤ sizeLine ∧ ∀ a, H a = none → Q (.ref a) (upd H a (.lst vs)) := by
  unfold mkLst at p
  split at p
  · rename_i hl; exact ⟨by rw [repL_length h]; exact hl, p.lst hr h⟩
  · exact p.elim
theorem Post.lstM {Q : VK} {E : XK} {ds : List D} {vs : List V} (hr : HR N.K W H st) (h : repL N.K W vs ds) (p : Post N W H Q E (.ok (Rf st.length) (st ++ [.lst ds]))) : ∀ a, H a = none → Q (.ref a) (upd H a (.lst vs)) := fun a ha => by
  have ho : repO N.K ⟨W.F, W.rho ++ [a]⟩ (upd H a (.lst vs)) a (.lst ds) := ⟨vs, upd_same, repL_mono (W := W) (W' := ⟨W.F, W.rho ++ [a]⟩) (fun _ _ z => z) (fun r b z => by
    have hlt : r < W.rho.length := (List.getElem?_eq_some_iff.mp z).1
    show (W.rho ++ [a])[r]? = some b
    rw [List.getElem?_append_left hlt]; exact z) ds h⟩
  obtain ⟨h1, h2⟩ := hr.newM ha ho
  refine p _ _ _ h2 h1 ⟨st.length, a, rfl, rfl, ?_⟩
  show (W.rho ++ [a])[st.length]? = some a
  rw [← hr.len]; simp
theorem post_lstM {Q : VK} {E : XK} {ds : List D} {vs : List V} (hr : HR N.K W H st) (h : repL N.K W vs ds) (p : Post N W H Q E (mkLstM ds st)) : vs.length ≤ sizeLine ∧ ∀ a, H a = none → Q (.ref a) (upd H a (.lst vs)) := by
  unfold mkLstM at p
  split at p
  · rename_i hl; exact ⟨by rw [repL_length h]; exact hl, p.lstM hr h⟩
  · exact p.elim
theorem ge_tup {c} (h : GA X Wx es ms) : GE X Wx (.Tuple es c pos) (mTup ms) := by
  refine (pe_tup h).imp fun sh H Q ⟨W, sl, st, hr, hs, p⟩ => ?_
  exact rdL_bind hr hs p fun ds st1 W1 vs H1 e1 x1 h1 s1 r1 p1 => post_tup h1 r1 p1
theorem ge_lst (h : GA X Wx es ms) : GE X Wx (.List es pos) (mLst ms) := by
  refine (pe_lst h).imp fun sh H Q ⟨W, sl, st, hr, hs, p⟩ => ?_
  exact rdL_bind hr hs p fun ds st1 W1 vs H1 e1 x1 h1 s1 r1 p1 => post_lst h1 r1 p1
theorem ge_lstM (h : GA X Wx es ms) : GE X Wx (.List es pos) (mLstM ms) := by
  refine (pe_lst h).imp fun sh H Q ⟨W, sl, st, hr, hs, p⟩ => ?_
  exact rdL_bind hr hs p fun ds st1 W1 vs H1 e1 x1 h1 s1 r1 p1 => post_lstM h1 r1 p1
end

/-! ### dicts: keys, looks -/
def keyOf : D → Option Key
  | .int i => some (.inl i)
  | .str x => some (.inr x)
  | _ => none
def keysOf : List D → Option (List Key)
  | [] => some []
  | d :: ds => match keyOf d, keysOf ds with | some k, some ks => some (k :: ks) | _, _ => none
def lookD {κ : Type} [DecidableEq κ] (kvs : List (κ × D)) (k : κ) : Option D := (kvs.find? fun kv => decide (kv.1 = k)).map (·.2)
def putD {κ : Type} [DecidableEq κ] (kvs : List (κ × D)) (k : κ) (d : D) : List (κ × D) :=
  if (kvs.any fun kv => decide (kv.1 = k)) = true then kvs.map (fun kv => if kv.1 = k then (kv.1, d) else kv) else kvs ++ [(k, d)]
/-- what the dict holds at a key: none where it is no dict or no key -/
def dlook (st : Sto) (x y : D) : Option (Option D) :=
  match x with
  | .dict [(.int r, .none)] => (match st[r.toNat]? with
    | some (.dct kvs) => (keyOf y).map (lookD kvs)
    | some (.dctT kvs) => (match y with | .tuple ds => (keysOf ds).map (lookD kvs) | _ => none)
    | _ => none)
  | _ => none
section
variable {K : PySem.W.Frag} {W : Wd} {H : Hp} {st : Sto} {v u : V} {d y : D}
theorem keyOf_rep {k : Key} (h : rep K W v d) (e : keyOf d = some k) : v = kV k := by
  cases d with
  | int i => cases h; cases e; rfl
  | str x => cases h; cases e; rfl
  | _ => cases e
theorem keysOf_rep : ∀ {ds : List D} {vs : List V} {ks : List Key}, repL K W vs ds → keysOf ds = some ks → vs = ks.map kV
  | [], _, _, h, e => by cases h; cases e; rfl
  | d :: ds, _, ks, ⟨v, us, e1, r, l⟩, e => by
    simp only [keysOf] at e
    split at e
    · rename_i k ks' e2 e3
      cases e
      subst e1
      rw [keyOf_rep r e2, keysOf_rep l e3]; rfl
    · cases e
theorem look_rep {κ : Type} [DecidableEq κ] {ks : List (κ × V)} {kvs : List (κ × D)} (h : repP K W ks kvs) (k : κ) :
    (∀ d, lookD kvs k = some d → ∃ v, valV ks k = some v ∧ rep K W v d) ∧ (lookD kvs k = none → valV ks k = none) := by
  induction h with
  | nil => exact ⟨fun d e => (by cases e), fun _ => rfl⟩
  | @cons p q ps qs hq t ih =>
    by_cases hk : q.1 = k
    · have e1 : lookD (q :: qs) k = some q.2 := by simp [lookD, List.find?_cons, hk]
      have e2 : valV (p :: ps) k = some p.2 := valV_pos (by rw [hq.1]; exact hk)
      exact ⟨fun d e => by rw [e1] at e; cases e; exact ⟨_, e2, hq.2⟩, fun e => by rw [e1] at e; cases e⟩
    · have e1 : lookD (q :: qs) k = lookD qs k := by simp [lookD, List.find?_cons, hk]
      have e2 : valV (p :: ps) k = valV ps k := valV_neg (by rw [hq.1]; exact hk)
      rw [e1, e2]; exact ih
theorem any_rep {κ : Type} [DecidableEq κ] {ks : List (κ × V)} {kvs : List (κ × D)} (h : repP K W ks kvs) (k : κ) : (kvs.any fun kv => decide (kv.1 = k)) = ks.any fun kv => decide (kv.1 = k) := by
  induction h with
  | nil => rfl
  | @cons p q ps qs hq t ih => rw [List.any_cons, List.any_cons, ih, hq.1]
theorem put_rep {κ : Type} [DecidableEq κ] {ks : List (κ × V)} {kvs : List (κ × D)} (h : repP K W ks kvs) (k : κ) (r : rep K W v d) : repP K W (putK ks k v) (putD kvs k d) := by
  have ha := any_rep h k
  unfold putK putD
  rw [ha]
  split
  · rename_i hany
    clear ha hany
    induction h with
    | nil => exact .nil
    | @cons p q ps qs hq t ih =>
      simp only [List.map_cons]
      refine .cons ?_ ih
      by_cases hk : q.1 = k
      · rw [if_pos (by rw [hq.1]; exact hk), if_pos hk]; exact ⟨hq.1, r⟩
      · rw [if_neg (by rw [hq.1]; exact hk), if_neg hk]; exact hq
  · have snoc : ∀ {ks : List (κ × V)} {kvs : List (κ × D)}, repP K W ks kvs → repP K W (ks ++ [(k, v)]) (kvs ++ [(k, d)]) := by
      intro ks kvs h
      induction h with
      | nil => exact .cons ⟨rfl, r⟩ .nil
      | cons hq t ih => exact .cons hq ih
    exact snoc h
theorem repP_length {κ : Type} {ks : List (κ × V)} {kvs : List (κ × D)} (h : repP K W ks kvs) : ks.length = kvs.length := by
  induction h with
  | nil => rfl
  | cons _ _ ih => simp [ih]

/-- where a dict of the store stands, and what it holds -/
theorem dlook_rep (hr : HR K W H st) (h : rep K W v d) (hy : rep K W u y) {o : Option D} (e : dlook st d y = some o) : ∃ a ov, v = .ref a ∧ DGet H a u ov ∧ (∀ r, o = some r → ∃ w, ov = some w ∧ rep K W w r) ∧ (o = none → ov = none) := by
  unfold dlook at e
  split at e
  · rename_i i
    rcases rep_dict h with ⟨r, a, e1, e2, e3⟩ | ⟨ds', a, xs, e1, _, _⟩ | ⟨ds', a, xs, e1, _, _⟩ | ⟨ae, ade, ce, nse, fse, he⟩
    rotate_left
    · cases e1
    · cases e1
    · cases he
    have ei : i = (r : Int) := by injection e1 with q1 _; injection q1 with q2 _; injection q2
    subst ei
    rw [Int.toNat_natCast] at e
    obtain ⟨m, hm, _, ho⟩ := hr.at e3
    rw [hm] at e
    subst e2
    cases m with
    | dct kvs =>
      obtain ⟨ks, h1, h2⟩ := ho
      simp only at e
      obtain ⟨k, hk, eo⟩ := Option.map_eq_some_iff.mp e
      have := keyOf_rep hy hk
      subst this
      obtain ⟨l1, l2⟩ := look_rep h2 k
      refine ⟨a, valV ks k, rfl, .inl ⟨ks, k, .inl h1, rfl, rfl⟩, fun r hr' => ?_, fun hn => l2 (by rw [eo, hn])⟩
      obtain ⟨w, q1, q2⟩ := l1 r (by rw [eo, hr'])
      exact ⟨w, q1, q2⟩
    | dctT kvs =>
      obtain ⟨ks, h1, h2⟩ := ho
      simp only at e
      split at e
      · rename_i ds
        obtain ⟨k, hk, eo⟩ := Option.map_eq_some_iff.mp e
        obtain ⟨b, xs, q1, q2, q3⟩ := hy
        subst q1
        have := keysOf_rep q3 hk
        subst this
        obtain ⟨l1, l2⟩ := look_rep h2 k
        refine ⟨a, valV ks k, rfl, .inr ⟨ks, k, b, .inl h1, rfl, hr.sub _ _ q2, rfl⟩, fun r hr' => ?_, fun hn => l2 (by rw [eo, hn])⟩
        obtain ⟨w, q1, q2⟩ := l1 r (by rw [eo, hr'])
        exact ⟨w, q1, q2⟩
      · cases e
    | lst ds => cases e
    | ro ds => cases e
    | tb _ _ => cases e
  · cases e
end

/-! ### subscripts -/
def atD (ds : List D) (i : Int) : Option D := atI ds i
def dIx (x y : D) : Option D :=
  match x, y with
  | .list ds, .int i => atI ds i
  | .tuple ds, .int i => atI ds i
  | .dict [(.none, .list ds)], .int i => atI ds i
  | .str z, .int i => if z.length ≤ sizeLine then (atI z.cps.toList i).map fun c => .str ⟨#[c]⟩ else none
  | _, _ => none
/-- a list, a tuple, a text at an int; a dict at a key that is there -/
def fIx : F2 := fun x y st => match dlook st x y with
  | some (some d) => .ok d st
  | some none => .bad
  | none => onD2 dIx x y st
theorem fIx_nx (x y : D) (st : Sto) (ex : XV) (s2 : Sto) : fIx x y st ≠ .exc ex s2 := by
  unfold fIx
  split
  · simp
  · simp
  · exact onD2_nx _ _ _ _ _
def mIx : M → M → M := mOp2 fIx
section
variable {X : Cx} {Wx : WX} {ea eb e : Expr} {ma mb mc : M} {pos : Pos} {K : PySem.W.Frag} {W : Wd} {H : Hp} {st : Sto}
theorem atI_rep {vs : List V} {ds : List D} (h : repL K W vs ds) {i : Int} {d : D} (e : atI ds i = some d) : ∃ v, atI vs i = some v ∧ rep K W v d := by
  unfold atI at e ⊢
  rw [repL_length h]
  cases q : ixN ds.length i with
  | none => rw [q] at e; cases e
  | some j => rw [q] at e; exact repL_get j h e
theorem ge_ix (g : Gd0 X) (ha : GE X Wx ea ma) (hb : GE X Wx eb mb) (hs : PlainIx eb := by exact fun _ _ => rfl) : GE X Wx (.Subscript ea eb pos) (mIx ma mb) := by
  refine (PE.or (pe_ix ix_seq ha hb hs) (pe_dget (by have := g.un; omega) ha hb hs)).imp fun sh H Q ⟨W, sl, st, hr, hs, p⟩ => ?_
  cases e1 : ma sl st with
  | bad => unfold mIx mOp2 at p; rw [e1] at p; exact p.elim
  | exc x s2 =>
    refine .inl (rd_bind hr hs p fun d1 st1 W1 v1 H1 e2 => ?_)
    rw [e1] at e2; cases e2
  | ok d1 st1 =>
    cases e2 : mb sl st1 with
    | bad => unfold mIx mOp2 at p; rw [e1] at p; simp only [R.bind_ok] at p; rw [e2] at p; exact p.elim
    | exc x s2 =>
      refine .inl (rd_bind hr hs p fun d1' st1' W1 v1 H1 f1 x1 h1 s1 r1 p1 => ?_)
      rw [e1] at f1; cases f1
      refine rd_bind h1 s1 p1 fun d2' st2' W2 v2 H2 f2 => ?_
      rw [e2] at f2; cases f2
    | ok d2 st2 =>
      cases e3 : dlook st2 d1 d2 with
      | none =>
        refine .inl (rd_bind hr hs p fun d1' st1' W1 v1 H1 f1 x1 h1 s1 r1 p1 => ?_)
        rw [e1] at f1; cases f1
        refine rd_bind h1 s1 p1 fun d2' st2' W2 v2 H2 f2 x2 h2 s2 r2 p2 => ?_
        rw [e2] at f2; cases f2
        unfold fIx at p2
        rw [e3] at p2
        obtain ⟨d, e, p⟩ := onD2_post p2
        have r1' := x2.rep r1
        cases hx : deref st2 d1 with
        | list ds =>
          cases hy : deref st2 d2 with
          | int i =>
            rw [hx, hy] at e
            obtain ⟨a1, xs, q1, q2, l1⟩ := rep_dlist h2 r1' hx
            obtain ⟨v, q3, q4⟩ := atI_rep l1 (show atI ds i = some d from e)
            exact .inl ⟨a1, xs, i, v, q1, rep_dint h2 r2 hy, .inl (.inl q2), q3, p.val h2 q4⟩
          | _ => rw [hx, hy] at e; cases e
        | tuple ds =>
          cases hy : deref st2 d2 with
          | int i =>
            rw [hx, hy] at e
            obtain ⟨a1, xs, q1, q2, l1⟩ := rep_dtuple h2 r1' hx
            obtain ⟨v, q3, q4⟩ := atI_rep l1 (show atI ds i = some d from e)
            exact .inr (.inl ⟨a1, xs, i, v, q1, rep_dint h2 r2 hy, q2, q3, p.val h2 q4⟩)
          | _ => rw [hx, hy] at e; cases e
        | str z =>
          cases hy : deref st2 d2 with
          | int i =>
            rw [hx, hy] at e
            simp only [dIx] at e
            split at e
            · rename_i hl
              obtain ⟨c, q1, q2⟩ := Option.map_eq_some_iff.mp e
              subst q2
              exact .inr (.inr ⟨z, i, c, rep_dstr h2 r1' hx, rep_dint h2 r2 hy, hl, q1, p.val h2 rfl⟩)
            · cases e
          | _ => rw [hx, hy] at e; cases e
        | dict kvs =>
          rw [hx] at e
          unfold dIx at e
          split at e
          · rename_i q _; cases q
          · rename_i q _; cases q
          · rename_i ds i q hy
            cases q
            obtain ⟨a1, xs, q1, q2, l1⟩ := rep_dgs h2 r1' hx
            obtain ⟨v, q3, q4⟩ := atI_rep l1 (show atI ds i = some d from e)
            exact .inl ⟨a1, xs, i, v, q1, rep_dint h2 r2 hy, q2, q3, p.val h2 q4⟩
          · rename_i q _; cases q
          · cases e
        | _ => rw [hx] at e; cases e
      | some o =>
        refine .inr (rd_bind hr hs p fun d1' st1' W1 v1 H1 f1 x1 h1 s1 r1 p1 => ?_)
        rw [e1] at f1; cases f1
        refine rd_bind h1 s1 p1 fun d2' st2' W2 v2 H2 f2 x2 h2 s2 r2 p2 => ?_
        rw [e2] at f2; cases f2
        unfold fIx at p2
        rw [e3] at p2
        obtain ⟨a, ov, q1, q2, q3, q4⟩ := dlook_rep h2 (x2.rep r1) r2 e3
        cases o with
        | none => exact p2.elim
        | some d =>
          obtain ⟨w, q5, q6⟩ := q3 d rfl
          subst q5
          exact ⟨a, w, q1, q2, p2.val h2 q6⟩

/-! ### slices -/
abbrev MO? := Sl → Sto → R (Option Int)
def moNone : MO? := fun _ st => .ok none st
def moSome (m : M) : MO? := fun sl st => (m sl st).bind fun d st => match d with | .int i => .ok (some i) st | _ => .bad
def cutD (xs : List D) (lo hi : Option Int) : List D := (xs.drop (HT.sIx xs.length 0 lo)).take (HT.sIx xs.length xs.length hi - HT.sIx xs.length 0 lo)
def fSl (lo hi : Option Int) : F1 := fun x st =>
  match x with
  | .tuple ds => .ok (.tuple (cutD ds lo hi)) st
  | .dict [(.int r, .none)] => (match st[r.toNat]? with | some (.lst ds) => .ok (.list (cutD ds lo hi)) st | some (.ro ds) => .ok (.list (cutD ds lo hi)) st | _ => .bad)
  | .list ds => .ok (.list (cutD ds lo hi)) st
  | .dict [(.none, .list ds)] => .ok (.list (cutD ds lo hi)) st
  | .str z => if z.length ≤ sizeLine then .ok (.str (cutS z lo hi)) st else .bad
  | _ => .bad
def mSl (ma : M) (lo hi : MO?) : M := fun sl st => (ma sl st).bind fun x st => (lo sl st).bind fun l st => (hi sl st).bind fun h st => fSl l h x st
theorem cut_rep {vs : List V} {ds : List D} (h : repL K W vs ds) (lo hi : Option Int) : repL K W (cutV vs lo hi) (cutD ds lo hi) := by
  unfold cutV cutD
  rw [repL_length h]
  exact repL_take _ (repL_drop _ h)
theorem cut_whole {ds : List D} {lo hi : Option Int} (h : HT.sIx ds.length 0 lo = 0 ∧ HT.sIx ds.length ds.length hi = ds.length) : cutD ds lo hi = ds := by
  unfold cutD
  rw [h.1, h.2]; simp
def PostO (N : Nv) (W : Wd) (H : Hp) (Q : Option Int → Hp → Prop) (E : XK) : R (Option Int) → Prop
  | .ok o st => ∀ W' H', Ext W H W' H' → HR N.K W' H' st → Q o H'
  | .exc x st => ∀ W' cls dd H', Ext W H W' H' → HR N.K W' H' st → repX N W' H' cls dd x → E cls dd H'
  | .bad => False
/-- a slice's bound: its reading, and what it is -/
def GO (X : Cx) (Wx : WX) (e : Option Expr) (m : MO?) : Prop := PO X e (fun sh H Q => ∃ W sl st, HR X.K W H st ∧ SR X.K W sh sl ∧ PostO (nv X) W H Q (fun cls dd H' => Wx cls dd sh H') (m sl st))
theorem go_none : GO X Wx none moNone := ⟨fun pins s σ H Q I h => po_none.run pins s σ H Q I (by obtain ⟨W, sl, st, hr, hs, p⟩ := h; exact p W H .refl hr)⟩
theorem go_some (ha : GE X Wx ea ma) : GO X Wx (some ea) (moSome ma) := by
  refine ⟨fun pins s σ H Q I ⟨W, sl, st, hr, hs, p⟩ => (po_some ha).run pins s σ H Q I ?_⟩
  refine ⟨W, sl, st, hr, hs, ?_⟩
  unfold moSome at p
  cases e : ma sl st with
  | bad => rw [e] at p; exact p
  | exc x st => rw [e] at p; exact p
  | ok d st1 =>
    rw [e] at p
    intro W1 v H1 x1 h1 r1
    cases d with
    | int i => cases r1; exact ⟨i, rfl, p W1 H1 x1 h1⟩
    | _ => exact p.elim
theorem ge_slice {lo hi : Option Expr} {ml mh : MO?} {p2 : Pos} (ha : GE X Wx ea ma) (hl : GO X Wx lo ml) (hh : GO X Wx hi mh) : GE X Wx (.Subscript ea (.Slice lo hi none p2) pos) (mSl ma ml mh) := by
  refine (pe_slice ((sl_list.or sl_tupA).or sl_str) ha hl hh).imp fun sh H Q ⟨W, sl, st, hr, hs, p⟩ => ?_
  refine rd_bind hr hs p fun d1 st1 W1 v1 H1 e1 x1 h1 s1 r1 p1 => ?_
  refine ⟨W1, sl, st1, h1, s1, ?_⟩
  cases e2 : ml sl st1 with
  | bad => rw [e2] at p1; exact p1
  | exc x st => rw [e2] at p1; exact p1
  | ok l st2 =>
    rw [e2] at p1
    intro W2 H2 x2 h2
    refine ⟨W2, sl, st2, h2, s1.ext x2, ?_⟩
    have p2' := Post.ext x2 p1
    simp only [R.bind_ok] at p2'
    cases e3 : mh sl st2 with
    | bad => rw [e3] at p2'; exact p2'
    | exc x st => rw [e3] at p2'; exact p2'
    | ok h st3 =>
      rw [e3] at p2'
      intro W3 H3 x3 h3
      have p3 := Post.ext x3 p2'
      simp only [R.bind_ok] at p3
      have r3 := x3.rep (x2.rep r1)
      unfold fSl at p3
      split at p3
      · rename_i ds
        obtain ⟨a, xs, q1, q2, q3⟩ := r3
        subst q1
        refine .inl (.inr ⟨a, xs, rfl, .inl (.inl (h3.sub _ _ q2)), fun hw => ?_, fun _ => p3.tup h3 (cut_rep q3 l h)⟩)
        rw [repL_length q3] at hw
        rw [cut_whole hw] at p3
        exact p3.val h3 ⟨a, xs, rfl, q2, q3⟩
      · rename_i i
        rcases rep_dict r3 with ⟨r, a, f1, f2, f3⟩ | ⟨ds', a, xs, f1, _, _⟩ | ⟨ds', a, xs, f1, _, _⟩ | ⟨ae, ade, ce, nse, fse, he⟩
        rotate_left
        · cases f1
        · cases f1
        · cases he
        have ei : i = (r : Int) := by injection f1 with q1 _; injection q1 with q2 _; injection q2
        subst ei
        rw [Int.toNat_natCast] at p3
        obtain ⟨m, hm, _, ho⟩ := h3.at f3
        rw [hm] at p3
        cases m with
        | lst ds =>
          obtain ⟨xs, g1, g2⟩ := ho
          exact .inl (.inl ⟨a, xs, f2, .inl (.inl g1), p3.lst h3 (cut_rep g2 l h)⟩)
        | ro ds =>
          obtain ⟨o, xs, g1, g2⟩ := ho
          exact .inl (.inl ⟨a, xs, f2, .inl (.inr ⟨o, g1⟩), p3.lst h3 (cut_rep g2 l h)⟩)
        | dct _ => exact p3.elim
        | dctT _ => exact p3.elim
        | tb _ _ => exact p3.elim
      · rename_i ds
        obtain ⟨a, xs, q1, q2, q3⟩ := r3
        exact .inl (.inl ⟨a, xs, q1, .inl (.inl (h3.sub _ _ q2)), p3.lst h3 (cut_rep q3 l h)⟩)
      · rename_i ds
        obtain ⟨a, xs, q1, q2, q3⟩ := r3
        exact .inl (.inl ⟨a, xs, q1, sqL_mono h3.sub q2, p3.lst h3 (cut_rep q3 l h)⟩)
      · rename_i z
        split at p3
        · rename_i hz; cases r3; exact .inr ⟨z, rfl, hz, p3.val h3 rfl⟩
        · exact p3.elim
      · exact p3.elim
end

/-! ### calls of built-ins with one argument -/
section
variable {X : Cx} {Wx : WX} {ea eb e : Expr} {ma mb mc : M} {pos p : Pos} {x : Str}
theorem ge_callB1 {id : String} {r : List V → Hp → VK → Prop} {f : F1} (hc : CallR X (.builtin id) r) (nx : ∀ x st ex s2, f x st ≠ .exc ex s2) (ok : Ok1 (nv X) (fun x H Q => r [x] H Q) f) (hg : Gl X x) (hm : X.mg x = none) (hv : bootBuiltins x = some (.builtin id))
    (ha : GE X Wx ea ma) (hn : x ≠ "__name__") (hdb : (x == ("__debug__" : Str)) = false)
    (he : starEach (ea :: []) X.env = (false, eval ea X.env) :: starEach [] X.env := by rfl) (hpl : (backTo pos (starEach [] X.env)).any (·.1) = false := by rfl) : GE X Wx (.Call (.Name x p) [ea] [] pos) (mOp1 f ma) :=
  ge_op1 nx ok (pe_callB hc hg hm hv (pa_cons ha pa_nil he) hn hdb he hpl)
theorem ge_callT1 {T : String} {r : List V → Hp → VK → Prop} {f : F1} (hc : CallR X (.type T) r) (nx : ∀ x st ex s2, f x st ≠ .exc ex s2) (ok : Ok1 (nv X) (fun x H Q => r [x] H Q) f) (hg : Gl X x) (hm : X.mg x = none) (hv : bootBuiltins x = some (.type T))
    (ha : GE X Wx ea ma) (hn : x ≠ "__name__") (hdb : (x == ("__debug__" : Str)) = false)
    (he : starEach (ea :: []) X.env = (false, eval ea X.env) :: starEach [] X.env := by rfl) (hpl : (backTo pos (starEach [] X.env)).any (·.1) = false := by rfl) : GE X Wx (.Call (.Name x p) [ea] [] pos) (mOp1 f ma) :=
  ge_op1 nx ok (pe_callTy hc hg hm hv (pa_cons ha pa_nil he) hn hdb he hpl)
def dLen : D → Option D
  | .list ds => some (.int ds.length)
  | .tuple ds => some (.int ds.length)
  | .dict [(.none, .list ds)] => some (.int ds.length)
  | .str z => if z.length ≤ sizeLine then some (.int z.length) else none
  | _ => none
def fLen : F1 := onD1 dLen
def mLen : M → M := mOp1 fLen
theorem ge_len (hm : X.mg "len" = none) (ha : GE X Wx ea ma) (hg : Gl X "len" := by rfl)
    (he : starEach (ea :: []) X.env = (false, eval ea X.env) :: starEach [] X.env := by rfl) (hpl : (backTo pos (starEach [] X.env)).any (·.1) = false := by rfl) : GE X Wx (.Call (.Name "len" p) [ea] [] pos) (mLen ma) := by
  refine ge_callB1 call_len onD1_nx ?_ hg hm PySem.boot_len ha (by decide +kernel) (by decide +kernel) he hpl
  intro W H st x dx Q hr rx p
  obtain ⟨d, e, p⟩ := onD1_post p
  cases hx : deref st dx with
  | list ds => rw [hx] at e; cases e; obtain ⟨a, xs, e1, e2, l⟩ := rep_dlist hr rx hx; subst e1; exact ⟨_, ds.length, rfl, .inl ⟨xs, .inl (.inl e2), (repL_length l).symm⟩, p.val hr rfl⟩
  | tuple ds => rw [hx] at e; cases e; obtain ⟨a, xs, e1, e2, l⟩ := rep_dtuple hr rx hx; subst e1; exact ⟨_, ds.length, rfl, .inr ⟨xs, e2, (repL_length l).symm⟩, p.val hr rfl⟩
  | str z =>
    rw [hx] at e
    simp only [dLen] at e
    split at e
    · rename_i hl; cases e; rw [rep_dstr hr rx hx]; exact ⟨_, z.length, rfl, ⟨hl, rfl⟩, p.val hr rfl⟩
    · cases e
  | dict kvs =>
    rw [hx] at e
    unfold dLen at e
    split at e
    · rename_i q; cases q
    · rename_i q; cases q
    · rename_i q; cases q; cases e; obtain ⟨a, xs, e1, e2, l⟩ := rep_dgs hr rx hx; subst e1; exact ⟨_, _, rfl, .inl ⟨xs, e2, (repL_length l).symm⟩, p.val hr rfl⟩
    · rename_i q; cases q
    · cases e
  | _ => rw [hx] at e; cases e
def dInt : D → Option D
  | .int i => some (.int i)
  | .bool k => some (.int (if k then 1 else 0))
  | .str a => if a.length ≤ 640 then (PySem.intText? a).map .int else none
  | _ => none
def mInt : M → M := mOp1 (onD1 dInt)
theorem CallR.or {f : Value} {r r' : List V → Hp → VK → Prop} (h : CallR X f r) (h' : CallR X f r') : CallR X f (fun xs H Q => r xs H Q ∨ r' xs H Q) := by
  intro pins s σ H xs us Q I rx q
  rcases q with q | q
  · exact h pins s σ H xs us Q I rx q
  · exact h' pins s σ H xs us Q I rx q
theorem ge_toint (hm : X.mg "int" = none) (ha : GE X Wx ea ma) (hg : Gl X "int" := by rfl)
    (he : starEach (ea :: []) X.env = (false, eval ea X.env) :: starEach [] X.env := by rfl) (hpl : (backTo pos (starEach [] X.env)).any (·.1) = false := by rfl) : GE X Wx (.Call (.Name "int" p) [ea] [] pos) (mInt ma) := by
  refine ge_callT1 (CallR.or call_int1 call_int_str) onD1_nx ?_ hg hm PyProof.Rows.boot_int ha (by decide +kernel) (by decide +kernel) he hpl
  intro W H st x dx Q hr rx p
  obtain ⟨d, e, p⟩ := onD1_post p
  cases hx : deref st dx with
  | int i => rw [hx] at e; cases e; rw [rep_dint hr rx hx]; exact .inl (.inl ⟨i, rfl, p.val hr rfl⟩)
  | bool i => rw [hx] at e; cases e; rw [rep_dbool hr rx hx]; exact .inl (.inr ⟨i, rfl, p.val hr rfl⟩)
  | str z =>
    rw [hx] at e
    simp only [dInt] at e
    split at e
    · rename_i hl
      obtain ⟨n, e1, e2⟩ := Option.map_eq_some_iff.mp e
      subst e2
      rw [rep_dstr hr rx hx]; exact .inr ⟨z, n, rfl, e1, hl, p.val hr rfl⟩
    · cases e
  | _ => rw [hx] at e; cases e
def dTuple : D → Option D
  | .list ds => some (.tuple ds)
  | _ => none
def fTuple : F1 := fun x st => match x with | .tuple ds => .ok (.tuple ds) st | _ => onD1 dTuple x st
theorem fTuple_nx (x : D) (st : Sto) (ex : XV) (s2 : Sto) : fTuple x st ≠ .exc ex s2 := by
  unfold fTuple; split
  · simp
  · exact onD1_nx _ _ _ _
def mTuple : M → M := mOp1 fTuple
theorem ge_totuple (hm : X.mg "tuple" = none) (ha : GE X Wx ea ma) (hg : Gl X "tuple" := by rfl)
    (he : starEach (ea :: []) X.env = (false, eval ea X.env) :: starEach [] X.env := by rfl) (hpl : (backTo pos (starEach [] X.env)).any (·.1) = false := by rfl) : GE X Wx (.Call (.Name "tuple" p) [ea] [] pos) (mTuple ma) := by
  refine ge_callT1 call_tuple_of fTuple_nx ?_ hg hm (by decide +kernel) ha (by decide +kernel) (by decide +kernel) he hpl
  intro W H st x dx Q hr rx p
  unfold fTuple at p
  split at p
  · rename_i ds
    obtain ⟨a, xs, q1, q2, q3⟩ := rx
    subst q1
    exact ⟨a, xs, rfl, .inr ⟨.inl (.inl (hr.sub _ _ q2)), p.val hr ⟨a, xs, rfl, q2, q3⟩⟩⟩
  · obtain ⟨d, e, p⟩ := onD1_post p
    cases hx : deref st dx with
    | list ds => rw [hx] at e; cases e; obtain ⟨a, xs, e1, e2, l⟩ := rep_dlist hr rx hx; subst e1; exact ⟨a, xs, rfl, .inl ⟨.inl (.inl e2), p.tup hr l⟩⟩
    | _ => rw [hx] at e; cases e
def dList : D → Option D
  | .list ds => some (.list ds)
  | .tuple ds => some (.list ds)
  | _ => none
def mList : M → M := mOp1 (onD1 dList)
theorem ge_tolist (hm : X.mg "list" = none) (ha : GE X Wx ea ma) (hg : Gl X "list" := by rfl)
    (he : starEach (ea :: []) X.env = (false, eval ea X.env) :: starEach [] X.env := by rfl) (hpl : (backTo pos (starEach [] X.env)).any (·.1) = false := by rfl) : GE X Wx (.Call (.Name "list" p) [ea] [] pos) (mList ma) := by
  refine ge_callT1 call_list_of onD1_nx ?_ hg hm (by decide +kernel) ha (by decide +kernel) (by decide +kernel) he hpl
  intro W H st x dx Q hr rx p
  obtain ⟨d, e, p⟩ := onD1_post p
  cases hx : deref st dx with
  | list ds => rw [hx] at e; cases e; obtain ⟨a, xs, e1, e2, l⟩ := rep_dlist hr rx hx; subst e1; exact ⟨a, xs, rfl, .inl (.inl (.inl e2)), p.lst hr l⟩
  | tuple ds => rw [hx] at e; cases e; obtain ⟨a, xs, e1, e2, l⟩ := rep_dtuple hr rx hx; subst e1; exact ⟨a, xs, rfl, .inr e2, p.lst hr l⟩
  | _ => rw [hx] at e; cases e
/-- the truth values of a list -/
def boolsOf : List D → Option (List Bool)
  | [] => some []
  | .bool b :: ds => (boolsOf ds).map (b :: ·)
  | _ => none
def dAll : D → Option D
  | .list ds => (boolsOf ds).map fun bs => .bool (bs.all id)
  | _ => none
def dAny : D → Option D
  | .list ds => (boolsOf ds).map fun bs => .bool (bs.any id)
  | _ => none
theorem boolsOf_rep {K : PySem.W.Frag} {W : Wd} : ∀ {ds : List D} {vs : List V} {bs : List Bool}, repL K W vs ds → boolsOf ds = some bs → vs = bs.map V.bl
  | [], _, _, h, e => by cases h; cases e; rfl
  | .bool b :: ds, _, bs, ⟨v, us, e1, r, l⟩, e => by
    simp only [boolsOf] at e
    obtain ⟨cs, e2, e3⟩ := Option.map_eq_some_iff.mp e
    subst e3; subst e1
    cases r
    rw [boolsOf_rep l e2]; rfl
  | .none :: _, _, _, _, e => by cases e
  | .int _ :: _, _, _, _, e => by cases e
  | .str _ :: _, _, _, _, e => by cases e
  | .list _ :: _, _, _, _, e => by cases e
  | .tuple _ :: _, _, _, _, e => by cases e
  | .dict _ :: _, _, _, _, e => by cases e
def mAll : M → M := mOp1 (onD1 dAll)
def mAny : M → M := mOp1 (onD1 dAny)
theorem ge_all (g : Gd X) (hm : X.mg "all" = none) (ha : GE X Wx ea ma) (hg : Gl X "all" := by rfl)
    (he : starEach (ea :: []) X.env = (false, eval ea X.env) :: starEach [] X.env := by rfl) (hpl : (backTo pos (starEach [] X.env)).any (·.1) = false := by rfl) : GE X Wx (.Call (.Name "all" p) [ea] [] pos) (mAll ma) := by
  refine ge_callB1 (cr_all g.calm) onD1_nx ?_ hg hm (by decide +kernel) ha (by decide +kernel) (by decide +kernel) he hpl
  intro W H st x dx Q hr rx p
  obtain ⟨d, e, p⟩ := onD1_post p
  cases hx : deref st dx with
  | list ds =>
    rw [hx] at e
    obtain ⟨bs, q1, q2⟩ := Option.map_eq_some_iff.mp (show (boolsOf ds).map (fun bs => PyData.bool (bs.all id)) = some d from e)
    subst q2
    obtain ⟨a, xs, e1, e2, l⟩ := rep_dlist hr rx hx
    subst e1
    exact ⟨a, bs, rfl, .inl (.inl (by rw [← boolsOf_rep l q1]; exact e2)), p.val hr rfl⟩
  | _ => rw [hx] at e; cases e
theorem ge_any (g : Gd X) (hm : X.mg "any" = none) (ha : GE X Wx ea ma) (hg : Gl X "any" := by rfl)
    (he : starEach (ea :: []) X.env = (false, eval ea X.env) :: starEach [] X.env := by rfl) (hpl : (backTo pos (starEach [] X.env)).any (·.1) = false := by rfl) : GE X Wx (.Call (.Name "any" p) [ea] [] pos) (mAny ma) := by
  refine ge_callB1 (cr_any g.calm) onD1_nx ?_ hg hm (by decide +kernel) ha (by decide +kernel) (by decide +kernel) he hpl
  intro W H st x dx Q hr rx p
  obtain ⟨d, e, p⟩ := onD1_post p
  cases hx : deref st dx with
  | list ds =>
    rw [hx] at e
    obtain ⟨bs, q1, q2⟩ := Option.map_eq_some_iff.mp (show (boolsOf ds).map (fun bs => PyData.bool (bs.any id)) = some d from e)
    subst q2
    obtain ⟨a, xs, e1, e2, l⟩ := rep_dlist hr rx hx
    subst e1
    exact ⟨a, bs, rfl, .inl (.inl (by rw [← boolsOf_rep l q1]; exact e2)), p.val hr rfl⟩
  | _ => rw [hx] at e; cases e
end
end Pv
set_option Elab.async false
set_option linter.all false
set_option maxRecDepth 100000
set_option maxHeartbeats 4000000
namespace Pv
open PySem PySem.Spec L2
open PyProof.Rows hiding St

/-! ### statements -/
inductive RS where
  | nx (sl : Sl) (st : Sto) | rt (d : D) (st : Sto) | bk (sl : Sl) (st : Sto) | ct (sl : Sl) (st : Sto) | exc (x : XV) (st : Sto) | bad
abbrev MS := Sl → Sto → RS
def PostS (N : Nv) (n : Nat) (Wx : WX) (W : Wd) (H : Hp) (D : Ends) : RS → Prop
  | .nx sl st => ∀ W' sh' H', sh'.length = n → Ext W H W' H' → HR N.K W' H' st → SR N.K W' sh' sl → D.nx sh' H'
  | .bk sl st => ∀ W' sh' H', sh'.length = n → Ext W H W' H' → HR N.K W' H' st → SR N.K W' sh' sl → D.bk sh' H'
  | .ct sl st => ∀ W' sh' H', sh'.length = n → Ext W H W' H' → HR N.K W' H' st → SR N.K W' sh' sl → D.ct sh' H'
  | .rt d st => ∀ W' v H', Ext W H W' H' → HR N.K W' H' st → rep N.K W' v d → D.rt v H'
  | .exc x st => ∀ W' (sh' : L2.St) cls dd H', sh'.length = n → Ext W H W' H' → HR N.K W' H' st → repX N W' H' cls dd x → Wx cls dd sh' H'
  | .bad => False
def rdS (N : Nv) (Wx : WX) (m : MS) : TS := fun D sh H => ∃ W sl st, HR N.K W H st ∧ SR N.K W sh sl ∧ PostS N sh.length Wx W H D (m sl st)
def GS (X : Cx) (Wx : WX) (s : Stmt) (m : MS) : Prop := PS X s (rdS (nv X) Wx m)
def GSs (X : Cx) (Wx : WX) (s : List Stmt) (m : MS) : Prop := PSs X s (rdS (nv X) Wx m)
def RS.bind (r : RS) (f : Sl → Sto → RS) : RS := match r with | .nx sl st => f sl st | r => r
@[simp] theorem RS.bind_nx (sl : Sl) (st : Sto) (f : Sl → Sto → RS) : (RS.nx sl st).bind f = f sl st := rfl
@[simp] theorem RS.bind_rt (d : D) (st : Sto) (f : Sl → Sto → RS) : (RS.rt d st).bind f = .rt d st := rfl
@[simp] theorem RS.bind_bk (sl : Sl) (st : Sto) (f : Sl → Sto → RS) : (RS.bk sl st).bind f = .bk sl st := rfl
@[simp] theorem RS.bind_ct (sl : Sl) (st : Sto) (f : Sl → Sto → RS) : (RS.ct sl st).bind f = .ct sl st := rfl
@[simp] theorem RS.bind_exc (x : XV) (st : Sto) (f : Sl → Sto → RS) : (RS.exc x st).bind f = .exc x st := rfl
@[simp] theorem RS.bind_bad (f : Sl → Sto → RS) : RS.bad.bind f = .bad := rfl
/-- a value is reckoned, then the statement goes on -/
def R.thenS {α : Type} (r : R α) (f : α → Sto → RS) : RS := match r with | .ok a st => f a st | .exc x st => .exc x st | .bad => .bad
@[simp] theorem R.thenS_ok {α : Type} (a : α) (st : Sto) (f : α → Sto → RS) : (R.ok a st).thenS f = f a st := rfl
@[simp] theorem R.thenS_exc {α : Type} (x : XV) (st : Sto) (f : α → Sto → RS) : (R.exc x st : R α).thenS f = .exc x st := rfl
@[simp] theorem R.thenS_bad {α : Type} (f : α → Sto → RS) : (R.bad : R α).thenS f = .bad := rfl
section
variable {X : Cx} {Wx : WX} {N : Nv} {W W' : Wd} {H H' : Hp} {st : Sto} {sl : Sl} {sh : L2.St} {n : Nat} {D D' : Ends}
theorem PostS.ext {r : RS} (e : Ext W H W' H') (h : PostS N n Wx W H D r) : PostS N n Wx W' H' D r := by
  cases r with
  | nx sl st => exact fun W2 s2 H2 l e2 a b => h W2 s2 H2 l (e.trans e2) a b
  | bk sl st => exact fun W2 s2 H2 l e2 a b => h W2 s2 H2 l (e.trans e2) a b
  | ct sl st => exact fun W2 s2 H2 l e2 a b => h W2 s2 H2 l (e.trans e2) a b
  | rt d st => exact fun W2 s2 H2 e2 a b => h W2 s2 H2 (e.trans e2) a b
  | exc x st => exact fun W2 s2 c dd H2 l e2 a b => h W2 s2 c dd H2 l (e.trans e2) a b
  | bad => exact h
theorem rd_bindS {m : M} {f : Pv.D → Sto → RS} {Q2 : VK} (hr : HR N.K W H st) (hs : SR N.K W sh sl)
    (h : PostS N sh.length Wx W H D ((m sl st).thenS f))
    (k : ∀ d st1 W1 v H1, m sl st = .ok d st1 → Ext W H W1 H1 → HR N.K W1 H1 st1 → SR N.K W1 sh sl → rep N.K W1 v d → PostS N sh.length Wx W1 H1 D (f d st1) → Q2 v H1) : rd N Wx m sh H Q2 := by
  refine ⟨W, sl, st, hr, hs, ?_⟩
  cases e : m sl st with
  | ok d st1 => rw [e] at h; exact fun W1 v H1 e1 h1 r1 => k d st1 W1 v H1 e e1 h1 (hs.ext e1) r1 (PostS.ext e1 h)
  | exc x st1 => rw [e] at h; exact fun W1 c dd H1 e1 a b => h W1 sh c dd H1 rfl e1 a b
  | bad => rw [e] at h; exact h
theorem rdT_bindS {m : MT} {f : Bool → Sto → RS} {Q2 : Bool → Hp → Prop} (hr : HR N.K W H st) (hs : SR N.K W sh sl)
    (h : PostS N sh.length Wx W H D ((m sl st).thenS f))
    (k : ∀ b st1 W1 H1, m sl st = .ok b st1 → Ext W H W1 H1 → HR N.K W1 H1 st1 → SR N.K W1 sh sl → PostS N sh.length Wx W1 H1 D (f b st1) → Q2 b H1) : rdT N Wx m sh H Q2 := by
  refine ⟨W, sl, st, hr, hs, ?_⟩
  cases e : m sl st with
  | ok d st1 => rw [e] at h; exact fun W1 H1 e1 h1 => k d st1 W1 H1 e e1 h1 (hs.ext e1) (PostS.ext e1 h)
  | exc x st1 => rw [e] at h; exact fun W1 c dd H1 e1 a b => h W1 sh c dd H1 rfl e1 a b
  | bad => rw [e] at h; exact h
/-- one after another -/
def sSeq (a b : MS) : MS := fun sl st => (a sl st).bind b
def sNil : MS := fun sl st => .nx sl st
theorem gss_nil : GSs X Wx [] sNil := pss_nil.imp fun D sh H ⟨W, sl, st, hr, hs, p⟩ => p W sh H rfl .refl hr hs
theorem gss_one {s : Stmt} {a : MS} (h : GS X Wx s a) : GSs X Wx [s] a := pss_one h
theorem gss_cons {s : Stmt} {r : List Stmt} {a b : MS} (h : GS X Wx s a) (hr : GSs X Wx r b) : GSs X Wx (s :: r) (sSeq a b) := by
  refine (pss_cons h hr).imp fun D sh H ⟨W, sl, st, hr, hs, p⟩ => ?_
  refine ⟨W, sl, st, hr, hs, ?_⟩
  unfold sSeq at p
  cases e : a sl st with
  | nx sl1 st1 =>
    rw [e] at p
    intro W1 sh1 H1 l1 e1 h1 s1
    have q := PostS.ext e1 p
    rw [← l1] at q
    exact ⟨W1, sl1, st1, h1, s1, q⟩
  | rt d st1 => rw [e] at p; exact p
  | bk a b => rw [e] at p; exact p
  | ct a b => rw [e] at p; exact p
  | exc a b => rw [e] at p; exact p
  | bad => rw [e] at p; exact p

/-! ### targets -/
abbrev MG := Pv.D → Sl → Sto → R Sl
abbrev MGs := List Pv.D → Sl → Sto → R Sl
def PostG (N : Nv) (n : Nat) (Wx : WX) (W : Wd) (H : Hp) (Q : L2.St → Hp → Prop) : R Sl → Prop
  | .ok sl st => ∀ W' sh' H', sh'.length = n → Ext W H W' H' → HR N.K W' H' st → SR N.K W' sh' sl → Q sh' H'
  | .exc x st => ∀ W' (sh' : L2.St) cls dd H', sh'.length = n → Ext W H W' H' → HR N.K W' H' st → repX N W' H' cls dd x → Wx cls dd sh' H'
  | .bad => False
theorem PostG.ext {Q : L2.St → Hp → Prop} {r : R Sl} (e : Ext W H W' H') (h : PostG N n Wx W H Q r) : PostG N n Wx W' H' Q r := by
  cases r with
  | ok sl st => exact fun W2 s2 H2 l e2 a b => h W2 s2 H2 l (e.trans e2) a b
  | exc x st => exact fun W2 s2 c dd H2 l e2 a b => h W2 s2 c dd H2 l (e.trans e2) a b
  | bad => exact h
def rdG (N : Nv) (Wx : WX) (t : MG) : TG := fun v sh H Q => ∃ W sl st d, HR N.K W H st ∧ SR N.K W sh sl ∧ rep N.K W v d ∧ PostG N sh.length Wx W H Q (t d sl st)
def GG (X : Cx) (Wx : WX) (tg : Expr) (t : MG) : Prop := PG X tg (rdG (nv X) Wx t)
theorem _root_.L2.PG.imp {X : Cx} {e : Expr} {t t' : TG} (h : PG X e t) (i : ∀ v σ H Q, t' v σ H Q → t v σ H Q) : PG X e t' := ⟨fun pins s σ H v u Q I r q => h.run pins s σ H v u Q I r (i v σ H Q q)⟩
def rdGs (N : Nv) (Wx : WX) (t : MGs) : TGs := fun vs sh H Q => ∃ W sl st ds, HR N.K W H st ∧ SR N.K W sh sl ∧ repL N.K W vs ds ∧ PostG N sh.length Wx W H Q (t ds sl st)
def GGs (X : Cx) (Wx : WX) (tgs : List Expr) (t : MGs) : Prop := PGs X tgs (rdGs (nv X) Wx t)
theorem _root_.L2.PGs.imp {X : Cx} {e : List Expr} {t t' : TGs} (h : PGs X e t) (i : ∀ v σ H Q, t' v σ H Q → t v σ H Q) : PGs X e t' := ⟨fun pins s σ H v u Q I r q => h.run pins s σ H v u Q I r (i v σ H Q q)⟩
def tgName (i : Nat) : MG := fun d sl st => .ok (sl.set i (some d)) st
def tgNil : MGs := fun ds sl st => match ds with | [] => .ok sl st | _ => .bad
def tgCons (a : MG) (r : MGs) : MGs := fun ds sl st => match ds with | d :: ds => (a d sl st).bind (r ds) | _ => .bad
/-- a tuple's (or a list's) items, one for each target -/
def tgTup (n : Nat) (t : MGs) : MG := fun d sl st => match d with | .tuple ds => if ds.length = n then t ds sl st else .bad | _ => .bad
theorem gg_name {x : Str} {pos : Pos} (g : Gd0 X) (i : Nat) (hi : X.N[i]? = some x := by rfl) (hx : Loc X.env.scope x := by first | exact Or.inl rfl | exact Or.inr rfl) (hf : X.fn x = true ∨ X.env.scope.names.lookup x = some .local := by first | exact .inl rfl | exact .inr rfl) : GG X Wx (.Name x pos) (tgName i) := by
  refine (pg_name g.nd hi hx hf).imp fun v sh H Q ⟨W, sl, st, d, hr, hs, r, p⟩ => ?_
  exact p W _ H (by simp) .refl hr (hs.set i r)
theorem ggs_nil : GGs X Wx [] tgNil := by
  refine pgs_nil.imp fun vs sh H Q ⟨W, sl, st, ds, hr, hs, r, p⟩ => ?_
  cases ds with
  | nil => cases r; exact ⟨rfl, p W _ H rfl .refl hr hs⟩
  | cons _ _ => exact p.elim
theorem ggs_cons {e : Expr} {es : List Expr} {a : MG} {r : MGs} (ha : GG X Wx e a) (hr : GGs X Wx es r) (h : (assignEach (e :: es) X.env).map (·.2) = assign e X.env :: (assignEach es X.env).map (·.2) := by rfl) : GGs X Wx (e :: es) (tgCons a r) := by
  refine (pgs_cons ha hr h).imp fun vs sh H Q ⟨W, sl, st, ds, hr, hs, rl, p⟩ => ?_
  cases ds with
  | nil => exact p.elim
  | cons d ds =>
    obtain ⟨v, us, e, r1, l1⟩ := rl
    refine ⟨v, us, e, W, sl, st, d, hr, hs, r1, ?_⟩
    unfold tgCons at p
    simp only at p
    cases q : a d sl st with
    | ok sl1 st1 =>
      rw [q] at p
      intro W1 sh1 H1 ln e1 h1 s1
      have p1 := PostG.ext e1 p
      rw [← ln] at p1
      exact ⟨W1, sl1, st1, ds, h1, s1, e1.repL l1, p1⟩
    | exc a b => rw [q] at p; exact p
    | bad => rw [q] at p; exact p
theorem gg_tup {es : List Expr} {k n : Nat} {t : MGs} {pos : Pos} (g : Gd X) (h : GGs X Wx es t) (hn : (assignEach es X.env).length = n := by rfl) (hst : (assignEach es X.env).findIdx? (·.1) = none := by rfl) : GG X Wx (.Tuple es k pos) (tgTup n t) := by
  refine (pg_tup g.calm h hn hst).imp fun v sh H Q ⟨W, sl, st, d, hr, hs, r, p⟩ => ?_
  unfold tgTup at p
  split at p
  · rename_i ds
    split at p
    · rename_i hl
      obtain ⟨a, xs, e, f, l⟩ := r
      exact ⟨a, xs, e, .inl (.inl (hr.sub _ _ f)), by rw [repL_length l]; exact hl, W, sl, st, ds, hr, hs, l, p⟩
    · exact p.elim
  · exact p.elim
/-- o[i] = v, the store behind it -/
def setO (st : Sto) (o i v : Pv.D) : Option Sto :=
  match o with
  | .dict [(.int r, .none)] => (match st[r.toNat]? with
    | some (.dct kvs) => if kvs.length < sizeLine then (keyOf i).map fun k => st.set r.toNat (.dct (putD kvs k v)) else none
    | some (.dctT kvs) => (match i with | .tuple ds => if kvs.length < sizeLine then (keysOf ds).map fun k => st.set r.toNat (.dctT (putD kvs k v)) else none | _ => none)
    | some (.lst ds) => (match i with | .int k => (ixN ds.length k).map fun j => st.set r.toNat (.lst (ds.set j v)) | _ => none)
    | _ => none)
  | _ => none
theorem setO_rep {o i v : V} {od id vd : Pv.D} {st' : Sto} (hr : HR N.K W H st) (ro : rep N.K W o od) (ri : rep N.K W i id) (rv : rep N.K W v vd) (e : setO st od id vd = some st') :
    ∃ H', Ext W H W H' ∧ HR N.K W H' st' ∧ ∀ Q : Hp → Prop, Q H' → rSetL o i v H Q ∨ rSetD o i v H Q := by
  unfold setO at e
  split at e
  · rename_i j
    rcases rep_dict ro with ⟨r, a, e1, e2, e3⟩ | ⟨ds', a, xs, e1, _, _⟩ | ⟨ds', a, xs, e1, _, _⟩ | ⟨ae, ade, ce, nse, fse, he⟩
    rotate_left
    · cases e1
    · cases e1
    · cases he
    have ei : j = (r : Int) := by injection e1 with q1 _; injection q1 with q2 _; injection q2
    subst ei
    rw [Int.toNat_natCast] at e
    obtain ⟨m, hm, _, ho⟩ := hr.at e3
    rw [hm] at e
    subst e2
    cases m with
    | dct kvs =>
      obtain ⟨ks, h1, h2⟩ := ho
      simp only at e
      split at e
      · rename_i hl
        obtain ⟨k, hk, eo⟩ := Option.map_eq_some_iff.mp e
        subst eo
        have := keyOf_rep ri hk
        subst this
        obtain ⟨h3, x3⟩ := hr.set (o := .dK (putK ks k v)) (m := .dct (putD kvs k vd)) e3 hm ⟨_, upd_same, put_rep h2 k rv⟩
        exact ⟨_, x3, h3, fun Q q => .inr ⟨a, _, rfl, .inl ⟨ks, k, h1, rfl, by rw [repP_length h2]; exact hl, rfl⟩, q⟩⟩
      · cases e
    | dctT kvs =>
      obtain ⟨ks, h1, h2⟩ := ho
      simp only at e
      split at e
      · rename_i ds
        split at e
        · rename_i hl
          obtain ⟨k, hk, eo⟩ := Option.map_eq_some_iff.mp e
          subst eo
          obtain ⟨b, xs, q1, q2, q3⟩ := ri
          subst q1
          have := keysOf_rep q3 hk
          subst this
          obtain ⟨h3, x3⟩ := hr.set (o := .dT (putK ks k v)) (m := .dctT (putD kvs k vd)) e3 hm ⟨_, upd_same, put_rep h2 k rv⟩
          exact ⟨_, x3, h3, fun Q q => .inr ⟨a, _, rfl, .inr ⟨ks, k, b, h1, rfl, hr.sub _ _ q2, by rw [repP_length h2]; exact hl, rfl⟩, q⟩⟩
        · cases e
      · cases e
    | lst ds =>
      obtain ⟨xs, h1, h2⟩ := ho
      simp only at e
      split at e
      · rename_i k
        obtain ⟨j, hj, eo⟩ := Option.map_eq_some_iff.mp e
        subst eo
        cases ri
        obtain ⟨h3, x3⟩ := hr.set (o := .lst (xs.set j v)) (m := .lst (ds.set j vd)) e3 hm ⟨_, upd_same, repL_set j h2 rv⟩
        exact ⟨_, x3, h3, fun Q q => .inl ⟨a, xs, k, j, rfl, rfl, h1, by rw [repL_length h2]; exact hj, q⟩⟩
      · cases e
    | ro ds => cases e
    | tb _ _ => cases e
  · cases e
theorem PSet.or {t t' : TSet} (h : PSet X t) (h' : PSet X t') : PSet X (fun o i v H Q => t o i v H Q ∨ t' o i v H Q) := by
  intro pins s σ H o i v ov iv u Q I ro ri rv q
  rcases q with q | q
  · exact h pins s σ H o i v ov iv u Q I ro ri rv q
  · exact h' pins s σ H o i v ov iv u Q I ro ri rv q
def tgSub (mo mi : M) : MG := fun d sl st => (mo sl st).bind fun o st => (mi sl st).bind fun i st => match setO st o i d with | some st' => .ok sl st' | none => .bad
theorem rd_bindG {m : M} {f : Pv.D → Sto → R Sl} {Q : L2.St → Hp → Prop} {Q2 : VK} (hr : HR N.K W H st) (hs : SR N.K W sh sl)
    (h : PostG N sh.length Wx W H Q ((m sl st).bind f))
    (k : ∀ d st1 W1 v H1, m sl st = .ok d st1 → Ext W H W1 H1 → HR N.K W1 H1 st1 → SR N.K W1 sh sl → rep N.K W1 v d → PostG N sh.length Wx W1 H1 Q (f d st1) → Q2 v H1) : rd N Wx m sh H Q2 := by
  refine ⟨W, sl, st, hr, hs, ?_⟩
  cases e : m sl st with
  | ok d st1 => rw [e] at h; exact fun W1 v H1 e1 h1 r1 => k d st1 W1 v H1 e e1 h1 (hs.ext e1) r1 (PostG.ext e1 h)
  | exc x st1 => rw [e] at h; exact fun W1 c dd H1 e1 a b => h W1 sh c dd H1 rfl e1 a b
  | bad => rw [e] at h; exact h
theorem gg_sub {o i : Expr} {mo mi : M} {tpos : Pos} (g : Gd X) (ho : GE X Wx o mo) (hi : GE X Wx i mi) (ha : ∀ v, assign (.Subscript o i tpos) X.env v = (do
      let ov ← holding [v] (eval o X.env)
      let iv ← holding [v, ov] (eval i X.env)
      standAt tpos
      holding [v, ov, iv] (setItem ov iv v)
      release [v, ov, iv] []) := by intro _; rfl) : GG X Wx (.Subscript o i tpos) (tgSub mo mi) := by
  refine (pg_sub (ha := ha) ho hi (PSet.or set_list (set_dict (by have := g.un; omega)))).imp fun v sh H Q ⟨W, sl, st, d, hr, hs, r, p⟩ => ?_
  refine rd_bindG hr hs p fun d1 st1 W1 v1 H1 e1 x1 h1 s1 r1 p1 => ?_
  refine rd_bindG h1 s1 p1 fun d2 st2 W2 v2 H2 e2 x2 h2 s2 r2 p2 => ?_
  cases e : setO st2 d1 d2 d with
  | none => rw [e] at p2; exact p2.elim
  | some st3 =>
    rw [e] at p2
    obtain ⟨H3, x3, h3, k⟩ := setO_rep h2 (x2.rep r1) r2 (x2.rep (x1.rep r)) e
    exact k _ (p2 W2 sh H3 rfl x3 h3 (s2.ext x3))
/-- target = e -/
def sAsg (m : M) (t : MG) : MS := fun sl st => (m sl st).thenS fun d st => (t d sl st).thenS .nx
theorem PostG.of {r : R Sl} (p : PostS N n Wx W H D (r.thenS .nx)) : PostG N n Wx W H D.nx r := by
  cases r with
  | ok a b => exact p
  | exc a b => exact p
  | bad => exact p
theorem asg_read {m : M} {t : MG} (hr : HR N.K W H st) (hs : SR N.K W sh sl) (p : PostS N sh.length Wx W H D (sAsg m t sl st)) : tAsg (rd N Wx m) (rdG N Wx t) D sh H := by
  refine rd_bindS hr hs p fun d1 st1 W1 v1 H1 e1 x1 h1 s1 r1 p1 => ?_
  exact ⟨W1, sl, st1, d1, h1, s1, r1, .of p1⟩
theorem gs_asg {tg e : Expr} {m : M} {t : MG} {pos : Pos} (he : GE X Wx e m) (hg : GG X Wx tg t) (hs : swapsWithSole [tg] e pos.line X.env = pure false := by rfl) (hw : swappedStores [tg] e X.env = pure none := by rfl)
    (h1 : (assignEach [tg] X.env).map (·.2) = [assign tg X.env] := by rfl) : GS X Wx (.Assign [tg] e pos) (sAsg m t) :=
  (ps_asg he hg hs hw h1).imp fun D sh H ⟨W, sl, st, hr, hs, p⟩ => asg_read hr hs p
end
end Pv
set_option Elab.async false
set_option linter.all false
set_option maxRecDepth 100000
set_option maxHeartbeats 4000000
namespace Pv
open PySem PySem.Spec L2
open PyProof.Rows hiding St
section
variable {X : Cx} {Wx : WX} {N : Nv} {W W' : Wd} {H H' : Hp} {st : Sto} {sl : Sl} {sh : L2.St} {n : Nat} {D D' : Ends}
def set2 (i j : Nat) (sl : Sl) : List Pv.D → Sto → RS
  | [a, b], st => .nx ((sl.set i (some a)).set j (some b)) st
  | _, _ => .bad
def set3 (i j l : Nat) (sl : Sl) : List Pv.D → Sto → RS
  | [a, b, c], st => .nx (((sl.set i (some a)).set j (some b)).set l (some c)) st
  | _, _ => .bad
theorem set2_inv {i j : Nat} {ds : List Pv.D} {vs : List V} (hr : HR N.K W H st) (hs : SR N.K W sh sl) (r : repL N.K W vs ds) (p : PostS N sh.length Wx W H D (set2 i j sl ds st)) : ∃ v w, vs = [v, w] ∧ D.nx ((sh.set i (some v)).set j (some w)) H := by
  cases ds with
  | nil => exact p.elim
  | cons d ds =>
    cases ds with
    | nil => exact p.elim
    | cons e ds =>
      cases ds with
      | cons _ _ => exact p.elim
      | nil =>
        obtain ⟨v, us, q1, r, w, us2, q2, r2, q3⟩ := r
        subst q3; subst q2; subst q1
        exact ⟨v, w, rfl, p W _ H (by simp) .refl hr ((hs.set i r).set j r2)⟩
theorem set3_inv {i j l : Nat} {ds : List Pv.D} {vs : List V} (hr : HR N.K W H st) (hs : SR N.K W sh sl) (r : repL N.K W vs ds) (p : PostS N sh.length Wx W H D (set3 i j l sl ds st)) : ∃ u v w, vs = [u, v, w] ∧ D.nx (((sh.set i (some u)).set j (some v)).set l (some w)) H := by
  cases ds with
  | nil => exact p.elim
  | cons d ds =>
    cases ds with
    | nil => exact p.elim
    | cons e ds =>
      cases ds with
      | nil => exact p.elim
      | cons f ds =>
        cases ds with
        | cons _ _ => exact p.elim
        | nil =>
          obtain ⟨v, us, q1, r, w, us2, q2, r2, x, us3, q3, r3, q4⟩ := r
          subst q4; subst q3; subst q2; subst q1
          exact ⟨v, w, x, rfl, p W _ H (by simp) .refl hr (((hs.set i r).set j r2).set l r3)⟩
def sPar2 (i j : Nat) (ms : Ms) : MS := fun sl st => (ms sl st).thenS (set2 i j sl)
def sPar3 (i j l : Nat) (ms : Ms) : MS := fun sl st => (ms sl st).thenS (set3 i j l sl)
theorem rdL_bindS {m : Ms} {f : List Pv.D → Sto → RS} {Q2 : List V → Hp → Prop} (hr : HR N.K W H st) (hs : SR N.K W sh sl)
    (h : PostS N sh.length Wx W H D ((m sl st).thenS f))
    (k : ∀ ds st1 W1 vs H1, m sl st = .ok ds st1 → Ext W H W1 H1 → HR N.K W1 H1 st1 → SR N.K W1 sh sl → repL N.K W1 vs ds → PostS N sh.length Wx W1 H1 D (f ds st1) → Q2 vs H1) : rdL N Wx m sh H Q2 := by
  refine ⟨W, sl, st, hr, hs, ?_⟩
  cases e : m sl st with
  | ok d st1 => rw [e] at h; exact fun W1 v H1 e1 h1 r1 => k d st1 W1 v H1 e e1 h1 (hs.ext e1) r1 (PostS.ext e1 h)
  | exc x st1 => rw [e] at h; exact fun W1 c dd H1 e1 a b => h W1 sh c dd H1 rfl e1 a b
  | bad => rw [e] at h; exact h
theorem par2_read {i j : Nat} {ms : Ms} (hr : HR N.K W H st) (hs : SR N.K W sh sl) (p : PostS N sh.length Wx W H D (sPar2 i j ms sl st)) : tPar i j (rdL N Wx ms) D sh H :=
  rdL_bindS hr hs p fun ds st1 W1 vs H1 e1 x1 h1 s1 r1 p1 => set2_inv h1 s1 r1 p1
theorem par3_read {i j l : Nat} {ms : Ms} (hr : HR N.K W H st) (hs : SR N.K W sh sl) (p : PostS N sh.length Wx W H D (sPar3 i j l ms sl st)) : tPar3 i j l (rdL N Wx ms) D sh H :=
  rdL_bindS hr hs p fun ds st1 W1 vs H1 e1 x1 h1 s1 r1 p1 => set3_inv h1 s1 r1 p1
theorem gs_par2 {i j : Nat} {x y : Str} {a b : Expr} {ms : Ms} {px py pt pos : Pos} {kt k2 pt2} (g : Gd X) (ha : GA X Wx [a, b] ms) (hi : X.N[i]? = some x) (hj : X.N[j]? = some y) (hij : i ≠ j)
    (hx : X.env.scope.names.lookup x = some .local) (hy : X.env.scope.names.lookup y = some .local)
    (hw : swappedStores [.Tuple [.Name x px, .Name y py] kt pt] (.Tuple [a, b] k2 pt2) X.env = pure (some [x, y]))
    (hs : swapsWithSole [.Tuple [.Name x px, .Name y py] kt pt] (.Tuple [a, b] k2 pt2) pos.line X.env = pure false) :
    GS X Wx (.Assign [.Tuple [.Name x px, .Name y py] kt pt] (.Tuple [a, b] k2 pt2) pos) (sPar2 i j ms) :=
  PS.imp (ps_par g.calm g.nd hi hj hij hx hy ha hw hs) fun D sh H ⟨W, sl, st, hr, hs, p⟩ => par2_read hr hs p
theorem gs_par3 {i j l : Nat} {x y z : Str} {a b c : Expr} {ms : Ms} {px py pz pt pos : Pos} {kt k2 pt2} (g : Gd X) (ha : GA X Wx [a, b, c] ms) (hi : X.N[i]? = some x) (hj : X.N[j]? = some y) (hl : X.N[l]? = some z) (hij : i ≠ j) (hil : i ≠ l) (hjl : j ≠ l)
    (hx : X.env.scope.names.lookup x = some .local) (hy : X.env.scope.names.lookup y = some .local) (hz : X.env.scope.names.lookup z = some .local)
    (hw : swappedStores [.Tuple [.Name x px, .Name y py, .Name z pz] kt pt] (.Tuple [a, b, c] k2 pt2) X.env = pure (some [x, y, z]))
    (hs : swapsWithSole [.Tuple [.Name x px, .Name y py, .Name z pz] kt pt] (.Tuple [a, b, c] k2 pt2) pos.line X.env = pure false) :
    GS X Wx (.Assign [.Tuple [.Name x px, .Name y py, .Name z pz] kt pt] (.Tuple [a, b, c] k2 pt2) pos) (sPar3 i j l ms) :=
  PS.imp (ps_par3 g.calm g.nd hi hj hl hij hil hjl hx hy hz ha hw hs) fun D sh H ⟨W, sl, st, hr, hs, p⟩ => par3_read hr hs p

/-! ### plain statements -/
def sExpr (m : M) : MS := fun sl st => (m sl st).thenS fun _ st => .nx sl st
theorem gs_expr {e : Expr} {m : M} {pos : Pos} (he : GE X Wx e m) (hs : swapsWith e none pos.line X.env = pure false := by rfl) : GS X Wx (.Expr e pos) (sExpr m) := by
  refine PS.imp (ps_expr he hs) fun D sh H ⟨W, sl, st, hr, hs, p⟩ => ?_
  exact rd_bindS hr hs p fun d1 st1 W1 v1 H1 e1 x1 h1 s1 r1 p1 => p1 W1 sh H1 rfl .refl h1 s1
theorem gs_pass {pos : Pos} : GS X Wx (.Pass pos) sNil := PS.imp ps_pass fun D sh H ⟨W, sl, st, hr, hs, p⟩ => p W sh H rfl .refl hr hs
def sBrk : MS := fun sl st => .bk sl st
theorem gs_break {pos : Pos} : GS X Wx (.Break pos) sBrk := PS.imp ps_break fun D sh H ⟨W, sl, st, hr, hs, p⟩ => p W sh H rfl .refl hr hs
def sCont : MS := fun sl st => .ct sl st
theorem gs_continue {pos : Pos} : GS X Wx (.Continue pos) sCont := PS.imp ps_continue fun D sh H ⟨W, sl, st, hr, hs, p⟩ => p W sh H rfl .refl hr hs
def sRet (m : M) : MS := fun sl st => (m sl st).thenS fun d st => .rt d st
theorem gs_ret {e : Expr} {m : M} {pos : Pos} (he : GE X Wx e m) : GS X Wx (.Return (some e) pos) (sRet m) := by
  refine PS.imp (ps_ret he) fun D sh H ⟨W, sl, st, hr, hs, p⟩ => ?_
  exact rd_bindS hr hs p fun d1 st1 W1 v1 H1 e1 x1 h1 s1 r1 p1 => p1 W1 v1 H1 .refl h1 r1
def sRetN : MS := fun sl st => .rt .none st
theorem gs_retN {pos : Pos} : GS X Wx (.Return none pos) sRetN := PS.imp ps_retN fun D sh H ⟨W, sl, st, hr, hs, p⟩ => p W .non H .refl hr rfl
def sIf (t : MT) (a b : MS) : MS := fun sl st => (t sl st).thenS fun k st => if k = true then a sl st else b sl st
theorem gs_if {c : Expr} {p q : List Stmt} {t : MT} {a b : MS} {pos : Pos} (hc : GT X Wx c t) (ha : GSs X Wx p a) (hb : GSs X Wx q b) : GS X Wx (.If c p q pos) (sIf t a b) := by
  refine PS.imp (ps_if hc ha hb) fun D sh H ⟨W, sl, st, hr, hs, p⟩ => ?_
  refine rdT_bindS hr hs p fun k st1 W1 H1 e1 x1 h1 s1 p1 => ?_
  cases k with
  | true => rw [if_pos rfl] at p1 ⊢; exact ⟨W1, sl, st1, h1, s1, p1⟩
  | false => rw [if_neg Bool.false_ne_true] at p1 ⊢; exact ⟨W1, sl, st1, h1, s1, p1⟩

/-! ### data are the same -/
mutual
def sameD : Pv.D → Pv.D → Bool
  | .none, .none => true
  | .bool a, .bool b => a == b
  | .int a, .int b => decide (a = b)
  | .str a, .str b => decide (a = b)
  | .list a, .list b => sameL a b
  | .tuple a, .tuple b => sameL a b
  | .dict a, .dict b => sameP a b
  | _, _ => false
def sameL : List Pv.D → List Pv.D → Bool
  | [], [] => true
  | a :: as, b :: bs => sameD a b && sameL as bs
  | _, _ => false
def sameP : List (Pv.D × Pv.D) → List (Pv.D × Pv.D) → Bool
  | [], [] => true
  | (a, c) :: as, (b, d) :: bs => sameD a b && (sameD c d && sameP as bs)
  | _, _ => false
end
mutual
theorem sameD_eq : ∀ a b : Pv.D, sameD a b = true → a = b
  | .none, b, h => by cases b <;> first | rfl | cases h
  | .bool x, b, h => by cases b <;> first | (simp only [sameD, beq_iff_eq] at h; rw [h]) | cases h
  | .int x, b, h => by cases b <;> first | (simp only [sameD, decide_eq_true_eq] at h; rw [h]) | cases h
  | .str x, b, h => by cases b <;> first | (simp only [sameD, decide_eq_true_eq] at h; rw [h]) | cases h
  | .list x, b, h => by cases b <;> first | (simp only [sameD] at h; rw [sameL_eq _ _ h]) | cases h
  | .tuple x, b, h => by cases b <;> first | (simp only [sameD] at h; rw [sameL_eq _ _ h]) | cases h
  | .dict x, b, h => by cases b <;> first | (simp only [sameD] at h; rw [sameP_eq _ _ h]) | cases h
theorem sameL_eq : ∀ a b : List Pv.D, sameL a b = true → a = b
  | [], b, h => by cases b <;> first | rfl | cases h
  | x :: xs, b, h => by
    cases b with
    | nil => cases h
    | cons y ys =>
      simp only [sameL, Bool.and_eq_true] at h
      rw [sameD_eq _ _ h.1, sameL_eq _ _ h.2]
theorem sameP_eq : ∀ a b : List (Pv.D × Pv.D), sameP a b = true → a = b
  | [], b, h => by cases b <;> first | rfl | cases h
  | (x, z) :: xs, b, h => by
    cases b with
    | nil => cases h
    | cons y ys =>
      obtain ⟨y1, y2⟩ := y
      simp only [sameP, Bool.and_eq_true] at h
      rw [sameD_eq _ _ h.1, sameD_eq _ _ h.2.1, sameP_eq _ _ h.2.2]
end
mutual
theorem sameD_refl : ∀ a : Pv.D, sameD a a = true
  | .none => rfl
  | .bool x => by simp [sameD]
  | .int x => by simp [sameD]
  | .str x => by simp [sameD]
  | .list x => by simp only [sameD]; exact sameL_refl x
  | .tuple x => by simp only [sameD]; exact sameL_refl x
  | .dict x => by simp only [sameD]; exact sameP_refl x
theorem sameL_refl : ∀ a : List Pv.D, sameL a a = true
  | [] => rfl
  | x :: xs => by simp only [sameL, sameD_refl x, sameL_refl xs]; rfl
theorem sameP_refl : ∀ a : List (Pv.D × Pv.D), sameP a a = true
  | [] => rfl
  | (x, z) :: xs => by simp only [sameP, sameD_refl x, sameD_refl z, sameP_refl xs]; rfl
end
/-! ### what a for walks -/
structure Src where
  items : List Pv.D
  /-- what must stay true of the store while the walk goes on -/
  keep : Sto → Prop
  [dec : DecidablePred keep]
instance (s : Src) : DecidablePred s.keep := s.dec
abbrev MI := Sl → Sto → R Src
def WalkK (K : PySem.W.Frag) (J : It) (W0 : Wd) (s : Src) : Prop := ∀ W H st, HR K W H st → (∀ b o, W0.F b = some o → W.F b = some o) → (∀ (r : Nat) a, W0.rho[r]? = some a → W.rho[r]? = some a) → s.keep st →
  J.stop s.items.length H ∧ ∀ i d, s.items[i]? = some d → J.go i H ∧ ∀ x H', J.yld i H x H' → ∃ W', Ext W H W' H' ∧ HR K W' H' st ∧ rep K W' x d
def PostI (N : Nv) (n : L2.St) (Wx : WX) (W : Wd) (H : Hp) (Q : It → Hp → Prop) : R Src → Prop
  | .ok s st => ∀ W' H' J, Ext W H W' H' → HR N.K W' H' st → WalkK N.K J W' s → Q J H'
  | .exc x st => ∀ W' cls dd H', Ext W H W' H' → HR N.K W' H' st → repX N W' H' cls dd x → Wx cls dd n H'
  | .bad => False
theorem PostI.ext {Q : It → Hp → Prop} {r : R Src} (e : Ext W H W' H') (h : PostI N sh Wx W H Q r) : PostI N sh Wx W' H' Q r := by
  cases r with
  | ok sl st => exact fun W2 H2 J e2 a b => h W2 H2 J (e.trans e2) a b
  | exc x st => exact fun W2 c dd H2 e2 a b => h W2 c dd H2 (e.trans e2) a b
  | bad => exact h
def rdI (N : Nv) (Wx : WX) (m : MI) : TI := fun sh H R => ∃ W sl st, HR N.K W H st ∧ SR N.K W sh sl ∧ PostI N sh Wx W H R (m sl st)
def GI (X : Cx) (Wx : WX) (tg e : Expr) (m : MI) : Prop := PI X tg e (rdI (nv X) Wx m)
theorem _root_.L2.PI.imp {tg e : Expr} {t t' : TI} (h : PI X tg e t) (i : ∀ σ H R, t' σ H R → t σ H R) : PI X tg e t' := ⟨fun pins s σ H R I q => h.run pins s σ H R I (i σ H R q)⟩
theorem _root_.L2.PI.or {tg e : Expr} {t t' : TI} (h : PI X tg e t) (h' : PI X tg e t') : PI X tg e (fun σ H R => t σ H R ∨ t' σ H R) := ⟨fun pins s σ H R I q => q.elim (h.run pins s σ H R I) (h'.run pins s σ H R I)⟩
theorem rd_bindI {m : M} {f : Pv.D → Sto → R Src} {Q : It → Hp → Prop} {Q2 : VK} (hr : HR N.K W H st) (hs : SR N.K W sh sl)
    (h : PostI N sh Wx W H Q ((m sl st).bind f))
    (k : ∀ d st1 W1 v H1, m sl st = .ok d st1 → Ext W H W1 H1 → HR N.K W1 H1 st1 → SR N.K W1 sh sl → rep N.K W1 v d → PostI N sh Wx W1 H1 Q (f d st1) → Q2 v H1) : rd N Wx m sh H Q2 := by
  refine ⟨W, sl, st, hr, hs, ?_⟩
  cases e : m sl st with
  | ok d st1 => rw [e] at h; exact fun W1 v H1 e1 h1 r1 => k d st1 W1 v H1 e e1 h1 (hs.ext e1) r1 (PostI.ext e1 h)
  | exc x st1 => rw [e] at h; exact h
  | bad => rw [e] at h; exact h
theorem rdL_bindI {m : Ms} {f : List Pv.D → Sto → R Src} {Q : It → Hp → Prop} {Q2 : List V → Hp → Prop} (hr : HR N.K W H st) (hs : SR N.K W sh sl)
    (h : PostI N sh Wx W H Q ((m sl st).bind f))
    (k : ∀ ds st1 W1 vs H1, m sl st = .ok ds st1 → Ext W H W1 H1 → HR N.K W1 H1 st1 → SR N.K W1 sh sl → repL N.K W1 vs ds → PostI N sh Wx W1 H1 Q (f ds st1) → Q2 vs H1) : rdL N Wx m sh H Q2 := by
  refine ⟨W, sl, st, hr, hs, ?_⟩
  cases e : m sl st with
  | ok d st1 => rw [e] at h; exact fun W1 v H1 e1 h1 r1 => k d st1 W1 v H1 e e1 h1 (hs.ext e1) r1 (PostI.ext e1 h)
  | exc x st1 => rw [e] at h; exact h
  | bad => rw [e] at h; exact h
/-- the signs of a text -/
def signs (z : Str) : List Pv.D := z.cps.toList.map fun c => .str ⟨#[c]⟩
def always : Sto → Prop := fun _ => True
instance : DecidablePred always := fun _ => .isTrue trivial
def holdsLst (r : Nat) (ds : List Pv.D) : Sto → Prop := fun st => st[r]? = some (.lst ds)
def keptB (r : Nat) (ds : List Pv.D) (st : Sto) : Bool := match st[r]? with | some (.lst es) => sameL es ds | _ => false
theorem kept_iff (r : Nat) (ds : List Pv.D) (st : Sto) : keptB r ds st = true ↔ holdsLst r ds st := by
  unfold keptB holdsLst
  constructor
  · intro h
    split at h
    · rename_i es e; rw [e, sameL_eq es ds h]
    · cases h
  · intro h; rw [h]; exact sameL_refl ds
instance (r : Nat) (ds : List Pv.D) : DecidablePred (holdsLst r ds) := fun st => decidable_of_iff _ (kept_iff r ds st)
/-- the items that a for meets: a list's, a tuple's, a text's signs; a list that may change is not walked while it does -/
def srcOf (d : Pv.D) (st : Sto) : R Src :=
  match d with
  | .list ds => .ok ⟨ds, always⟩ st
  | .tuple ds => .ok ⟨ds, always⟩ st
  | .dict [(.none, .tuple ds)] => .ok ⟨ds, always⟩ st
  | .dict [(.none, .list ds)] => .ok ⟨ds, always⟩ st
  | .str z => .ok ⟨signs z, always⟩ st
  | .dict [(.int r, .none)] => (match st[r.toNat]? with | some (.lst ds) => .ok ⟨ds, holdsLst r.toNat ds⟩ st | _ => .bad)
  | _ => .bad
def mIter (m : M) : MI := fun sl st => (m sl st).bind srcOf
theorem walk_list {a : Addr} {xs : List V} {ds : List Pv.D} {K : PySem.W.Frag} (hf : SqL K W.F a xs) (l : repL K W xs ds) : WalkK K (Itl K a) W ⟨ds, always⟩ := by
  intro W1 H1 st1 h1 f r _
  have hq : SqL K H1 a xs := sqL_mono h1.sub (sqL_mono f hf)
  have l1 : repL K W1 xs ds := repL_mono f r ds l
  refine ⟨⟨xs, hq, by rw [repL_length l]; exact Nat.le_refl _⟩, fun i d hd => ?_⟩
  obtain ⟨v, hv, rv⟩ := repL_get i l1 hd
  refine ⟨⟨xs, v, hq, hv⟩, fun x H' y => ?_⟩
  obtain ⟨e, y⟩ := y
  subst e
  have := y xs hq
  rw [hv] at this
  cases this
  exact ⟨W1, .refl, h1, rv⟩
theorem walk_ref {a : Addr} {r0 : Nat} {ds : List Pv.D} {K : PySem.W.Frag} (hf : W.rho[r0]? = some a) : WalkK K (Itl K a) W ⟨ds, holdsLst r0 ds⟩ := by
  intro W1 H1 st1 h1 f r k
  obtain ⟨m, hm, _, ho⟩ := h1.at (r r0 a hf)
  have k' : st1[r0]? = some (.lst ds) := k
  rw [k'] at hm
  cases hm
  obtain ⟨xs, g1, l1⟩ := ho
  have hq : SqL K H1 a xs := .inl (.inl g1)
  refine ⟨⟨xs, hq, by rw [repL_length l1]; exact Nat.le_refl _⟩, fun i d hd => ?_⟩
  obtain ⟨v, hv, rv⟩ := repL_get i l1 hd
  refine ⟨⟨xs, v, hq, hv⟩, fun x H' y => ?_⟩
  obtain ⟨e, y⟩ := y
  subst e
  have := y xs hq
  rw [hv] at this
  cases this
  exact ⟨W1, .refl, h1, rv⟩
theorem walk_tup {a : Addr} {xs : List V} {ds : List Pv.D} {K : PySem.W.Frag} (hf : ∀ W1 H1 st1, HR K W1 H1 st1 → (∀ b o, W.F b = some o → W1.F b = some o) → SqT K H1 a xs) (l : repL K W xs ds) : WalkK K (Itt K a) W ⟨ds, always⟩ := by
  intro W1 H1 st1 h1 f r _
  have hq : SqT K H1 a xs := hf W1 H1 st1 h1 f
  have l1 : repL K W1 xs ds := repL_mono f r ds l
  refine ⟨⟨xs, hq, by rw [repL_length l]; exact Nat.le_refl _⟩, fun i d hd => ?_⟩
  obtain ⟨v, hv, rv⟩ := repL_get i l1 hd
  refine ⟨⟨xs, v, hq, hv⟩, fun x H' y => ?_⟩
  obtain ⟨e, y⟩ := y
  subst e
  have := y xs hq
  rw [hv] at this
  cases this
  exact ⟨W1, .refl, h1, rv⟩
theorem walk_str {z : Str} {K : PySem.W.Frag} : WalkK K (Its z) W ⟨signs z, always⟩ := by
  intro W1 H1 st1 h1 f r _
  have hl : (signs z).length = z.cps.size := by unfold signs; simp
  refine ⟨by show z.cps.size ≤ (signs z).length; rw [hl]; exact Nat.le_refl _, fun i d hd => ?_⟩
  have hi : i < z.cps.size := by rw [← hl]; exact (List.getElem?_eq_some_iff.mp hd).1
  refine ⟨hi, fun x H' y => ?_⟩
  obtain ⟨e, c, hc, ex⟩ := y
  subst e; subst ex
  have : signs z = z.cps.toList.map fun c => PyData.str ⟨#[c]⟩ := rfl
  rw [this, List.getElem?_map] at hd
  have hc' : z.cps.toList[i]? = some c := by simpa using hc
  rw [hc'] at hd
  cases hd
  exact ⟨W1, .refl, h1, rfl⟩
theorem gi_iter {tg ea : Expr} {ma : M} (ha : GE X Wx ea ma) : GI X Wx tg ea (mIter ma) := by
  refine PI.imp (PI.or (PI.or (pi_list ha) (pi_tup ha)) (pi_str ha)) fun sh H R ⟨W, sl, st, hr, hs, p⟩ => ?_
  cases e1 : ma sl st with
  | bad => unfold mIter at p; rw [e1] at p; exact p.elim
  | exc x s2 =>
    refine .inl (.inl (rd_bindI hr hs p fun d1 st1 W1 v1 H1 e2 => ?_))
    rw [e1] at e2; cases e2
  | ok d st1 =>
    cases d with
    | list ds =>
      refine .inl (.inl (rd_bindI hr hs p fun d1 st1' W1 v1 H1 e2 x1 h1 s1 r1 p1 => ?_))
      rw [e1] at e2; cases e2
      obtain ⟨a, xs, q1, q2, l⟩ := r1
      exact ⟨a, q1, ⟨xs, .inl (.inl (h1.sub _ _ q2))⟩, p1 W1 H1 _ .refl h1 (walk_list (.inl (.inl q2)) l)⟩
    | tuple ds =>
      refine .inl (.inr (rd_bindI hr hs p fun d1 st1' W1 v1 H1 e2 x1 h1 s1 r1 p1 => ?_))
      rw [e1] at e2; cases e2
      obtain ⟨a, xs, q1, q2, l⟩ := r1
      exact ⟨a, q1, ⟨xs, .inl (.inl (h1.sub _ _ q2))⟩, p1 W1 H1 _ .refl h1 (walk_tup (fun W2 H2 st2 h2 f => .inl (.inl (h2.sub _ _ (f _ _ q2)))) l)⟩
    | str z =>
      refine .inr (rd_bindI hr hs p fun d1 st1' W1 v1 H1 e2 x1 h1 s1 r1 p1 => ?_)
      rw [e1] at e2; cases e2
      cases r1
      exact ⟨z, rfl, p1 W1 H1 _ .refl h1 walk_str⟩
    | dict kvs =>
      by_cases hk : ∃ ds', kvs = [(.none, .tuple ds')]
      · obtain ⟨ds0, hk⟩ := hk
        subst hk
        refine .inl (.inr (rd_bindI hr hs p fun d1 st1' W1 v1 H1 e2 x1 h1 s1 r1 p1 => ?_))
        rw [e1] at e2; cases e2
        obtain ⟨a, xs, f2, f3, f4⟩ := r1
        exact ⟨a, f2, ⟨xs, f3.T h1.sub⟩, p1 W1 H1 _ .refl h1 (walk_tup (fun W2 H2 st2 h2 f => f3.T fun b o e => h2.sub _ _ (f b o e)) f4)⟩
      · refine .inl (.inl (rd_bindI hr hs p fun d1 st1' W1 v1 H1 e2 x1 h1 s1 r1 p1 => ?_))
        rw [e1] at e2; cases e2
        rcases rep_dict r1 with ⟨r, a, f1, f2, f3⟩ | ⟨ds', a, xs, f1, f2, f3, f4⟩ | ⟨ds', a, xs, f1, f2, f3, f4⟩ | ⟨ae, ade, ce, nse, fse, he⟩
        rotate_left
        · exact absurd ⟨_, f1⟩ hk
        · subst f1
          exact ⟨a, f2, ⟨xs, sqL_mono h1.sub f3⟩, p1 W1 H1 _ .refl h1 (walk_list f3 f4)⟩
        · subst he; exact p1.elim
        subst f1
        unfold srcOf at p1
        simp only [Int.toNat_natCast] at p1
        obtain ⟨m, hm, _, ho⟩ := h1.at f3
        rw [hm] at p1
        cases m with
        | lst ds =>
          obtain ⟨xs, g1, g2⟩ := ho
          exact ⟨a, f2, ⟨xs, .inl (.inl g1)⟩, p1 W1 H1 _ .refl h1 (walk_ref f3)⟩
        | ro _ => exact p1.elim
        | dct _ => exact p1.elim
        | dctT _ => exact p1.elim
        | tb _ _ => exact p1.elim
    | none => unfold mIter at p; rw [e1] at p; exact p.elim
    | bool _ => unfold mIter at p; rw [e1] at p; exact p.elim
    | int _ => unfold mIter at p; rw [e1] at p; exact p.elim

/-- range(n), range(a, b) -/
def rngD (lo : Int) (n : Nat) : List Pv.D := (List.range n).map fun (k : Nat) => PyData.int (lo + (k : Int))
theorem rngD_length (lo : Int) (n : Nat) : (rngD lo n).length = n := by unfold rngD; simp
theorem walk_range {K : PySem.W.Frag} {lo : Int} {n : Nat} : WalkK K (Itr lo n) W ⟨rngD lo n, always⟩ := by
  intro W1 H1 st1 h1 f r _
  refine ⟨by show n ≤ (rngD lo n).length; rw [rngD_length]; exact Nat.le_refl _, fun i d hd => ?_⟩
  have hi : i < n := by rw [← rngD_length lo n]; exact (List.getElem?_eq_some_iff.mp hd).1
  refine ⟨hi, fun x H' y => ?_⟩
  obtain ⟨e, ex⟩ := y
  subst e; subst ex
  have hx : (rngD lo n)[i]? = some (.int (lo + i)) := by unfold rngD; rw [List.getElem?_map, List.getElem?_range hi]; rfl
  rw [hx] at hd
  cases hd
  exact ⟨W1, .refl, h1, rfl⟩
def inR62 (j : Int) : Bool := decide (-(2 ^ 62) ≤ j ∧ j < 2 ^ 62)
def fRng1 (d : Pv.D) (st : Sto) : R Src := match d with | .int j => if inR62 j = true then .ok ⟨rngD 0 j.toNat, always⟩ st else .bad | _ => .bad
def fRng2 (c d : Pv.D) (st : Sto) : R Src := match c with
  | .int i => (match d with | .int j => if inR62 i = true ∧ inR62 j = true then .ok ⟨rngD i (j - i).toNat, always⟩ st else .bad | _ => .bad)
  | _ => .bad
def mRng1 (a : M) : MI := fun sl st => (a sl st).bind fRng1
def mRng2 (a b : M) : MI := fun sl st => (a sl st).bind fun x st => (b sl st).bind fun y st => fRng2 x y st
theorem gi_range1 {tg ea : Expr} {ma : M} {p pos : Pos} (hm : X.mg "range" = none) (ha : GE X Wx ea ma) (hg : Gl X "range" := by rfl) (hs : starEach [ea] X.env = [(false, eval ea X.env)] := by rfl)
    (hs1 : starEach (ea :: []) X.env = (false, eval ea X.env) :: starEach [] X.env := by rfl) : GI X Wx tg (.Call (.Name "range" p) [ea] [] pos) (mRng1 ma) := by
  refine PI.imp (pi_range1 hg hm (pa_cons ha pa_nil hs1) hs) fun sh H R ⟨W, sl, st, hr, hs, p⟩ => ?_
  refine rd_bindI hr hs p fun d1 st1 W1 v1 H1 e1 x1 h1 s1 r1 p1 => ?_
  cases d1 with
  | int j =>
    cases r1
    unfold fRng1 at p1
    simp only at p1
    split at p1
    · rename_i hj
      obtain ⟨j1, j2⟩ := of_decide_eq_true hj
      exact ⟨j, rfl, j1, j2, p1 W1 H1 _ .refl h1 walk_range⟩
    · exact p1.elim
  | _ => exact p1.elim
theorem gi_range2 {tg ea eb : Expr} {ma mb : M} {p pos : Pos} (hm : X.mg "range" = none) (ha : GE X Wx ea ma) (hb : GE X Wx eb mb) (hg : Gl X "range" := by rfl) (hs : starEach [ea, eb] X.env = [(false, eval ea X.env), (false, eval eb X.env)] := by rfl) (hs2 : starEach [eb] X.env = [(false, eval eb X.env)] := by rfl)
    (hs1 : starEach (ea :: [eb]) X.env = (false, eval ea X.env) :: starEach [eb] X.env := by rfl) (hs0 : starEach (eb :: []) X.env = (false, eval eb X.env) :: starEach [] X.env := by rfl) : GI X Wx tg (.Call (.Name "range" p) [ea, eb] [] pos) (mRng2 ma mb) := by
  refine PI.imp (pi_range2 hg hm (pa_cons ha (pa_cons hb pa_nil hs0) hs1) hs hs2) fun sh H R ⟨W, sl, st, hr, hs, p⟩ => ?_
  refine rd_bindI hr hs p fun d1 st1 W1 v1 H1 e1 x1 h1 s1 r1 p1 => ?_
  refine rd_bindI h1 s1 p1 fun d2 st2 W2 v2 H2 e2 x2 h2 s2 r2 p2 => ?_
  cases d1 with
  | int i =>
    cases d2 with
    | int j =>
      cases r1; cases r2
      unfold fRng2 at p2
      simp only at p2
      split at p2
      · rename_i hj
        obtain ⟨j1, j2⟩ := of_decide_eq_true hj.1
        obtain ⟨j3, j4⟩ := of_decide_eq_true hj.2
        exact ⟨i, j, rfl, ⟨j1, j2, j3, j4⟩, p2 W2 H2 _ .refl h2 walk_range⟩
      · exact p2.elim
    | _ => exact p2.elim
  | _ => exact p2.elim

/-! ### for -/
/-- slots forgotten -/
def wipeD (sl : Sl) : List Nat → Sl
  | [] => sl
  | v :: vs => (wipeD sl vs).set v none
theorem wipeD_length (sl : Sl) : ∀ vs : List Nat, (wipeD sl vs).length = sl.length
  | [] => rfl
  | v :: vs => by unfold wipeD; rw [List.length_set, wipeD_length sl vs]
theorem wipeD_some {sl : Sl} {i : Nat} {x : Pv.D} : ∀ {vs : List Nat}, (wipeD sl vs)[i]? = some (some x) → sl[i]? = some (some x) ∧ i ∉ vs
  | [], h => ⟨h, by simp⟩
  | v :: vs, h => by
    unfold wipeD at h
    by_cases hi : v = i
    · subst hi
      by_cases hv : v < (wipeD sl vs).length
      · rw [List.getElem?_set_self hv] at h; cases h
      · rw [List.getElem?_eq_none (by simpa using hv)] at h; cases h
    · rw [List.getElem?_set_ne hi] at h
      obtain ⟨a, b⟩ := wipeD_some h
      exact ⟨a, by simp [b, Ne.symm hi]⟩
theorem SR.wipe {K : PySem.W.Frag} {vs : List Nat} (s : SR K W sh sl) : SR K W sh (wipeD sl vs) := s.weak (wipeD_length _ _) fun i d e => (wipeD_some e).1
/-- the turns over some items: tg stores the item, body goes on; fg: slots that no later turn reads -/
def forL (keep : Sto → Prop) [DecidablePred keep] (tg : MG) (body : MS) (fg : List Nat) : List Pv.D → Sl → Sto → RS
  | [], sl, st => if keep st then .nx sl st else .bad
  | d :: ds, sl, st => if keep st then (match (tg d sl st).thenS body with
    | .nx sl st => forL keep tg body fg ds (wipeD sl fg) st
    | .ct sl st => forL keep tg body fg ds (wipeD sl fg) st
    | .bk sl st => .nx (wipeD sl fg) st
    | r => r) else .bad
def sFor (fg : List Nat) (mi : MI) (tg : MG) (body : MS) : MS := fun sl st => (mi sl st).thenS fun s st => forL s.keep tg body fg s.items (wipeD sl fg) st
theorem for_read {mi : MI} {tg : MG} {body : MS} {fg : List Nat} (hr : HR N.K W H st) (hs : SR N.K W sh sl) (p : PostS N sh.length Wx W H D (sFor fg mi tg body sl st)) : tFor (rdI N Wx mi) (rdG N Wx tg) (rdS N Wx body) D sh H := by
  refine ⟨W, sl, st, hr, hs, ?_⟩
  unfold sFor at p
  cases e : mi sl st with
  | bad => rw [e] at p; exact p
  | exc x s2 => rw [e] at p; exact fun W1 c dd H1 e1 a b => p W1 sh c dd H1 rfl e1 a b
  | ok s st1 =>
    rw [e] at p
    intro W1 H1 J x1 h1 wk
    have p1 := PostS.ext x1 p
    simp only [R.thenS_ok] at p1
    refine ⟨fun i m sh' H' => sh'.length = sh.length ∧ i ≤ s.items.length ∧ m = s.items.length - i ∧ ∃ W' sl' st', (∀ b o, W1.F b = some o → W'.F b = some o) ∧ (∀ (r : Nat) a, W1.rho[r]? = some a → W'.rho[r]? = some a) ∧ HR N.K W' H' st' ∧ SR N.K W' sh' sl' ∧
      PostS N sh.length Wx W' H' D (forL s.keep tg body fg (s.items.drop i) sl' st'), ⟨s.items.length, rfl, Nat.zero_le _, by simp, W1, _, st1, fun _ _ z => z, fun _ _ z => z, h1, (hs.ext x1).wipe, by simpa using p1⟩, ?_⟩
    rintro i m sh2 H2 ⟨hl2, hi, hm, W2, sl2, st2, f2, r2, h2, s2, p2⟩
    by_cases hk : s.keep st2
    · obtain ⟨stp, go⟩ := wk W2 H2 st2 h2 f2 r2 hk
      by_cases hlt : i < s.items.length
      · obtain ⟨gi, yi⟩ := go i _ (List.getElem?_eq_getElem hlt)
        refine .inr ⟨gi, fun sh3 H3 => sh3.length = sh.length ∧ ∃ W' sl' st', (∀ b o, W1.F b = some o → W'.F b = some o) ∧ (∀ (r : Nat) a, W1.rho[r]? = some a → W'.rho[r]? = some a) ∧ HR N.K W' H3 st' ∧ SR N.K W' sh3 sl' ∧
          PostS N sh.length Wx W' H3 D (forL s.keep tg body fg (s.items.drop (i + 1)) sl' st'), fun sh3 H3 ⟨a, b⟩ => ⟨s.items.length - (i + 1), by omega, a, hlt, rfl, b⟩, fun x H3 y => ?_⟩
        obtain ⟨W3, x3, h3, rx⟩ := yi x H3 y
        rw [List.drop_eq_getElem_cons hlt] at p2
        unfold forL at p2
        rw [if_pos hk] at p2
        have p3 := PostS.ext x3 p2
        have f3 : ∀ b o, W1.F b = some o → W3.F b = some o := fun b o z => x3.fr b o (f2 b o z)
        have r3 : ∀ (r : Nat) a, W1.rho[r]? = some a → W3.rho[r]? = some a := fun r a z => x3.at r a (r2 r a z)
        refine ⟨W3, sl2, st2, s.items[i], h3, s2.ext x3, rx, ?_⟩
        cases q : tg s.items[i] sl2 st2 with
        | bad => rw [q] at p3; exact p3
        | exc a b => rw [q] at p3; rw [hl2]; exact p3
        | ok sl4 st4 =>
          rw [q] at p3
          simp only [R.thenS_ok] at p3
          intro W4 sh4 H4 l4 x4 h4 s4
          have p4 := PostS.ext x4 p3
          have f4 : ∀ b o, W1.F b = some o → W4.F b = some o := fun b o z => x4.fr b o (f3 b o z)
          have r4 : ∀ (r : Nat) a, W1.rho[r]? = some a → W4.rho[r]? = some a := fun r a z => x4.at r a (r3 r a z)
          refine ⟨W4, sl4, st4, h4, s4, ?_⟩
          have ll : sh4.length = sh.length := l4.trans hl2
          have step : ∀ sl5 st5, PostS N sh.length Wx W4 H4 D (forL s.keep tg body fg (s.items.drop (i + 1)) (wipeD sl5 fg) st5) → ∀ W5 sh5 H5, sh5.length = sh4.length → Ext W4 H4 W5 H5 → HR N.K W5 H5 st5 → SR N.K W5 sh5 sl5 →
              sh5.length = sh.length ∧ ∃ W' sl' st', (∀ b o, W1.F b = some o → W'.F b = some o) ∧ (∀ (r : Nat) a, W1.rho[r]? = some a → W'.rho[r]? = some a) ∧ HR N.K W' H5 st' ∧ SR N.K W' sh5 sl' ∧
                PostS N sh.length Wx W' H5 D (forL s.keep tg body fg (s.items.drop (i + 1)) sl' st') := fun sl5 st5 pp W5 sh5 H5 l5 x5 h5 s5 =>
            ⟨l5.trans ll, W5, _, st5, fun b o z => x5.fr b o (f4 b o z), fun r a z => x5.at r a (r4 r a z), h5, s5.wipe, PostS.ext x5 pp⟩
          cases qb : body sl4 st4 with
          | nx sl5 st5 => rw [qb] at p4; exact step sl5 st5 p4
          | ct sl5 st5 => rw [qb] at p4; exact step sl5 st5 p4
          | bk sl5 st5 =>
            rw [qb] at p4
            intro W5 sh5 H5 l5 x5 h5 s5
            exact p4 W5 sh5 H5 (l5.trans ll) x5 h5 s5.wipe
          | rt d st5 => rw [qb] at p4; exact p4
          | exc a b => rw [qb] at p4; rw [ll]; exact p4
          | bad => rw [qb] at p4; exact p4
      · have e : i = s.items.length := by omega
        subst e
        rw [List.drop_length] at p2
        unfold forL at p2
        rw [if_pos hk] at p2
        exact .inl ⟨stp, p2 W2 sh2 H2 hl2 .refl h2 s2⟩
    · exfalso
      cases q : s.items.drop i with
      | nil => rw [q] at p2; unfold forL at p2; rw [if_neg hk] at p2; exact p2
      | cons d ds => rw [q] at p2; unfold forL at p2; rw [if_neg hk] at p2; exact p2
theorem gs_for {tg iter : Expr} {body : List Stmt} {mi : MI} {mt : MG} {mb : MS} {pos : Pos} (fg : List Nat) (g : Gd X) (hp : PassesOwn (model X.prog X.w) X.A X.env X.xe) (hi : GI X Wx tg iter mi) (hg : GG X Wx tg mt) (hb : GSs X Wx body mb)
    (hs : ∀ x, foldedSetIterable iter X.env x = pure x := by intro _; rfl) : GS X Wx (.For tg iter body [] pos) (sFor fg mi mt mb) :=
  PS.imp (ps_for hp g.calm hi hg hb hs) fun D sh H ⟨W, sl, st, hr, hs, p⟩ => for_read hr hs p
end
end Pv
set_option Elab.async false
set_option linter.all false
set_option maxRecDepth 100000
set_option maxHeartbeats 4000000
namespace Pv
open PySem PySem.Spec L2
open PyProof.Rows hiding St

/-! ### a comprehension's target -/
inductive CT where
  | nm (i : Nat) | tp (is : List Nat)
def setAll (sl : Sl) : List Nat → List Pv.D → Option Sl
  | [], [] => some sl
  | i :: is, d :: ds => setAll (sl.set i (some d)) is ds
  | _, _ => none
def ctSet (t : CT) (d : Pv.D) (sl : Sl) : Option Sl :=
  match t with
  | .nm i => some (sl.set i (some d))
  | .tp is => (match d with | .tuple ds => setAll sl is ds | _ => none)
def gNames : List Nat → TGs
  | [] => gNil
  | i :: is => gCons (gName i) (gNames is)
def gct (K : PySem.W.Frag) : CT → TG
  | .nm i => gName i
  | .tp is => gTup K is.length (gNames is)
def ctIn (t : CT) (vs : List Nat) : Bool := match t with | .nm i => vs.contains i | .tp is => is.all vs.contains
theorem wipe_comm (σ : L2.St) (i : Nat) : ∀ vs : List Nat, wipe (σ.set i none) vs = (wipe σ vs).set i none
  | [] => rfl
  | v :: vs => by
    unfold wipe
    rw [wipe_comm σ i vs]
    by_cases h : v = i
    · subst h; rfl
    · exact List.set_comm _ _ (Ne.symm h)
theorem wipe_set {σ : L2.St} {x : Option V} {i : Nat} : ∀ {vs : List Nat}, i ∈ vs → wipe (σ.set i x) vs = wipe σ vs
  | [], h => by cases h
  | v :: vs, h => by
    unfold wipe
    by_cases hv : v = i
    · subst hv
      by_cases hm : v ∈ vs
      · rw [wipe_set hm]
      · have key : ∀ (vs : List Nat), v ∉ vs → wipe (σ.set v x) vs = (wipe σ vs).set v x := by
          intro vs
          induction vs with
          | nil => intro _; rfl
          | cons u us ih =>
            intro hu
            unfold wipe
            rw [ih (fun z => hu (List.mem_cons_of_mem _ z))]
            exact List.set_comm _ _ (fun z => hu (by rw [z]; exact List.mem_cons_self))
        rw [key vs hm, List.set_set]
    · rw [wipe_set (by rcases List.mem_cons.mp h with q | q; exact absurd q.symm hv; exact q)]
theorem wipe_wipe {σ : L2.St} (vs : List Nat) : ∀ us : List Nat, (∀ u ∈ us, u ∈ vs) → wipe (wipe σ us) vs = wipe σ vs
  | [], _ => rfl
  | u :: us, h => by
    show wipe ((wipe σ us).set u none) vs = wipe σ vs
    rw [wipe_set (h u List.mem_cons_self)]
    exact wipe_wipe vs us fun w hw => h w (List.mem_cons_of_mem _ hw)
section
variable {X : Cx} {Wx : WX} {N : Nv} {W W' : Wd} {H H' : Hp} {st : Sto} {sl : Sl} {sh : L2.St} {n : Nat} {D D' : Ends}
theorem gNames_run {vs : List Nat} : ∀ {is : List Nat} {ds : List Pv.D} {xs : List V} {sl sl2 : Sl} {sh sh0 : L2.St}, (∀ i ∈ is, i ∈ vs) → SR N.K W sh sl → repL N.K W xs ds → setAll sl is ds = some sl2 → wipe sh vs = wipe sh0 vs →
    ∀ (Q : L2.St → Hp → Prop), (∀ sh2, SR N.K W sh2 sl2 → sh2.length = sh.length → wipe sh2 vs = wipe sh0 vs → Q sh2 H) → gNames is xs sh H Q
  | [], [], _, sl, sl2, sh, sh0, _, s, l, e, w, Q, q => by cases l; cases e; exact ⟨rfl, q sh s rfl w⟩
  | i :: is, d :: ds, _, sl, sl2, sh, sh0, hi, s, ⟨v, us, e1, r, l⟩, e, w, Q, q => by
    subst e1
    refine ⟨v, us, rfl, ?_⟩
    refine gNames_run (sh0 := sh0) (fun j hj => hi j (List.mem_cons_of_mem _ hj)) (s.set i r) l e ?_ Q fun sh2 s2 l2 w2 => q sh2 s2 (by rw [l2]; simp) w2
    rw [wipe_set (hi i List.mem_cons_self)]; exact w
  | [], _ :: _, _, _, _, _, _, _, _, _, e, _, _, _ => by cases e
  | _ :: _, [], _, _, _, _, _, _, _, _, e, _, _, _ => by cases e
theorem ct_run {t : CT} {d : Pv.D} {v : V} {sl2 : Sl} {vs : List Nat} (hin : ctIn t vs = true) (hr : HR N.K W H st) (s : SR N.K W sh sl) (r : rep N.K W v d) (e : ctSet t d sl = some sl2) (Q : L2.St → Hp → Prop)
    (q : ∀ sh2, SR N.K W sh2 sl2 → sh2.length = sh.length → wipe sh2 vs = wipe sh vs → Q sh2 H) : gct N.K t v sh H Q := by
  cases t with
  | nm i =>
    cases e
    have hi : i ∈ vs := by simpa [ctIn] using hin
    exact q _ (s.set i r) (by simp) (wipe_set hi)
  | tp is =>
    unfold ctSet at e
    simp only at e
    split at e
    · rename_i ds
      obtain ⟨a, xs, e1, f, l⟩ := r
      have hall : ∀ i ∈ is, i ∈ vs := by
        intro i hi
        have := List.all_eq_true.mp (show is.all vs.contains = true from hin) i hi
        simpa using this
      have hlen : xs.length = is.length := by
        rw [repL_length l]
        have key : ∀ (is : List Nat) (ds : List Pv.D) (sl sl2 : Sl), setAll sl is ds = some sl2 → ds.length = is.length := by
          intro is
          induction is with
          | nil => intro ds sl sl2 e; cases ds with | nil => rfl | cons _ _ => cases e
          | cons i is ih => intro ds sl sl2 e; cases ds with | nil => cases e | cons d ds => simp [ih ds _ _ e]
        exact key is ds sl sl2 e
      exact ⟨a, xs, e1, .inl (.inl (hr.sub _ _ f)), hlen, gNames_run hall s l e rfl Q q⟩
    · cases e
theorem gct_name {x : Str} {pos : Pos} (i : Nat) (g : Gd X) (hi : X.N[i]? = some x := by rfl) (hx : Loc X.env.scope x := by first | exact Or.inl rfl | exact Or.inr rfl) (hf : X.fn x = true ∨ X.env.scope.names.lookup x = some .local := by first | exact .inl rfl | exact .inr rfl) : PG X (.Name x pos) (gct X.K (.nm i)) :=
  pg_name g.nd hi hx hf
theorem gcts_nil : PGs X [] (gNames []) := pgs_nil
theorem gcts_cons {x : Str} {pos : Pos} {es : List Expr} {is : List Nat} (i : Nat) (g : Gd X) (hr : PGs X es (gNames is)) (hi : X.N[i]? = some x := by rfl) (hx : Loc X.env.scope x := by first | exact Or.inl rfl | exact Or.inr rfl) (hf : X.fn x = true ∨ X.env.scope.names.lookup x = some .local := by first | exact .inl rfl | exact .inr rfl)
    (h : (assignEach (.Name x pos :: es) X.env).map (·.2) = assign (.Name x pos) X.env :: (assignEach es X.env).map (·.2) := by rfl) : PGs X (.Name x pos :: es) (gNames (i :: is)) :=
  pgs_cons (pg_name g.nd hi hx hf) hr h
theorem gct_tup {es : List Expr} {k : Nat} {is : List Nat} {pos : Pos} (g : Gd X) (h : PGs X es (gNames is)) (hn : (assignEach es X.env).length = is.length := by rfl) (hst : (assignEach es X.env).findIdx? (·.1) = none := by rfl) : PG X (.Tuple es k pos) (gct X.K (.tp is)) :=
  pg_tup g.calm h hn hst

/-! ### list comprehensions -/
/-- the items that are made -/
def lcL (keep : Sto → Prop) [DecidablePred keep] (t : CT) (tt : MT) (te : M) (sl : Sl) : List Pv.D → Sto → R (List Pv.D)
  | [], st => if keep st then .ok [] st else .bad
  | d :: ds, st => if keep st then (match ctSet t d sl with
    | none => .bad
    | some sl2 => match tt sl2 st with
      | .ok true st => (match te sl2 st with
        | .ok y st => (match lcL keep t tt te sl ds st with | .ok ys st => .ok (y :: ys) st | _ => .bad)
        | _ => .bad)
      | .ok false st => lcL keep t tt te sl ds st
      | _ => .bad) else .bad
def tYesM : MT := fun _ st => .ok true st
def lcR (mi : MI) (t : CT) (tt : MT) (te : M) (vs : List Nat) : Ms := fun sl st => (mi sl st).bind fun s st => (lcL s.keep t tt te (wipeD sl vs) s.items st).bind fun ys st => if ys.length ≤ sizeLine then .ok ys st else .bad
def mLc (mi : MI) (t : CT) (tt : MT) (te : M) (vs : List Nat) : M := fun sl st => (lcR mi t tt te vs sl st).bind fun ys st => .ok (.list ys) st
def mLcM (mi : MI) (t : CT) (tt : MT) (te : M) (vs : List Nat) : M := fun sl st => (lcR mi t tt te vs sl st).bind fun ys st => .ok (Rf st.length) (st ++ [.lst ys])
theorem SR.wipes {K : PySem.W.Frag} (vs : List Nat) (s : SR K W sh sl) : SR K W (L2.wipe sh vs) (wipeD sl vs) := by
  refine ⟨by rw [wipe_length, wipeD_length]; exact s.len, fun i d h => ?_⟩
  obtain ⟨h1, h2⟩ := wipeD_some h
  obtain ⟨v, hv, r⟩ := s.at_ i d h1
  refine ⟨v, ?_, r⟩
  have key : ∀ vs : List Nat, i ∉ vs → (L2.wipe sh vs)[i]? = sh[i]? := by
    intro vs
    induction vs with
    | nil => intro _; rfl
    | cons u us ih =>
      intro hu
      unfold L2.wipe
      rw [List.getElem?_set_ne (fun z => hu (by rw [z]; exact List.mem_cons_self))]
      exact ih fun z => hu (List.mem_cons_of_mem _ z)
  rw [key vs h2]; exact hv
/-- beside the store stands an object that is written from outside -/
structure Bes (W1 : Wd) (H1 : Hp) (Dd : Addr) (W2 : Wd) (H2 : Hp) : Prop where
  e : Ext W1 H1 W2 H2
  n : Dd ∉ W2.rho
  f : W2.F Dd = none
theorem Bes.step {W1 W2 W3 : Wd} {H1 H2 H3 : Hp} {Dd : Addr} {o : HO} (b : Bes W1 H1 Dd W2 H2) (x : Ext W2 H2 W3 H3) (h : H2 Dd = some o) (hpl : plainO o = true) : Bes W1 H1 Dd W3 H3 ∧ H3 Dd = some o := by
  refine ⟨⟨b.e.trans x, ?_, ?_⟩, x.out _ _ h b.n (plainO_tbl hpl)⟩
  · obtain ⟨r, hr, hm⟩ := x.rh
    rw [hr]
    intro z
    rcases List.mem_append.mp z with z | z
    · exact b.n z
    · obtain ⟨ps, y⟩ := hm _ z _ h; exact plainO_tbl hpl ps y
  · cases q : W3.F Dd with
    | none => rfl
    | some u =>
      rcases x.nf _ _ q with z | z
      · rw [b.f] at z; cases z
      · obtain ⟨ps, y⟩ := z _ h; exact (plainO_tbl hpl ps y).elim
theorem Bes.write {W1 W2 : Wd} {H1 H2 : Hp} {Dd : Addr} {u : HO} {K : PySem.W.Frag} (b : Bes W1 H1 Dd W2 H2) (h : HR K W2 H2 st) (hD : H1 Dd = none) (ht : LamX.Tabs (tbs st) (upd H2 Dd u)) : Bes W1 H1 Dd W2 (upd H2 Dd u) ∧ HR K W2 (upd H2 Dd u) st := by
  refine ⟨⟨⟨b.e.fr, b.e.rh, fun c o e hc ht => ?_, fun c e => ?_, b.e.nf⟩, b.n, b.f⟩, ⟨h.len, h.nd, fun c o e => ?_, fun r c m e1 e2 => ?_, ht, h.nt⟩⟩
  · have hb : c ≠ Dd := fun w => by subst w; rw [hD] at e; cases e
    rw [upd_ne hb]; exact b.e.out c o e hc ht
  · by_cases hb : c = Dd
    · subst hb; exact .of hD
    · exact b.e.non c fun o z => e o (by rw [upd_ne hb]; exact z)
  · have hb : c ≠ Dd := fun w => by subst w; rw [b.f] at e; cases e
    rw [upd_ne hb]; exact h.sub _ _ e
  · have hb : c ≠ Dd := fun w => b.n (by rw [← w]; exact List.mem_of_getElem? e1)
    obtain ⟨p, q⟩ := h.obj r c m e1 e2
    exact ⟨p, repO_mono (W := W2) (fun _ _ z => z) (fun _ _ z => z) (fun u z => by rw [upd_ne hb]; exact z) q⟩
theorem lc_loop {J : It} {s : Src} {t : CT} {tt : MT} {te : M} {vs : List Nat} {Q : VK} {W1 : Wd} {H1 : Hp} {st1 st2 : Sto} {ys : List Pv.D} (hin : ctIn t vs = true) (h1 : HR N.K W1 H1 st1) (s1 : SR N.K W1 sh sl) (wk : WalkK N.K J W1 s)
    (e : lcL s.keep t tt te (wipeD sl vs) s.items st1 = .ok ys st2) (hz : ys.length ≤ sizeLine) {Dd : Addr} (hD : H1 Dd = none)
    (fin : ∀ W2 H2 xs, Bes W1 H1 Dd W2 H2 → HR N.K W2 H2 st2 → H2 Dd = some (.lst xs) → repL N.K W2 xs ys → Q (.ref Dd) H2) :
    ∃ Wv : Nat → Nat → Hp → Prop, (∃ m, Wv 0 m (upd H1 Dd (.lst []))) ∧ ∀ i m H, Wv i m H →
      (J.stop i H ∧ Q (.ref Dd) H) ∨ (J.go i H ∧ ∃ Nx : Hp → Prop, (∀ H', Nx H' → ∃ m', m' < m ∧ Wv (i + 1) m' H') ∧ ∀ x H', J.yld i H x H' → gct N.K t x (wipe sh vs) H' fun σ2 H2 => wipe σ2 vs = wipe sh vs ∧ rdT N (fun _ _ _ _ => False) tt σ2 H2 fun b H3 =>
        if b = true then rd N (fun _ _ _ _ => False) te σ2 H3 fun y H4 => ∃ acc, H4 Dd = some (.lst acc) ∧ acc.length < sizeLine ∧ Nx (upd H4 Dd (.lst (acc ++ [y]))) else Nx H3) := by
  let P : Nat → Hp → Prop := fun i H => ∃ (W2 : Wd) (st : Sto) (xs : List V) (ds zs : List Pv.D), Bes W1 H1 Dd W2 H ∧ HR N.K W2 H st ∧ H Dd = some (.lst xs) ∧ repL N.K W2 xs ds ∧ lcL s.keep t tt te (wipeD sl vs) (s.items.drop i) st = .ok zs st2 ∧ ds ++ zs = ys
  have hDr : Dd ∉ W1.rho := h1.free hD
  have b0 : Bes W1 H1 Dd W1 H1 := ⟨.refl, hDr, h1.freeF hD⟩
  obtain ⟨b1, h1'⟩ := b0.write (u := .lst []) h1 hD (tabs_new h1.tab hD)
  refine ⟨fun i m H => i ≤ s.items.length ∧ m = s.items.length - i ∧ P i H, ⟨_, Nat.zero_le _, rfl, ⟨W1, st1, [], [], ys, b1, h1', upd_same, rfl, by simpa using e, rfl⟩⟩, ?_⟩
  rintro i m H ⟨hi, hm, W2, st, xs, ds, zs, b2, h2, hx, l, el, ed⟩
  have hk : s.keep st := by
    cases q : s.items.drop i with
    | nil => rw [q] at el; unfold lcL at el; by_cases z : s.keep st; exact z; rw [if_neg z] at el; cases el
    | cons d r => rw [q] at el; unfold lcL at el; by_cases z : s.keep st; exact z; rw [if_neg z] at el; cases el
  obtain ⟨stp, go⟩ := wk W2 H st h2 b2.e.fr b2.e.at hk
  by_cases hlt : i < s.items.length
  · obtain ⟨gi, yi⟩ := go i _ (List.getElem?_eq_getElem hlt)
    refine .inr ⟨gi, P (i + 1), fun H' p' => ⟨s.items.length - (i + 1), by omega, hlt, rfl, p'⟩, fun x H3 y => ?_⟩
    obtain ⟨W3, x3, h3, rx⟩ := yi x H3 y
    obtain ⟨b3, hx3⟩ := b2.step x3 hx rfl
    rw [List.drop_eq_getElem_cons hlt] at el
    unfold lcL at el
    rw [if_pos hk] at el
    cases e1 : ctSet t s.items[i] (wipeD sl vs) with
    | none => rw [e1] at el; cases el
    | some sl2 =>
      rw [e1] at el
      simp only at el
      have s3 : SR N.K W3 (wipe sh vs) (wipeD sl vs) := SR.wipes vs ⟨s1.len, fun j d q => let ⟨v, a, b⟩ := s1.at_ j d q; ⟨v, a, rep_mono b3.e.fr b3.e.at d b⟩⟩
      refine ct_run hin h3 s3 rx e1 _ fun sh2 s4 l4 w4 => ?_
      rw [wipe_wipe vs vs fun _ z => z] at w4
      refine ⟨w4, W3, sl2, st, h3, s4, ?_⟩
      cases e2 : tt sl2 st with
      | bad => rw [e2] at el; cases el
      | exc _ _ => rw [e2] at el; cases el
      | ok b st3 =>
        rw [e2] at el
        intro W4 H4 x4 h4
        obtain ⟨b4, hx4⟩ := b3.step x4 hx3 rfl
        cases b with
        | false =>
          simp only [Bool.false_eq_true, if_false]
          exact ⟨W4, st3, xs, ds, zs, b4, h4, hx4, x4.repL (x3.repL l), el, ed⟩
        | true =>
          simp only [if_true]
          refine ⟨W4, sl2, st3, h4, s4.ext x4, ?_⟩
          simp only at el
          cases e3 : te sl2 st3 with
          | bad => rw [e3] at el; cases el
          | exc _ _ => rw [e3] at el; cases el
          | ok yd st4 =>
            rw [e3] at el
            simp only at el
            intro W5 v5 H5 x5 h5 r5
            obtain ⟨b5, hx5⟩ := b4.step x5 hx4 rfl
            split at el
            · rename_i zs' st5 e4
              cases el
              have l5 : repL N.K W5 xs ds := x5.repL (x4.repL (x3.repL l))
              have hlen : xs.length < sizeLine := by
                rw [repL_length l5]
                have := congrArg List.length ed
                simp only [List.length_append, List.length_cons] at this
                omega
              obtain ⟨b6, h6⟩ := b5.write (u := .lst (xs ++ [v5])) h5 hD (tabs_set h5.tab hx5 rfl)
              exact ⟨xs, hx5, hlen, W5, st4, xs ++ [v5], ds ++ [yd], zs', b6, h6, upd_same, repL_append l5 (repL_one r5), e4, by rw [← ed]; simp⟩
            · cases el
  · have ei : i = s.items.length := by omega
    subst ei
    rw [List.drop_length] at el
    unfold lcL at el
    rw [if_pos hk] at el
    cases el
    rw [List.append_nil] at ed
    subst ed
    exact .inl ⟨stp, fin W2 H xs b2 h2 hx l⟩
theorem lc_read {mi : MI} {t : CT} {tt : MT} {te : M} {vs : List Nat} {Q : VK} {f : List Pv.D → Sto → R Pv.D} (hin : ctIn t vs = true) (hr : HR N.K W H st) (hs : SR N.K W sh sl)
    (p : Post N W H Q (fun cls dd H' => Wx cls dd sh H') ((lcR mi t tt te vs sl st).bind f))
    (k : ∀ ys st2 W1 H1 Dd xs, Ext W H W1 H1 → HR N.K W1 H1 st2 → H1 Dd = some (.lst xs) → Nn H Dd → Dd ∉ W1.rho → W1.F Dd = none → repL N.K W1 xs ys → Post N W H Q (fun cls dd H' => Wx cls dd sh H') (f ys st2) → Q (.ref Dd) H1) :
    tLc (fun sh H R => rdI N Wx mi sh H R) (gct N.K t) (rdT N (fun _ _ _ _ => False) tt) (rd N (fun _ _ _ _ => False) te) vs sh H Q := by
  refine ⟨W, sl, st, hr, hs, ?_⟩
  unfold lcR at p
  cases e : mi sl st with
  | bad => rw [e] at p; exact p
  | exc x s2 => rw [e] at p; exact p
  | ok s st1 =>
    rw [e] at p
    simp only [R.bind_ok] at p
    intro W1 H1 J x1 h1 wk Dd hD
    cases e2 : lcL s.keep t tt te (wipeD sl vs) s.items st1 with
    | bad => rw [e2] at p; exact p.elim
    | exc _ _ =>
      exfalso
      have key : ∀ (ds : List Pv.D) (st : Sto) (x : XV) (s2 : Sto), lcL s.keep t tt te (wipeD sl vs) ds st ≠ .exc x s2 := by
        intro ds
        induction ds with
        | nil => intro st x s2; unfold lcL; split <;> simp
        | cons d ds ih =>
          intro st x s2
          unfold lcL
          split
          · split
            · simp
            · split
              · split
                · split <;> simp
                · simp
              · exact ih _ _ _
              · simp
          · simp
      exact key _ _ _ _ e2
    | ok ys st2 =>
      rw [e2] at p
      simp only [R.bind_ok] at p
      split at p
      · rename_i hz
        simp only [R.bind_ok] at p
        refine lc_loop hin h1 (hs.ext x1) wk e2 hz hD fun W2 H2 xs b h2 hx l => ?_
        exact k ys st2 W2 H2 Dd xs (x1.trans b.e) h2 hx (x1.non _ (.of hD)) b.n b.f l p
      · exact p.elim

theorem Gd.blk (g : Gd X) {s : Shared} {H : Hp} {scope : Scope} {env : Env} {fp : List Addr} : Gd (X.blk s H scope env fp) := ⟨g.calm, g.nd, g.un, g.gu⟩
/-- nothing is raised inside a block -/
abbrev WF : WX := fun _ _ _ _ => False
/-- a block's context -/
abbrev Bk (X : Cx) (scope : Scope) (s : Shared) (H : Hp) (C : Addr) (cl : List (Str × Addr)) (fp : List Addr) : Cx := X.blk s H scope (compEnvC scope cl C X.env) fp
def GTs (X : Cx) (Wx : WX) (ifs : List Expr) (m : MT) : Prop := PTs X ifs (rdT (nv X) Wx m)
theorem gts_nil : GTs X Wx [] tYesM := ⟨fun pins s σ H Q I ⟨W, sl, st, hr, hs, p⟩ => pts_nil.run pins s σ H Q I (p W H .refl hr)⟩
theorem gts_one {c : Expr} {t : MT} (h : GT X Wx c t) : GTs X Wx [c] t := pts_one h
section
variable {elt kx tg iter : Expr} {ifs : List Expr} {scope : Scope} {own : List (Str × Nat)} {pos : Pos} {mi : MI} {t : CT} {tt : MT} {te tk : M}
theorem ge_lc (own : List (Str × Nat)) (t : CT) (g : Gd X) (hi : GI X Wx tg iter mi) (ok : BlkOk X.N X.env.scope scope own)
    (hg : ∀ s H C cl fp, Gd (Bk X scope s H C cl fp) → PG (Bk X scope s H C cl fp) tg (gct X.K t)) (ht : ∀ s H C cl fp, Gd (Bk X scope s H C cl fp) → GTs (Bk X scope s H C cl fp) WF ifs tt)
    (he : ∀ s H C cl fp, Gd (Bk X scope s H C cl fp) → GE (Bk X scope s H C cl fp) WF elt te) (hin : ctIn t (own.map (·.2)) = true := by rfl) (hs : ∀ x, foldedSetIterable iter X.env x = pure x := by intro _; rfl) :
    GE X Wx (.ListComp elt [⟨tg, iter, ifs, 0⟩] scope pos) (mLc mi t tt te (own.map (·.2))) := by
  refine PE.imp (pe_lc (tt := rdT (nv X) WF tt) (te := rd (nv X) WF te) g.calm g.nd hi ok (fun s H C cl fp => hg s H C cl fp g.blk) (fun s H C cl fp => ht s H C cl fp g.blk) (fun s H C cl fp => he s H C cl fp g.blk) hs) fun sh H Q ⟨W, sl, st, hr, hs, p⟩ => ?_
  refine lc_read hin hr hs p fun ys st2 W1 H1 Dd xs x1 h1 hD hn0 hn hF l p1 => ?_
  have h2 := HR.keepF h1 hD hn hF
  have x2 : Ext W H ⟨upd W1.F Dd (.lst xs), W1.rho⟩ H1 := by
    refine ⟨fun b o e => ?_, x1.rh, x1.out, x1.non, fun b o e => ?_⟩
    · show upd W1.F Dd (.lst xs) b = some o
      by_cases hb : b = Dd
      · subst hb; rw [x1.fr _ _ e] at hF; cases hF
      · rw [upd_ne hb]; exact x1.fr _ _ e
    · have e' : upd W1.F Dd (.lst xs) b = some o := e
      by_cases hb : b = Dd
      · subst hb; exact .inr hn0
      · rw [upd_ne hb] at e'; exact x1.nf _ _ e'
  refine p1 _ (.ref Dd) H1 x2 h2 ⟨Dd, xs, rfl, upd_same, repL_mono (W := W1) (W' := ⟨upd W1.F Dd (.lst xs), W1.rho⟩) (fun b o e => ?_) (fun _ _ z => z) ys l⟩
  show upd W1.F Dd (.lst xs) b = some o
  by_cases hb : b = Dd
  · subst hb; rw [hF] at e; cases e
  · rw [upd_ne hb]; exact e
/-- the list is an object of the store -/
theorem lcM_fin {ys : List Pv.D} {st2 : Sto} {W1 : Wd} {H1 : Hp} {Dd : Addr} {xs : List V} (x1 : Ext W H W1 H1) (h1 : HR N.K W1 H1 st2) (hD : H1 Dd = some (.lst xs)) (hn0 : Nn H Dd) (hn : Dd ∉ W1.rho) (hF : W1.F Dd = none) (l : repL N.K W1 xs ys) :
    HR N.K ⟨W1.F, W1.rho ++ [Dd]⟩ H1 (st2 ++ [.lst ys]) ∧ Ext W H ⟨W1.F, W1.rho ++ [Dd]⟩ H1 ∧ rep N.K ⟨W1.F, W1.rho ++ [Dd]⟩ (.ref Dd) (Rf st2.length) := by
  have l2 : repL N.K ⟨W1.F, W1.rho ++ [Dd]⟩ xs ys := repL_mono (W := W1) (W' := ⟨W1.F, W1.rho ++ [Dd]⟩) (fun _ _ z => z) (fun r b z => by
    show (W1.rho ++ [Dd])[r]? = some b
    rw [List.getElem?_append_left (List.getElem?_eq_some_iff.mp z).1]; exact z) ys l
  refine ⟨HR.keepM h1 hn hF ⟨xs, hD, l2⟩, ⟨x1.fr, ?_, x1.out, x1.non, x1.nf⟩, ⟨st2.length, Dd, rfl, rfl, ?_⟩⟩
  · obtain ⟨r, e, hm⟩ := x1.rh
    refine ⟨r ++ [Dd], by show W1.rho ++ [Dd] = _; rw [e, List.append_assoc], fun a ha => ?_⟩
    rcases List.mem_append.mp ha with z | z
    · exact hm a z
    · have : a = Dd := by simpa using z
      rw [this]; exact hn0
  · show (W1.rho ++ [Dd])[st2.length]? = some Dd
    rw [← h1.len]; simp
theorem ge_lcM (own : List (Str × Nat)) (t : CT) (g : Gd X) (hi : GI X Wx tg iter mi) (ok : BlkOk X.N X.env.scope scope own)
    (hg : ∀ s H C cl fp, Gd (Bk X scope s H C cl fp) → PG (Bk X scope s H C cl fp) tg (gct X.K t)) (ht : ∀ s H C cl fp, Gd (Bk X scope s H C cl fp) → GTs (Bk X scope s H C cl fp) WF ifs tt)
    (he : ∀ s H C cl fp, Gd (Bk X scope s H C cl fp) → GE (Bk X scope s H C cl fp) WF elt te) (hin : ctIn t (own.map (·.2)) = true := by rfl) (hs : ∀ x, foldedSetIterable iter X.env x = pure x := by intro _; rfl) :
    GE X Wx (.ListComp elt [⟨tg, iter, ifs, 0⟩] scope pos) (mLcM mi t tt te (own.map (·.2))) := by
  refine PE.imp (pe_lc (tt := rdT (nv X) WF tt) (te := rd (nv X) WF te) g.calm g.nd hi ok (fun s H C cl fp => hg s H C cl fp g.blk) (fun s H C cl fp => ht s H C cl fp g.blk) (fun s H C cl fp => he s H C cl fp g.blk) hs) fun sh H Q ⟨W, sl, st, hr, hs, p⟩ => ?_
  refine lc_read hin hr hs p fun ys st2 W1 H1 Dd xs x1 h1 hD hn0 hn hF l p1 => ?_
  obtain ⟨a, b, c⟩ := lcM_fin x1 h1 hD hn0 hn hF l
  exact p1 _ (.ref Dd) H1 b a c

theorem post_asg {m : M} {i : Nat} {D : Ends} (hs : SR N.K W sh sl) (p : PostS N sh.length Wx W H D (sAsg m (tgName i) sl st)) : Post N W H (fun v H1 => D.nx (sh.set i (some v)) H1) (fun cls dd H' => Wx cls dd sh H') (m sl st) := by
  unfold sAsg at p
  cases e : m sl st with
  | bad => rw [e] at p; exact p
  | exc x s2 => rw [e] at p; exact fun W1 c dd H1 x1 a b => p W1 sh c dd H1 rfl x1 a b
  | ok d st1 =>
    rw [e] at p
    exact fun W1 v H1 x1 h1 r1 => p W1 _ H1 (by simp) x1 h1 ((hs.ext x1).set i r1)
/-- name = [..] on one line, the name a local -/
theorem gs_setLc {i : Nat} {y : Str} {py spos : Pos} (own : List (Str × Nat)) (t : CT) (g : Gd X) (hy : X.N[i]? = some y) (hyl : X.env.scope.names.lookup y = some .local)
    (hsw : swapsWith (.ListComp elt [⟨tg, iter, ifs, 0⟩] scope pos) (some (.Name y py)) spos.line X.env = pure true) (hi : GI X Wx tg iter mi) (ok : BlkOk X.N X.env.scope scope own)
    (hg : ∀ s H C cl fp, Gd (Bk X scope s H C cl fp) → PG (Bk X scope s H C cl fp) tg (gct X.K t)) (ht : ∀ s H C cl fp, Gd (Bk X scope s H C cl fp) → GTs (Bk X scope s H C cl fp) WF ifs tt)
    (he : ∀ s H C cl fp, Gd (Bk X scope s H C cl fp) → GE (Bk X scope s H C cl fp) WF elt te) (hin : ctIn t (own.map (·.2)) = true := by rfl) (hs : ∀ x, foldedSetIterable iter X.env x = pure x := by intro _; rfl) :
    GS X Wx (.Assign [.Name y py] (.ListComp elt [⟨tg, iter, ifs, 0⟩] scope pos) spos) (sAsg (mLc mi t tt te (own.map (·.2))) (tgName i)) := by
  refine PS.imp (ps_setLc (tt := rdT (nv X) WF tt) (te := rd (nv X) WF te) g.calm g.nd hy hyl hsw hi ok (fun s H C cl fp => hg s H C cl fp g.blk) (fun s H C cl fp => ht s H C cl fp g.blk) (fun s H C cl fp => he s H C cl fp g.blk) hs) fun D sh H ⟨W, sl, st, hr, hs, p⟩ => ?_
  refine lc_read (Q := fun v H1 => gName i v sh H1 D.nx) hin hr hs (post_asg hs p) fun ys st2 W1 H1 Dd xs x1 h1 hD hn0 hn hF l p1 => ?_
  have h2 := HR.keepF h1 hD hn hF
  have x2 : Ext W H ⟨upd W1.F Dd (.lst xs), W1.rho⟩ H1 := by
    refine ⟨fun b o e => ?_, x1.rh, x1.out, x1.non, fun b o e => ?_⟩
    · show upd W1.F Dd (.lst xs) b = some o
      by_cases hb : b = Dd
      · subst hb; rw [x1.fr _ _ e] at hF; cases hF
      · rw [upd_ne hb]; exact x1.fr _ _ e
    · have e' : upd W1.F Dd (.lst xs) b = some o := e
      by_cases hb : b = Dd
      · subst hb; exact .inr hn0
      · rw [upd_ne hb] at e'; exact x1.nf _ _ e'
  refine p1 _ (.ref Dd) H1 x2 h2 ⟨Dd, xs, rfl, upd_same, repL_mono (W := W1) (W' := ⟨upd W1.F Dd (.lst xs), W1.rho⟩) (fun b o e => ?_) (fun _ _ z => z) ys l⟩
  show upd W1.F Dd (.lst xs) b = some o
  by_cases hb : b = Dd
  · subst hb; rw [hF] at e; cases e
  · rw [upd_ne hb]; exact e
theorem gs_setLcM {i : Nat} {y : Str} {py spos : Pos} (own : List (Str × Nat)) (t : CT) (g : Gd X) (hy : X.N[i]? = some y) (hyl : X.env.scope.names.lookup y = some .local)
    (hsw : swapsWith (.ListComp elt [⟨tg, iter, ifs, 0⟩] scope pos) (some (.Name y py)) spos.line X.env = pure true) (hi : GI X Wx tg iter mi) (ok : BlkOk X.N X.env.scope scope own)
    (hg : ∀ s H C cl fp, Gd (Bk X scope s H C cl fp) → PG (Bk X scope s H C cl fp) tg (gct X.K t)) (ht : ∀ s H C cl fp, Gd (Bk X scope s H C cl fp) → GTs (Bk X scope s H C cl fp) WF ifs tt)
    (he : ∀ s H C cl fp, Gd (Bk X scope s H C cl fp) → GE (Bk X scope s H C cl fp) WF elt te) (hin : ctIn t (own.map (·.2)) = true := by rfl) (hs : ∀ x, foldedSetIterable iter X.env x = pure x := by intro _; rfl) :
    GS X Wx (.Assign [.Name y py] (.ListComp elt [⟨tg, iter, ifs, 0⟩] scope pos) spos) (sAsg (mLcM mi t tt te (own.map (·.2))) (tgName i)) := by
  refine PS.imp (ps_setLc (tt := rdT (nv X) WF tt) (te := rd (nv X) WF te) g.calm g.nd hy hyl hsw hi ok (fun s H C cl fp => hg s H C cl fp g.blk) (fun s H C cl fp => ht s H C cl fp g.blk) (fun s H C cl fp => he s H C cl fp g.blk) hs) fun D sh H ⟨W, sl, st, hr, hs, p⟩ => ?_
  refine lc_read (Q := fun v H1 => gName i v sh H1 D.nx) hin hr hs (post_asg hs p) fun ys st2 W1 H1 Dd xs x1 h1 hD hn0 hn hF l p1 => ?_
  obtain ⟨a, b, c⟩ := lcM_fin x1 h1 hD hn0 hn hF l
  exact p1 _ (.ref Dd) H1 b a c
end
end
end Pv
set_option Elab.async false
set_option linter.all false
set_option maxRecDepth 100000
set_option maxHeartbeats 4000000
namespace Pv
open PySem PySem.Spec L2
open PyProof.Rows hiding St

/-! ### at a def's end: the objects that it made become data -/
mutual
def fz (g : Nat → Option Pv.D) : Pv.D → Option Pv.D
  | .list ds => (fzL g ds).map .list
  | .tuple ds => (fzL g ds).map .tuple
  | .dict [(.int i, .none)] => g i.toNat
  | .dict [(.none, .tuple ds)] => (fzL g ds).map Gc
  | .dict [(.none, .list ds)] => (fzL g ds).map Gs
  | .dict _ => none
  | .none => some .none
  | .bool b => some (.bool b)
  | .int i => some (.int i)
  | .str x => some (.str x)
def fzL (g : Nat → Option Pv.D) : List Pv.D → Option (List Pv.D)
  | [] => some []
  | d :: ds => (fz g d).bind fun e => (fzL g ds).map (e :: ·)
end
def lookF : Nat → Nat → Sto → Nat → Option Pv.D
  | k, n, st, r => if r < n then some (Rf r) else match k with
    | 0 => none
    | k + 1 => match st[r]? with
      | some (.lst ds) => (fzL (lookF k n st) ds).map .list
      | _ => none
def fzP {κ : Type} (g : Nat → Option Pv.D) : List (κ × Pv.D) → Option (List (κ × Pv.D))
  | [] => some []
  | p :: ps => (fz g p.2).bind fun e => (fzP g ps).map ((p.1, e) :: ·)
def fzO (g : Nat → Option Pv.D) : MO → Option MO
  | .lst ds => (fzL g ds).map .lst
  | .ro ds => (fzL g ds).map .ro
  | .dct kvs => (fzP g kvs).map .dct
  | .dctT kvs => (fzP g kvs).map .dctT
  | .tb P q => some (.tb P q)
def fzS (g : Nat → Option Pv.D) : Sto → Option Sto
  | [] => some []
  | m :: ms => (fzO g m).bind fun e => (fzS g ms).map (e :: ·)
def finR (n : Nat) (r : R Pv.D) : R Pv.D :=
  match r with
  | .ok d st => if st.length = n then .ok d st else (match fz (lookF 6 n st) d, fzS (lookF 6 n st) (st.take n) with | some d', some st' => .ok d' st' | _, _ => .bad)
  | .exc x st => if st.length = n then .exc x st else (match fzP (lookF 6 n st) x.2, fzS (lookF 6 n st) (st.take n) with | some fs, some st' => .exc (x.1, fs) st' | _, _ => .bad)
  | .bad => .bad
section
variable {K : PySem.W.Frag} {W W' W1 W2 : Wd} {H H1 : Hp} {st st1 : Sto} {g : Nat → Option Pv.D}
mutual
theorem fz_rep (hg : ∀ r a e, W1.rho[r]? = some a → g r = some e → rep K W2 (.ref a) e) (hF : ∀ b o, W1.F b = some o → W2.F b = some o) : ∀ (d : Pv.D) (v : V) (e : Pv.D), rep K W1 v d → fz g d = some e → rep K W2 v e
  | .none, _, _, h, q => by cases q; exact h
  | .bool _, _, _, h, q => by cases q; exact h
  | .int _, _, _, h, q => by cases q; exact h
  | .str _, _, _, h, q => by cases q; exact h
  | .list ds, _, _, ⟨a, xs, e1, e2, l⟩, q => by
    obtain ⟨es, q1, q2⟩ := Option.map_eq_some_iff.mp q
    subst q2
    exact ⟨a, xs, e1, hF _ _ e2, fzL_rep hg hF ds xs es l q1⟩
  | .tuple ds, _, _, ⟨a, xs, e1, e2, l⟩, q => by
    obtain ⟨es, q1, q2⟩ := Option.map_eq_some_iff.mp q
    subst q2
    exact ⟨a, xs, e1, hF _ _ e2, fzL_rep hg hF ds xs es l q1⟩
  | .dict [(.int i, .none)], _, _, ⟨r, a, e1, e2, e3⟩, q => by
    subst e1; subst e2
    exact hg r a _ e3 q
  | .dict [(.none, .tuple ds)], _, _, ⟨a, xs, e1, e2, l⟩, q => by
    obtain ⟨es, q1, q2⟩ := Option.map_eq_some_iff.mp q
    subst q2
    exact ⟨a, xs, e1, e2.mono hF, fzL_rep hg hF ds xs es l q1⟩
  | .dict [(.none, .list ds)], _, _, ⟨a, xs, e1, e2, l⟩, q => by
    obtain ⟨es, q1, q2⟩ := Option.map_eq_some_iff.mp q
    subst q2
    exact ⟨a, xs, e1, sqL_mono hF e2, fzL_rep hg hF ds xs es l q1⟩
theorem fzL_rep (hg : ∀ r a e, W1.rho[r]? = some a → g r = some e → rep K W2 (.ref a) e) (hF : ∀ b o, W1.F b = some o → W2.F b = some o) : ∀ (ds : List Pv.D) (vs : List V) (es : List Pv.D), repL K W1 vs ds → fzL g ds = some es → repL K W2 vs es
  | [], _, _, h, q => by cases q; exact h
  | d :: ds, _, _, ⟨v, us, e1, r, l⟩, q => by
    obtain ⟨e, q1, q2⟩ := Option.bind_eq_some_iff.mp q
    obtain ⟨es, q3, q4⟩ := Option.map_eq_some_iff.mp q2
    subst q4
    exact ⟨v, us, e1, fz_rep hg hF d v e r q1, fzL_rep hg hF ds us es l q3⟩
end
theorem fzP_rep {κ : Type} (hg : ∀ r a e, W1.rho[r]? = some a → g r = some e → rep K W2 (.ref a) e) (hF : ∀ b o, W1.F b = some o → W2.F b = some o) {ks : List (κ × V)} {kvs es : List (κ × Pv.D)} (h : repP K W1 ks kvs) (q : fzP g kvs = some es) : repP K W2 ks es := by
  induction h generalizing es with
  | nil => cases q; exact .nil
  | cons h _ ih =>
    obtain ⟨e, q1, q2⟩ := Option.bind_eq_some_iff.mp q
    obtain ⟨es', q3, q4⟩ := Option.map_eq_some_iff.mp q2
    subst q4
    exact .cons ⟨h.1, fz_rep hg hF _ _ _ h.2 q1⟩ (ih q3)
theorem fzO_rep (hg : ∀ r a e, W1.rho[r]? = some a → g r = some e → rep K W2 (.ref a) e) (hF : ∀ b o, W1.F b = some o → W2.F b = some o) {a : Addr} {m m' : MO} (h : repO K W1 H a m) (q : fzO g m = some m') : repO K W2 H a m' := by
  cases m with
  | lst ds => obtain ⟨es, q1, q2⟩ := Option.map_eq_some_iff.mp q; subst q2; obtain ⟨xs, h1, h2⟩ := h; exact ⟨xs, h1, fzL_rep hg hF _ _ _ h2 q1⟩
  | ro ds => obtain ⟨es, q1, q2⟩ := Option.map_eq_some_iff.mp q; subst q2; obtain ⟨o, xs, h1, h2⟩ := h; exact ⟨o, xs, h1, fzL_rep hg hF _ _ _ h2 q1⟩
  | dct ds => obtain ⟨es, q1, q2⟩ := Option.map_eq_some_iff.mp q; subst q2; obtain ⟨xs, h1, h2⟩ := h; exact ⟨xs, h1, fzP_rep hg hF h2 q1⟩
  | dctT ds => obtain ⟨es, q1, q2⟩ := Option.map_eq_some_iff.mp q; subst q2; obtain ⟨xs, h1, h2⟩ := h; exact ⟨xs, h1, fzP_rep hg hF h2 q1⟩
  | tb P q0 => cases q; exact h
theorem fzS_get {ms ms' : Sto} (q : fzS g ms = some ms') : ms'.length = ms.length ∧ ∀ (r : Nat) (m' : MO), ms'[r]? = some m' → ∃ m, ms[r]? = some m ∧ fzO g m = some m' := by
  induction ms generalizing ms' with
  | nil => cases q; exact ⟨rfl, fun r m' h => by simp at h⟩
  | cons m ms ih =>
    obtain ⟨e, q1, q2⟩ := Option.bind_eq_some_iff.mp q
    obtain ⟨es, q3, q4⟩ := Option.map_eq_some_iff.mp q2
    subst q4
    obtain ⟨l, f⟩ := ih q3
    refine ⟨by simp [l], fun r m' h => ?_⟩
    cases r with
    | zero => simp at h; subst h; exact ⟨m, rfl, q1⟩
    | succ r => exact f r m' (by simpa using h)
/-- the world behind a def's end -/
def isLo : Option HO → Bool
  | some (.lst _) => true
  | _ => false
def finW (n : Nat) (H : Hp) (W : Wd) : Wd := ⟨fun b => if b ∈ W.rho.drop n ∧ isLo (H b) = true then H b else W.F b, W.rho.take n⟩
theorem tbs_fz {g : Nat → Option Pv.D} : ∀ {ms ms' : Sto}, fzS g ms = some ms' → tbs ms' = tbs ms
  | [], _, q => by cases q; rfl
  | m :: ms, ms', q => by
    obtain ⟨e, q1, q2⟩ := Option.bind_eq_some_iff.mp q
    obtain ⟨es, q3, q4⟩ := Option.map_eq_some_iff.mp q2
    subst q4
    have ih := tbs_fz q3
    cases m with
    | tb P q0 => cases q1; simp [tbs, ih]
    | lst ds => obtain ⟨x, _, z⟩ := Option.map_eq_some_iff.mp q1; subst z; simp [tbs, ih]
    | ro ds => obtain ⟨x, _, z⟩ := Option.map_eq_some_iff.mp q1; subst z; simp [tbs, ih]
    | dct ds => obtain ⟨x, _, z⟩ := Option.map_eq_some_iff.mp q1; subst z; simp [tbs, ih]
    | dctT ds => obtain ⟨x, _, z⟩ := Option.map_eq_some_iff.mp q1; subst z; simp [tbs, ih]
theorem tbs_take : ∀ (st : Sto) (n : Nat), ∀ p ∈ tbs (st.take n), p ∈ tbs st
  | [], _, p, h => by simp [tbs] at h
  | m :: st, 0, p, h => by simp [tbs] at h
  | m :: st, n + 1, p, h => by
    have h' : p ∈ tbs (m :: st.take n) := h
    cases m with
    | tb P q =>
      rcases List.mem_cons.mp h' with e | e
      · subst e; exact List.mem_cons_self
      · exact List.mem_cons_of_mem _ (tbs_take st n p e)
    | _ => exact tbs_take st n p h'
theorem finW_F (h : HR K W1 H1 st1) {n : Nat} : ∀ b o, W1.F b = some o → (finW n H1 W1).F b = some o := fun b o e => by
  show (if b ∈ W1.rho.drop n ∧ isLo (H1 b) = true then H1 b else W1.F b) = some o
  split
  · exact h.sub _ _ e
  · exact e
theorem lookF_rep (h : HR K W1 H1 st1) {n : Nat} : ∀ (k : Nat) (r : Nat) (a : Addr) (e : Pv.D), W1.rho[r]? = some a → lookF k n st1 r = some e → rep K (finW n H1 W1) (.ref a) e := by
  intro k
  induction k with
  | zero =>
    intro r a e hr q
    unfold lookF at q
    split at q
    · rename_i hlt
      cases q
      exact ⟨r, a, rfl, rfl, by show (W1.rho.take n)[r]? = some a; rw [List.getElem?_take_of_lt hlt]; exact hr⟩
    · cases q
  | succ k ih =>
    intro r a e hr q
    unfold lookF at q
    split at q
    · rename_i hlt
      cases q
      exact ⟨r, a, rfl, rfl, by show (W1.rho.take n)[r]? = some a; rw [List.getElem?_take_of_lt hlt]; exact hr⟩
    · rename_i hlt
      simp only at q
      split at q
      · rename_i ds hd
        obtain ⟨es, q1, q2⟩ := Option.map_eq_some_iff.mp q
        subst q2
        obtain ⟨hF, xs, h1, h2⟩ := h.obj r a _ hr hd
        refine ⟨a, xs, rfl, ?_, fzL_rep ih (finW_F h) ds xs es h2 q1⟩
        show (if a ∈ W1.rho.drop n ∧ isLo (H1 a) = true then H1 a else W1.F a) = _
        rw [if_pos]
        · exact h1
        · refine ⟨?_, by rw [h1]; rfl⟩
          rw [List.mem_iff_getElem?]
          exact ⟨r - n, by rw [List.getElem?_drop]; rw [show n + (r - n) = r by omega]; exact hr⟩
      · cases q
/-- the end: what was made since the beginning is data now -/
theorem fin_hr {st' : Sto} (h : HR K W1 H1 st1) (x : Ext W H W1 H1) (n : Nat) (hn : W.rho.length = n) (k : Nat) (q : fzS (lookF k n st1) (st1.take n) = some st') : HR K (finW n H1 W1) H1 st' ∧ Ext W H (finW n H1 W1) H1 := by
  obtain ⟨l, f⟩ := fzS_get q
  obtain ⟨t, ht, hnew⟩ := x.rh
  have htake : W1.rho.take n = W.rho := by rw [ht, ← hn]; simp
  have hdrop : W1.rho.drop n = t := by rw [ht, ← hn]; simp
  refine ⟨⟨?_, h.nd.sublist (List.take_sublist _ _), fun b o e => ?_, fun r a m e1 e2 => ?_, fun p hp => h.tab p (tbs_take _ _ p (by rw [← tbs_fz q]; exact hp)), fun b ps e => ?_⟩, ⟨fun b o e => finW_F h b o (x.fr b o e), ⟨[], by show W1.rho.take n = _; rw [htake]; simp, fun _ z => by cases z⟩, x.out, x.non, fun b o e => ?_⟩⟩
  · show (W1.rho.take n).length = _
    rw [l, List.length_take, List.length_take, h.len]
  · have e' : (if b ∈ W1.rho.drop n ∧ isLo (H1 b) = true then H1 b else W1.F b) = some o := e
    split at e'
    · exact e'
    · exact h.sub _ _ e'
  · have e1' : (W1.rho.take n)[r]? = some a := e1
    have hlt : r < n := by
      have := (List.getElem?_eq_some_iff.mp e1').1
      rw [List.length_take] at this; omega
    rw [List.getElem?_take_of_lt hlt] at e1'
    obtain ⟨m0, g1, g2⟩ := f r m e2
    rw [List.getElem?_take_of_lt hlt] at g1
    obtain ⟨p, o⟩ := h.obj r a m0 e1' g1
    refine ⟨?_, fzO_rep (lookF_rep h k) (finW_F h) o g2⟩
    show (if a ∈ W1.rho.drop n ∧ isLo (H1 a) = true then H1 a else W1.F a) = none
    rw [if_neg]
    · exact p
    · rintro ⟨hm, _⟩
      obtain ⟨j, hj⟩ := List.mem_iff_getElem?.mp hm
      rw [List.getElem?_drop] at hj
      have := (List.getElem?_inj (List.getElem?_eq_some_iff.mp e1').1 h.nd).mp (e1'.trans hj.symm)
      omega
  · have e' : (if b ∈ W1.rho.drop n ∧ isLo (H1 b) = true then H1 b else W1.F b) = some (.tbl ps) := e
    split at e'
    · rename_i hm; rw [e'] at hm; cases hm.2
    · exact h.nt b ps e'
  · have e' : (if b ∈ W1.rho.drop n ∧ isLo (H1 b) = true then H1 b else W1.F b) = some o := e
    split at e'
    · rename_i hm; have hm := hm.1; rw [hdrop] at hm; exact .inr (hnew b hm)
    · exact x.nf _ _ e'
theorem fin_post {N : Nv} {Q : VK} {E : XK} {r : R Pv.D} (hr : HR N.K W H st) (p : Post N W H Q E (finR st.length r)) : Post N W H Q E r := by
  cases r with
  | bad => exact p
  | ok d st1 =>
    intro W1 v H1 x1 h1 r1
    unfold finR at p
    simp only at p
    split at p
    · exact p W1 v H1 x1 h1 r1
    · split at p
      · rename_i d' st' q1 q2
        obtain ⟨a, b⟩ := fin_hr h1 x1 st.length hr.len 6 q2
        exact p _ v H1 b a (fz_rep (lookF_rep h1 6) (finW_F h1) d v d' r1 q1)
      · exact p.elim
  | exc x st1 =>
    intro W1 c dd H1 x1 h1 r1
    unfold finR at p
    simp only at p
    split at p
    · exact p W1 c dd H1 x1 h1 r1
    · split at p
      · rename_i fs st' q1 q2
        obtain ⟨a, b⟩ := fin_hr h1 x1 st.length hr.len 6 q2
        obtain ⟨C, e1, e2, d, gs, e3, e4, e5⟩ := r1
        exact p _ c dd H1 b a ⟨C, e1, e2, d, gs, e3, finW_F h1 _ _ e4, fzP_rep (lookF_rep h1 6) (finW_F h1) e5 q1⟩
      · exact p.elim
end

/-! ### a def's promise -/
abbrev Fn := List Pv.D → Sto → R Pv.D
def startD (n : Nat) (ds : List Pv.D) : Sl := ds.map some ++ List.replicate (n - ds.length) none
/-- the body run, its objects kept (fnK) or made data (fnP) -/
def endR (r : RS) : R Pv.D :=
  match r with
  | .nx _ st => .ok .none st
  | .rt d st => .ok d st
  | .exc x st => .exc x st
  | .bk _ _ => .bad
  | .ct _ _ => .bad
  | .bad => .bad
def fnK (n : Nat) (body : MS) : Fn := fun ds st => endR (body (startD n ds) st)
def fnP (n : Nat) (body : MS) : Fn := fun ds st => finR st.length (endR (body (startD n ds) st))
def spF (N : Nv) (n : Nat) (F : Fn) : Sp := fun vs H Q E => ∃ W ds st, HR N.K W H st ∧ repL N.K W vs ds ∧ ds.length = n ∧ Post N W H Q E (F ds st)
/-- as FnOk, around callers none of whom is held by a guard -/
structure FnG (P : Program) (w : World) (K : PySem.W.Frag) (mg : Str → Option Value) (base : Heap) (k : Nat) (f : Addr) (fd : FuncData) (ps : List Str) (F : Fn) : Prop where
  run : ∀ (A : Around) (outer : List Env) (s : Shared) (H : Hp) (args : Args) (us : List Value) (vs : List V) (Q : VK) (E : XK), Room k A → A.guards = some [] → Env0 P w K mg base A outer s H → BindsTo s fd args (ps.zip us) → Vals vs us → spF ⟨K, mg⟩ ps.length F vs H Q E →
    codeAny (model P w) A (.call (.ref f) args) (CR (L2.CX P w) outer P w H s Q E) s
theorem FnG.mono {P : Program} {w : World} {K : PySem.W.Frag} {mg : Str → Option Value} {base : Heap} {j k : Nat} {f : Addr} {fd : FuncData} {ps : List Str} {F : Fn} (g : FnG P w K mg base j f fd ps F) (h : j ≤ k) : FnG P w K mg base k f fd ps F :=
  ⟨fun A outer s H args us vs Q E hr => g.run A outer s H args us vs Q E (hr.mono h)⟩
theorem start_rep {K : PySem.W.Frag} {W : Wd} {Ns : List Str} {vs : List V} {ds : List Pv.D} (l : repL K W vs ds) : SR K W (L2.start Ns vs) (startD Ns.length ds) := by
  have e := repL_length l
  refine ⟨by unfold L2.start startD; simp [e], fun i d h => ?_⟩
  unfold startD at h
  unfold L2.start
  by_cases hi : i < ds.length
  · rw [List.getElem?_append_left (by simpa using hi), List.getElem?_map] at h
    rw [List.getElem?_append_left (by simpa [e] using hi), List.getElem?_map]
    cases q : ds[i]? with
    | none => rw [q] at h; cases h
    | some d' =>
      rw [q] at h
      cases h
      obtain ⟨v, a, b⟩ := repL_get i l q
      exact ⟨v, by rw [a]; rfl, b⟩
  · rw [List.getElem?_append_right (by simpa using hi), List.getElem?_replicate] at h
    split at h <;> cases h
theorem gd_of {X : Cx} {k : Nat} (hc : X.calm = true) (nd : X.N.Nodup) (r : Room k X.A) (gu : X.A.guards = some []) : Gd X := ⟨hc, nd, by have := r.un; omega, gu⟩
/-- the body's end, read back -/
theorem end_posts {N : Nv} {W : Wd} {H : Hp} {Q : VK} {E : XK} {n : Nat} {r : RS} (p : Post N W H Q E (endR r)) : PostS N n (fun cls dd _ H' => E cls dd H') W H { nx := fun _ H' => Q .non H', rt := Q } r := by
  cases r with
  | nx sl st => exact fun W1 sh H1 l x h s => p W1 .non H1 x h rfl
  | rt d st => exact fun W1 v H1 x h r => p W1 v H1 x h r
  | exc x st => exact fun W1 sh c dd H1 l e h r => p W1 c dd H1 e h r
  | bk _ _ => exact p.elim
  | ct _ _ => exact p.elim
  | bad => exact p.elim
section
variable {P : Program} {w : World} {K : PySem.W.Frag} {mg : Str → Option Value} {base : Heap}
/-- a body's context -/
abbrev Cb (P : Program) (w : World) (K : PySem.W.Frag) (mg : Str → Option Value) (base : Heap) (Ns : List Str) (qual : Str) (st : Stmt) (f : Addr) (cdv : Value) (A : Around) (outer : List Env) (s : Shared) (H : Hp) (E : XK) : Cx :=
  cxOf (L2.CX P w) P w K mg base Ns qual (defScope st) f cdv A outer s H E
abbrev Ew (E : XK) : WX := fun cls dd _ H' => E cls dd H'
/-- a def whose code object is named -/
def FunCd (K : PySem.W.Frag) (x qual : Str) (st : Stmt) (f : Addr) (fd : FuncData) (cdv : Value) : Prop :=
  ∃ (oc : Value) (od : Option Addr) (kV doc pm : Value) (an : Option Addr) (ct : Value) (osl : Array (Option Value)),
    fd = PySem.W.fnOf x qual (defArgs st) (defBody st) (defScope st) .none kV doc pm an cdv ct ∧ K.lookup f = some ⟨oc, od, .func fd, osl⟩ ∧ PySem.W.codeIn K cdv qual = true
theorem fnG_cd {x qual : Str} {st : Stmt} {f : Addr} {fd : FuncData} {cdv : Value} {Ns ps : List Str} {k : Nat} {m : MS} {F : Fn} (h : FunCd K x qual st f fd cdv) (S : FnScope Ns ps (defScope st))
    (hF : F = fnK Ns.length m ∨ F = fnP Ns.length m)
    (hb : ∀ A outer s H E, Gd (Cb P w K mg base Ns qual st f cdv A outer s H E) → Room k (Cb P w K mg base Ns qual st f cdv A outer s H E).A → Takes (Cb P w K mg base Ns qual st f cdv A outer s H E) (Ew E) →
      PassesOwn (model P w) (Cb P w K mg base Ns qual st f cdv A outer s H E).A (Cb P w K mg base Ns qual st f cdv A outer s H E).env (Cb P w K mg base Ns qual st f cdv A outer s H E).xe →
      GSs (Cb P w K mg base Ns qual st f cdv A outer s H E) (Ew E) (defBody st) m) : FnG P w K mg base (k + 1) f fd ps F := by
  obtain ⟨oc, od, kV, doc, pm, an, ct, osl, rfl, lk, hcd⟩ := h
  constructor
  intro A outer s H args us vs Q E hr hgu e0 hbn rv hsp
  obtain ⟨W, ds, st0, hR, hL, hl, hP⟩ := hsp
  have hlv : vs.length = ps.length := (repL_length hL).trans hl
  have kin := e0.mod.kin.keeps fun b o e => (e0.bs b o e).1
  have nolim := e0.mod.nolimit.keeps fun b o e => (e0.bs b o e).1
  have kinds : ∀ y ∈ ps.zip us, (defScope st).names.lookup y.1 = some .local ∨ ((defScope st).names.lookup y.1 = some .cell ∧ ((cellsFrom (s.heap.objs.size + 1) (defScope st).names []).lookup y.1).isSome = true) := by
    intro y hy
    obtain ⟨nm, u⟩ := y
    cases S.par nm (List.of_mem_zip hy).1 with
    | inl q => exact Or.inl q
    | inr q => exact Or.inr ⟨q, PySem.W.cellsFrom_some _ _ _ (Or.inl q)⟩
  have rest : Room k (A.deeper (envOfC qual (defScope st) s.heap.objs.size f cdv)) := hr.deeper _
  refine codeAny_call_function hr.depth (kin _ _ lk) rfl S.co S.gen rfl (PySem.W.codeRec_of kin hcd) (hbn _ _ _ _ (wpAny_newFunctionEnv_cells S.kind kinds ?_))
  intro env hen s1 xin
  subst hen
  refine ⟨nolim.keeps xin.toInCall.keep, codeAny_func ?_⟩
  have G : Gd (Cb P w K mg base Ns qual st f cdv A outer s H E) := gd_of (k := k) rfl S.nd rest hgu
  have B := hb A outer s H E G rest (takes_of rfl rfl rfl rfl) (passes_of rfl)
  have I := inv_start (CX := L2.CX P w) (w := w) (cd := cdv) (E := E) S hr.hd e0 hlv rv xin
  have hP' : Post ⟨K, mg⟩ W H Q E (endR (m (startD Ns.length ds) st0)) := by
    rcases hF with q | q
    · subst q; exact hP
    · subst q; exact fin_post hR hP
  have J := B.run [] s1 (L2.start Ns vs) H { nx := fun _ H' => Q .non H', rt := Q } I ⟨W, _, st0, hR, start_rep hL, end_posts hP'⟩
  refine wpAny_mono J ?_ fun e s' z => z
  intro fl s' z
  cases fl with
  | ret u => obtain ⟨v, σ', H', I', q1, q2⟩ := z; exact ⟨v, H', I'.os, I'.bare, I'.base, I'.hok, q1, q2⟩
  | next => obtain ⟨σ', H', I', q2⟩ := z; exact ⟨V.non, H', I'.os, I'.bare, I'.base, I'.hok, rfl, q2⟩
  | brk => obtain ⟨_, _, _, z⟩ := z; exact z.elim
  | cont => obtain ⟨_, _, _, z⟩ := z; exact z.elim
theorem fnG_of {x qual : Str} {st : Stmt} {f : Addr} {fd : FuncData} {Ns ps : List Str} {k : Nat} {m : MS} {F : Fn} (h : Fun K x qual st f fd) (S : FnScope Ns ps (defScope st))
    (hF : F = fnK Ns.length m ∨ F = fnP Ns.length m)
    (hb : ∀ cdv A outer s H E, Gd (Cb P w K mg base Ns qual st f cdv A outer s H E) → Room k (Cb P w K mg base Ns qual st f cdv A outer s H E).A → Takes (Cb P w K mg base Ns qual st f cdv A outer s H E) (Ew E) →
      PassesOwn (model P w) (Cb P w K mg base Ns qual st f cdv A outer s H E).A (Cb P w K mg base Ns qual st f cdv A outer s H E).env (Cb P w K mg base Ns qual st f cdv A outer s H E).xe →
      GSs (Cb P w K mg base Ns qual st f cdv A outer s H E) (Ew E) (defBody st) m) : FnG P w K mg base (k + 1) f fd ps F := by
  obtain ⟨oc, od, kV, doc, pm, an, cdv, ct, osl, rfl, lk, hcd⟩ := h.ex
  exact fnG_cd ⟨oc, od, kV, doc, pm, an, ct, osl, rfl, lk, hcd⟩ S hF fun A outer s H E => hb cdv A outer s H E
end

/-! ### calls of own defs -/
def mCall (fn : Fn) (ms : Ms) : M := fun sl st => (ms sl st).bind fn
/-- a def as the text's bodies call it -/
structure Df (P : Program) (w : World) (K : PySem.W.Frag) (mg : Str → Option Value) (base : Heap) (k : Nat) (x : Str) (f : Addr) (fd : FuncData) (ps : List Str) (F : Fn) : Prop where
  fn : FnG P w K mg base k f fd ps F
  mg : mg x = some (.ref f)
  kp : PySem.W.keepIn K (.ref f) = true
  bd : Binds K fd ps []
theorem Df.mono {P : Program} {w : World} {K : PySem.W.Frag} {mg : Str → Option Value} {base : Heap} {j k : Nat} {x : Str} {f : Addr} {fd : FuncData} {ps : List Str} {F : Fn} (d : Df P w K mg base j x f fd ps F) (h : j ≤ k) : Df P w K mg base k x f fd ps F :=
  ⟨d.fn.mono h, d.mg, d.kp, d.bd⟩
section
variable {X : Cx} {Wx : WX} {k j : Nat} {f : Addr} {fd : FuncData} {ps : List Str} {F : Fn} {x : Str} {p pos : Pos} {e : Expr} {es : List Expr} {ms : Ms}
theorem run_G {pins : List (Addr × Obj)} {H : Hp} {s : Shared} {Q : VK} {args : Args} {us : List Value} {vs : List V} {sh : L2.St} (fn : FnG X.prog X.w X.K X.mg X.base k f fd ps F) (hr : Room k X.A) (g : Gd X) (tk : Takes X Wx)
    (I : Inv X pins sh H s) (b : BindsTo s fd args (ps.zip us)) (r : Vals vs us) (h : spF ⟨X.K, X.mg⟩ ps.length F vs H Q (fun cls dd H' => Wx cls dd sh H')) : wpAny (model X.prog X.w) X.A (call (.ref f) args.pos args.kw) (EP X pins sh Q) X.xe s := by
  have c := fn.run X.A X.stack s H args us vs Q _ hr g.gu I.env0 b r h
  refine wpAny_call (codeAny_mono c ?_)
  intro rr s' z
  cases rr with
  | error u => exact passAt tk sh pins H s u s' I z
  | ok fl => cases fl with
    | ret u => exact I.after z
    | next => exact z.elim
    | brk => exact z.elim
    | cont => exact z.elim
theorem ms_read {ms : Ms} {N : Nv} {W : Wd} {H : Hp} {sl : Sl} {st : Sto} {sh : L2.St} {n : Nat} {Q : VK} (hn : ∀ sl st ds st', ms sl st = .ok ds st' → ds.length = n) (hr : HR N.K W H st) (hs : SR N.K W sh sl) (p : Post N W H Q (fun cls dd H' => Wx cls dd sh H') (mCall F ms sl st)) :
    rdL N Wx ms sh H fun vs H1 => spF N n F vs H1 Q fun cls dd H' => Wx cls dd sh H' :=
  rdL_bind hr hs p fun ds st1 W1 vs H1 e1 x1 h1 s1 l1 p1 => ⟨W1, ds, st1, h1, l1, hn _ _ _ _ e1, p1⟩
/-- f(e, ..) -/
theorem ge_call (d : Df X.prog X.w X.K X.mg X.base k x f fd ps F) (hr : Room k X.A) (g : Gd X) (tk : Takes X Wx) (ha : GA X Wx (e :: es) ms) (hn : ∀ sl st ds st', ms sl st = .ok ds st' → ds.length = ps.length) (hg : Gl X x := by rfl) (hdb : (x == ("__debug__" : Str)) = false := by decide +kernel)
    (he : starEach (e :: es) X.env = (false, eval e X.env) :: starEach es X.env := by rfl) (hpl : (backTo pos (starEach es X.env)).any (·.1) = false := by rfl) : GE X Wx (.Call (.Name x p) (e :: es) [] pos) (mCall F ms) := by
  refine ⟨fun pins s sh H Q I ⟨W, sl, st, hr', hs, q⟩ => wpAny_Call_Name_kw (ld_glob I hg d.mg ?_ hdb)⟩
  refine PySem.W.callWith_K (h₀ := X.base) I.ok.mod.kin d.kp (thn (ha.run pos pins s sh H _ I (ms_read hn hr' hs q)) ?_) he hpl
  intro us s1 ⟨vs, H1, I1, r, q1⟩
  obtain ⟨_, ds, _, _, l1, l2, _⟩ := id q1
  have hl : us.length = ps.length := by rw [← r.length, repL_length l1, l2]
  have b := d.bd s1 us I1.kIn (by rw [List.append_nil]; exact hl)
  rw [List.append_nil] at b
  exact ⟨I1.kIn, run_G (args := ⟨us, []⟩) d.fn hr g tk I1 b r q1⟩
/-- f() -/
theorem ge_call0 (d : Df X.prog X.w X.K X.mg X.base k x f fd [] F) (hr : Room k X.A) (g : Gd X) (tk : Takes X Wx) (hg : Gl X x := by rfl) (hdb : (x == ("__debug__" : Str)) = false := by decide +kernel) : GE X Wx (.Call (.Name x p) [] [] pos) (mCall F msNil) := by
  refine ⟨fun pins s sh H Q I ⟨W, sl, st, hr', hs, q⟩ => wpAny_Call_Name_kw (ld_glob I hg d.mg ?_ hdb)⟩
  have b := d.bd s [] I.kIn rfl
  exact PySem.W.callWith_K0 I.kIn d.kp (run_G (args := ⟨[], []⟩) (us := []) (vs := []) d.fn hr g tk I b .nil ⟨W, [], st, hr', rfl, rfl, q⟩)
/-- keywords' values -/
def GK (X : Cx) (Wx : WX) (kws : List Keyword) (ms : Ms) : Prop := PK X kws (rdL (nv X) Wx ms)
theorem gk_nil : GK X Wx [] msNil := ⟨fun pos pins s sh H Q I ⟨W, sl, st, hr, hs, q⟩ => pk_nil.run pos pins s sh H Q I (PostL.now (vs := []) hr q rfl)⟩
theorem gk_cons {nm : Option Str} {kpos : Pos} {kws : List Keyword} {m : M} (ha : GE X Wx e m) (hr : GK X Wx kws ms) : GK X Wx (⟨nm, e, kpos⟩ :: kws) (msCons m ms) := by
  refine ⟨fun pos pins s sh H Q I ⟨W, sl, st, hr', hs, q⟩ => (pk_cons ha hr).run pos pins s sh H Q I ?_⟩
  refine rd_bindL hr' hs q fun d1 st1 W1 v1 H1 e1 x1 h1 s1 r1 p1 => ?_
  refine rdL_bindL h1 s1 p1 fun ds st2 W2 vs H2 e2 x2 h2 s2 r2 p2 => ?_
  exact PostL.now h2 p2 ⟨v1, vs, rfl, x2.rep r1, r2⟩
/-- how a call by keywords alone binds -/
structure BindsK (K : PySem.W.Frag) (fd : FuncData) (ps ks : List Str) (g : {α : Type} → List α → List α) : Prop where
  to : ∀ (s : Shared) (ws : List Value), K.In s.heap → ws.length = ks.length → BindsTo s fd ⟨[], ks.zip ws⟩ (ps.zip (g ws))
  rep : ∀ {K : PySem.W.Frag} {W : Wd} {vs : List V} {ds : List Pv.D}, repL K W vs ds → vs.length = ks.length → repL K W (g vs) (g ds)
  rel : ∀ {vs : List V} {us : List Value}, Vals vs us → vs.length = ks.length → Vals (g vs) (g us)
  len : ∀ {ds : List Pv.D}, ds.length = ks.length → (g ds).length = ps.length
/-- f(k = v, ..) -/
theorem ge_callK0 {ks : List Str} {g' : {α : Type} → List α → List α} {kws : List Keyword} (d : Df X.prog X.w X.K X.mg X.base k x f fd ps F) (b : BindsK X.K fd ps ks g') (hr : Room k X.A) (g : Gd X) (tk : Takes X Wx) (ha : GK X Wx kws ms) (hn : ∀ sl st ds st', ms sl st = .ok ds st' → ds.length = ks.length)
    (hall : (backToKw pos (keywordEach kws X.env)).all (·.1.isSome) = true := by rfl) (hks : (backToKw pos (keywordEach kws X.env)).filterMap (·.1) = ks := by rfl) (hg : Gl X x := by rfl) (hdb : (x == ("__debug__" : Str)) = false := by decide +kernel)
    (hpl : ((backTo pos (starEach [] X.env)).any (·.1) || (backToKw pos (keywordEach kws X.env)).any (·.1.isNone)) = false := by rfl) : GE X Wx (.Call (.Name x p) [] kws pos) (mCall (fun ds => F (g' ds)) ms) := by
  refine ⟨fun pins s sh H Q I ⟨W, sl, st, hr', hs, q⟩ => wpAny_Call_Name_kw (ld_glob I hg d.mg ?_ hdb)⟩
  refine PySem.W.callWith_KW0 (h₀ := X.base) I.ok.mod.kin d.kp hall (thn (ha.run pos pins s sh H _ I (ms_read (n := ks.length) hn hr' hs q)) ?_) hpl
  intro us s1 ⟨vs, H1, I1, r, q1⟩
  obtain ⟨W1, ds, st1, h1, l1, l2, p1⟩ := q1
  have hv : vs.length = ks.length := (repL_length l1).trans l2
  rw [hks]
  refine ⟨I1.kIn, run_G (args := ⟨[], ks.zip us⟩) d.fn hr g tk I1 (b.to s1 us I1.kIn (r.length.symm.trans hv)) (b.rel r hv) ⟨W1, g' ds, st1, h1, b.rep l1 hv, b.len l2, p1⟩⟩
end

/-! ### the law's head -/
theorem head_G {P : Program} {w : World} {K : PySem.W.Frag} {mg mb : Str → Option Value} {k : Nat} {fa a : Addr} {fd : FuncData} {x : Str} {F : Fn} {s₁ : Shared} {vs : List Value} {ns : List Int}
    (KX : K.In s₁.heap) (hns : s₁.heap.Ns mainGlobals mg) (hb : s₁.heap.Ns builtinsNs mb) (hbb : ∀ x : Str, x ≠ "__name__" → mb x = bootBuiltins x) (hlim : s₁.heap.NoLimit) (hg : s₁.gens = #[])
    (ha : s₁.heap.get? a = some { cls := .type "list", data := .seq vs.toArray }) (hi : IntsAre vs ns) (hl : ns.length ≤ sizeLine) (hr : Room k callerA)
    (hF : ∀ base : Heap, K.In base → base.Ns mainGlobals mg → FnG P w K mg base k fa fd [x] F) (hbind : ∀ (s : Shared) (u : Value), BindsTo s fd ⟨[u], []⟩ [(x, u)])
    (law : ∃ st, F [Gs (ns.map .int)] [] = .ok (.bool true) st) :
    codeAny (model P w) callerA (.call (.ref fa) ⟨[.ref a], []⟩) (fun r s' => r = .ok (.ret (.bool true)) ∧ OldK s₁.heap s'.heap ∧ s'.os = s₁.os ∧ AllBare s'.gens) s₁ := by
  have lenV := hi.length
  have rels := vals_ints hi
  have go : ∀ H : Hp, Only H → SqL K H a (ns.map V.int) → HOk P w H s₁.heap → (∀ b, H b ≠ none → b = a) → (H a ≠ none → K.lookup a = none) →
      codeAny (model P w) callerA (.call (.ref fa) ⟨[.ref a], []⟩) (fun r s' => r = .ok (.ret (.bool true)) ∧ OldK s₁.heap s'.heap ∧ s'.os = s₁.os ∧ AllBare s'.gens) s₁ := by
    intro H only sq ok one free
    have nodict : ∀ {b : Addr} {o : Obj} {es : Array DictEntry} {ep : Nat}, s₁.heap.get? b = some o → o.data = .dict es ep → H b = none := by
      intro b o es ep e q
      cases hb : H b with
      | none => rfl
      | some u =>
        have eb := one b (by rw [hb]; exact fun z => nomatch z)
        subst eb
        rw [ha] at e
        cases e
        exact nomatch (show Data.seq vs.toArray _ = Data.dict es ep from q)
    have nsB : ∀ {b : Addr} {m : Str → Option Value}, s₁.heap.Ns b m → (hidT s₁.heap H).Ns b m := by
      intro b m ⟨o, es, ep, e, q, r⟩
      exact ⟨o, es, ep, hidT_get e (nodict e q), q, r⟩
    have kB : K.In (hidT s₁.heap H) := by
      intro b o e
      refine hidT_get (KX b o e) ?_
      cases hb : H b with
      | none => rfl
      | some u =>
        have eb := one b (by rw [hb]; exact fun z => nomatch z)
        subst eb
        rw [free (by rw [hb]; exact fun z => nomatch z)] at e
        cases e
    have limB : (hidT s₁.heap H).NoLimit := by
      obtain ⟨mc, h1, h2⟩ := hlim
      exact ⟨mc, nsB h1, h2⟩
    have env : Env0 P w K mg (hidT s₁.heap H) callerA [] s₁ H :=
      { frames := rfl, mod := ⟨kB, nsB hns, ⟨mb, nsB hb, hbb⟩, limB⟩, bs := fun b o e => of_hidT e, bsz := Nat.le_of_eq (hidT_size _ _), funs := trivial, frf := fun b hb => (absurd (show b ∈ ([] : List Addr) from hb) (by simp)), hok := ok, bare := .of_eq hg }
    obtain ⟨st, hlaw⟩ := law
    have base : HR K ⟨H, []⟩ H [] := ⟨rfl, .nil, fun _ _ e => e, (fun r a m e => by simp at e), (fun p hp => by cases hp), (fun b ps e => by rcases only b with z | ⟨o, xs, z⟩ <;> (have e' : H b = some (.tbl ps) := e; rw [z] at e'; cases e'))⟩
    have nums : ∀ ns : List Int, repL K ⟨H, []⟩ (ns.map V.int) (ns.map .int) := by
      intro ns
      induction ns with
      | nil => rfl
      | cons n ns ih => exact ⟨_, _, rfl, rfl, ih⟩
    have prom : spF ⟨K, mg⟩ 1 F [.ref a] H (fun v _ => v = .bl true) fun _ _ _ => False :=
      ⟨⟨H, []⟩, [Gs (ns.map .int)], [], base, ⟨_, _, rfl, ⟨a, _, rfl, sq, nums ns⟩, rfl⟩, rfl, by rw [hlaw]; exact fun W' v H' _ _ r => r⟩
    refine codeAny_mono ((hF _ kB (nsB hns)).run callerA [] s₁ H ⟨[.ref a], []⟩ [.ref a] [.ref a] _ _ hr rfl env (hbind s₁ (.ref a)) (.cons rfl .nil) prom) ?_
    intro r s' z
    cases r with
    | error e => obtain ⟨_, _, _, _, _, _, _, _, _, _, _, _, q⟩ := z; exact q.elim
    | ok fl => cases fl with
      | ret u =>
        obtain ⟨v, H', os, bare, un, ok', rv, q⟩ := z
        cases (show v = .bl true from q)
        cases (show u = Value.bool true from rv)
        refine ⟨rfl, OldK.of_keep fun b o e => ?_, os, bare⟩
        cases hb : H b with
        | none => exact un.keep b o e hb (fun z => nomatch z) (fun z => nomatch z)
        | some u =>
          rcases only b with z | ⟨ob, xs, z⟩
          · rw [hb] at z; cases z
          · obtain ⟨e1, _⟩ := ok b _ z
            obtain ⟨e2, _⟩ := ok' b _ (un.frzs b ob _ z)
            rw [e] at e1
            cases e1
            exact e2
      | next => exact z.elim
      | brk => exact z.elim
      | cont => exact z.elim
  cases hk : K.lookup a with
  | some o =>
    have e := KX a o hk
    rw [ha] at e
    cases e
    refine go (fun _ => none) (fun _ => Or.inl rfl) (Or.inr ⟨_, vs.toArray, _, hk, rfl, rfl, rfl, ?_, ?_⟩) (fun b u z => nomatch z) (fun b z => absurd rfl z) (fun z => absurd rfl z)
    · rw [List.size_toArray, lenV]; exact hl
    · simpa using rels
  | none =>
    refine go (fun b => if b = a then some (.frz { cls := .type "list", data := .seq vs.toArray } (.lst (ns.map V.int))) else none) ?_ (Or.inl (Or.inr ⟨_, if_pos rfl⟩)) ?_ ?_ (fun _ => hk)
    · intro b
      by_cases q : b = a
      · exact Or.inr ⟨_, _, if_pos q⟩
      · exact Or.inl (if_neg q)
    · intro b u z
      by_cases q : b = a
      · have z2 := (if_pos q).symm.trans z
        cases z2
        subst q
        exact ⟨ha, by rw [List.length_map]; exact hl, vs, _, rels, ha⟩
      · have z2 := (if_neg q).symm.trans z
        cases z2
    · intro b z
      by_cases q : b = a
      · exact q
      · exact absurd (if_neg q) z
/-- the end theorem's walk, from the law's def and the plain law -/
theorem walk_G {l : PySem.W.OpenLaw} {n k : Nat} {q : Program} {loose : List Str} {XP : (Str → Option Value) → Heap → Prop} {YP : World → Heap → Prop} {d : DefRec} {K : Params → PySem.W.Frag} {x : Str} {F : Fn}
    (hn : l.most = some n) (hn2 : n ≤ sizeLine) (hdf : d.params.defaults = []) (hr : Room k callerA) (hY : ∀ (w : World) (h : Heap), YP w h → (K w.params).In h)
    (hF : ∀ (w : World) (mg : Str → Option Value) (fa : Addr) (h : Heap), (K w.params).In h → h.Ns mainGlobals mg → mg d.name = some (.ref fa) →
      ∃ fd : FuncData, (∀ (s : Shared) (u : Value), BindsTo s fd ⟨[u], []⟩ [(x, u)]) ∧ ∀ base : Heap, (K w.params).In base → base.Ns mainGlobals mg → FnG l.prog w (K w.params) mg base k fa fd [x] F)
    (law : ∀ ns : List Int, ns.length ≤ n → ∃ st, F [Gs (ns.map .int)] [] = .ok (.bool true) st) : PySem.W.WalkO q loose XP YP l.row.toRowW d [] (fun f vs => PySem.call f vs) := by
  refine Att.attach_call hn hdf ?_
  intro w s₀ s₁ mg mb fa o pm cd doc a vs ns G Y ho hd hcd hmg hobj hints hlen hg
  obtain ⟨fd, b, f⟩ := hF w mg fa _ (hY w _ Y) G.T.g hmg
  exact head_G (hY w _ Y) G.T.g G.T.b G.T.builtins G.T.nolimit hg hobj hints (Nat.le_trans hlen hn2) hr f b (law ns hlen)
end Pv
set_option Elab.async false
set_option linter.all false
set_option maxRecDepth 100000
set_option maxHeartbeats 4000000
namespace Pv
open PySem PySem.Spec L2
open PyProof.Rows hiding St

/-! ### isinstance, a built-in type -/
inductive Ty where
  | non | bool | int | str | list | tuple | dict
  deriving DecidableEq
def Ty.name : Ty → String
  | .non => "NoneType"
  | .bool => "bool"
  | .int => "int"
  | .str => "str"
  | .list => "list"
  | .tuple => "tuple"
  | .dict => "dict"
def Ty.sub : Ty → Ty → Bool
  | .non, .non => true
  | .bool, .bool => true
  | .bool, .int => true
  | .int, .int => true
  | .str, .str => true
  | .list, .list => true
  | .tuple, .tuple => true
  | .dict, .dict => true
  | _, _ => false
theorem kit_all (a b : Ty) : kitB a.name b.name = some (a.sub b) := by cases a <;> cases b <;> decide +kernel
def tyD (st : Sto) (d : Pv.D) : Option Ty :=
  match d with
  | .none => some .non
  | .bool _ => some .bool
  | .int _ => some .int
  | .str _ => some .str
  | .list _ => some .list
  | .tuple _ => some .tuple
  | .dict [(.int r, .none)] => (match st[r.toNat]? with | some (.lst _) => some .list | some (.ro _) => some .list | some (.dct _) => some .dict | some (.dctT _) => some .dict | some (.tb _ _) => none | none => none)
  | _ => none
section
variable {X : Cx} {Wx : WX} {ea eb e : Expr} {ma mb : M} {pos p p2 : Pos} {K : PySem.W.Frag} {W : Wd} {H : Hp} {st : Sto} {v : V} {d : Pv.D}
theorem ty_rep {t : Ty} (hr : HR K W H st) (h : rep K W v d) (e : tyD st d = some t) : TyX K H v (.type t.name) := by
  cases d with
  | none => cases e; cases h; exact .base .non
  | bool b => cases e; cases h; exact .base (.bl b)
  | int i => cases e; cases h; exact .base (.int i)
  | str x => cases e; cases h; exact .base (.str x)
  | list ds => cases e; obtain ⟨a, xs, e1, e2, l⟩ := h; subst e1; exact .base (.lst (hr.sub _ _ e2))
  | tuple ds => cases e; obtain ⟨a, xs, e1, e2, l⟩ := h; subst e1; exact .base (.tup (hr.sub _ _ e2))
  | dict kvs =>
    unfold tyD at e
    split at e
    all_goals (first | (rename_i q; cases q; done) | skip)
    · rename_i i q
      rcases rep_dict h with ⟨r, a, e1, e2, e3⟩ | ⟨ds', a, xs, e1, _, _⟩ | ⟨ds', a, xs, e1, _, _⟩ | ⟨ae, ade, ce, nse, fse, he⟩
      rotate_left
      · subst e1; cases q
      · subst e1; cases q
      · subst he; cases q
      subst e1
      cases q
      rw [Int.toNat_natCast] at e
      obtain ⟨m, hm, _, ho⟩ := hr.at e3
      rw [hm] at e
      subst e2
      cases m with
      | lst ds => cases e; obtain ⟨xs, f, _⟩ := ho; exact .base (.lst f)
      | ro ds => cases e; obtain ⟨o, xs, f, _⟩ := ho; exact .base (.frz f)
      | dct ds => cases e; obtain ⟨xs, f, _⟩ := ho; exact .base (.dK f)
      | dctT ds => cases e; obtain ⟨xs, f, _⟩ := ho; exact .base (.dT f)
      | tb _ _ => cases e
    · cases e
def mIsi (T : Ty) (m : M) : M := fun sl st => (m sl st).bind fun d st => lift ((tyD st d).map fun t => .bool (t.sub T)) st
theorem ge_isi {y : Str} (T : Ty) (hm : X.mg "isinstance" = none) (hmy : X.mg y = none) (ha : GE X Wx ea ma) (hv : bootBuiltins y = some (.type T.name) := by decide +kernel) (hg : Gl X "isinstance" := by rfl) (hgy : Gl X y := by rfl) (hn : y ≠ "__name__" := by decide +kernel) (hd : (y == ("__debug__" : Str)) = false := by decide +kernel)
    (he : starEach [ea, .Name y p2] X.env = (false, eval ea X.env) :: starEach [.Name y p2] X.env := by rfl) (he2 : starEach [.Name y p2] X.env = (false, eval (.Name y p2) X.env) :: starEach [] X.env := by rfl) (hpl : (backTo pos (starEach [.Name y p2] X.env)).any (·.1) = false := by rfl) : GE X Wx (.Call (.Name "isinstance" p) [ea, .Name y p2] [] pos) (mIsi T ma) := by
  have hy : PE X (.Name y p2) (tC (.ty T.name)) := pe_bltn hgy hmy hv rfl hn hd
  refine PE.imp (pe_callB (call_isi (X := X)) hg hm (by decide +kernel) (pa_cons ha (pa_cons hy pa_nil he2) he) (by decide +kernel) (by decide +kernel) he hpl) fun sh H Q ⟨W, sl, st, hr, hs, q⟩ => ?_
  refine rd_bind hr hs q fun d1 st1 W1 v1 H1 e1 x1 h1 s1 r1 p1 => ?_
  cases ht : tyD st1 d1 with
  | none => rw [ht] at p1; exact p1.elim
  | some t =>
    rw [ht] at p1
    exact ⟨v1, .ty T.name, _, _, _, rfl, .ty _, ty_rep h1 r1 ht, kit_ty (kit_all t T), p1.val h1 rfl⟩

/-! ### repr -/
def reprD (st : Sto) (d : Pv.D) : Option Pv.D := if (deref st d).canLay0 = true ∧ (deref st d).showable = true ∧ (deref st d).depth ≤ 100 ∧ (deref st d).shown.length ≤ sizeLine then some (.str (deref st d).shown) else none
theorem call_reprD (g : Gd X) : CallR X (.builtin "repr") (fun xs H Q => ∃ v d, xs = [v] ∧ Dp X.K H v d ∧ d.canLay0 = true ∧ d.showable = true ∧ d.depth ≤ 100 ∧ d.shown.length ≤ sizeLine ∧ Q (.str d.shown) H) := by
  intro pins s sh H xs us Q I r ⟨v, d, ex, hd, hc, hs, hdp, hz, q⟩
  subst ex
  obtain ⟨u, rfl, ru⟩ := vals1 r
  have hu := g.un
  have read : ∀ (a : Addr), v = .ref a → wpAny (model X.prog X.w) X.A (call (.builtin "repr") [u]) (EP X pins sh Q) X.xe s := by
    intro a ev
    subst ev
    obtain ⟨as, rd⟩ := Dp.reads I d _ u hd ru
    cases (show u = Value.ref a from ru)
    exact repr_of_reads' rd hs (PyData.noDict_hsm (PyData.hasDict_of_canLay d hc)) g.gu (by omega) (fun _ _ e => e) (fun h' t tk k => ⟨.str d.shown, H, I.kept k, ⟨t, rfl⟩, q⟩) hz
  cases hd with
  | non => cases ru; exact PySem.P.repr_of_none ⟨.str _, H, I.tok _, ⟨_, rfl⟩, q⟩
  | bl b => cases ru; exact PySem.P.repr_of_bool ⟨.str _, H, I.tok _, ⟨_, rfl⟩, by cases b <;> exact q⟩
  | int i => obtain ⟨t, rfl⟩ := ru; exact PySem.P.repr_of_int (by simpa [PyData.showable] using hs) ⟨.str _, H, I.tok _, ⟨_, rfl⟩, q⟩
  | str x => obtain ⟨t, rfl⟩ := ru; exact PySem.P.repr_of_str ⟨.str _, H, I.tok _, ⟨_, rfl⟩, q⟩ hz
  | lst _ _ => exact read _ rfl
  | tup _ _ => exact read _ rfl
def mRepr (m : M) : M := fun sl st => (m sl st).bind fun d st => lift (reprD st d) st
theorem ge_repr (g : Gd X) (hm : X.mg "repr" = none) (ha : GE X Wx ea ma) (hg : Gl X "repr" := by rfl)
    (he : starEach (ea :: []) X.env = (false, eval ea X.env) :: starEach [] X.env := by rfl) (hpl : (backTo pos (starEach [] X.env)).any (·.1) = false := by rfl) : GE X Wx (.Call (.Name "repr" p) [ea] [] pos) (mRepr ma) := by
  refine PE.imp (pe_callB (call_reprD g) hg hm (by decide +kernel) (pa_cons ha pa_nil he) (by decide +kernel) (by decide +kernel) he hpl) fun sh H Q ⟨W, sl, st, hr, hs, q⟩ => ?_
  refine rd_bind hr hs q fun d1 st1 W1 v1 H1 e1 x1 h1 s1 r1 p1 => ?_
  unfold reprD at p1
  split at p1
  · rename_i hc
    exact ⟨v1, _, rfl, rep_dpR h1 r1 rfl hc.1, hc.1, hc.2.1, hc.2.2.1, hc.2.2.2, p1.val h1 rfl⟩
  · exact p1.elim

/-! ### a tuple, a list several times -/
def dMulS : Pv.D → Pv.D → Option Pv.D
  | .int i, .int j => if (-(2 ^ 64) < i ∧ i < 2 ^ 64) ∨ (-(2 ^ 64) < j ∧ j < 2 ^ 64) then some (.int (i * j)) else none
  | .tuple ds, .int k => if ds ≠ [] ∧ 2 ≤ k ∧ k ≤ 1000 ∧ ds.length ≤ 1000 then some (.tuple (List.replicate k.toNat ds).flatten) else none
  | .list ds, .int k => if -(2 ^ 63) ≤ k ∧ k < 2 ^ 63 ∧ ds.length * k.toNat ≤ sizeLine then some (.list (List.replicate k.toNat ds).flatten) else none
  | _, _ => none
theorem repL_rep {vs : List V} {ds : List Pv.D} (h : repL K W vs ds) : ∀ n : Nat, repL K W (List.replicate n vs).flatten (List.replicate n ds).flatten
  | 0 => rfl
  | n + 1 => by rw [List.replicate_succ, List.replicate_succ, List.flatten_cons, List.flatten_cons]; exact repL_append h (repL_rep h n)
def mMulS : M → M → M := mOp2 (onD2 dMulS)
theorem ge_mulS (ha : GE X Wx ea ma) (hb : GE X Wx eb mb) : GE X Wx (.BinOp ea .Mult eb pos) (mMulS ma mb) := by
  refine ge_op2 onD2_nx ?_ (pe_op ((op_mul.or op_repT).or op_rep) ha hb)
  intro W H st x y dx dy Q hr rx ry p
  obtain ⟨d, e, p⟩ := onD2_post p
  unfold dMulS at e
  split at e
  · rename_i i j e1 e2
    split at e
    · rename_i hc
      cases e
      exact .inl (.inl ⟨i, j, rep_dint hr rx e1, rep_dint hr ry e2, hc, p.val hr rfl⟩)
    · cases e
  · rename_i ds k e1 e2
    split at e
    · rename_i hc
      cases e
      obtain ⟨a, xs, f1, f2, l⟩ := rep_dtuple hr rx e1
      have hl := repL_length l
      refine .inl (.inr ⟨a, k, xs, f1, rep_dint hr ry e2, f2, fun z => ?_, hc.2.1, hc.2.2.1, by rw [hl]; exact hc.2.2.2, p.tup hr (repL_rep l _)⟩)
      subst z
      exact hc.1 (List.length_eq_zero_iff.mp hl.symm)
    · cases e
  · rename_i ds k e1 e2
    split at e
    · rename_i hc
      cases e
      obtain ⟨a, xs, f1, f2, l⟩ := rep_dlist hr rx e1
      exact .inr ⟨a, k, xs, f1, rep_dint hr ry e2, f2, hc.1, hc.2.1, by rw [repL_length l]; exact hc.2.2, p.lst hr (repL_rep l _)⟩
    · cases e
  · cases e

/-! ### x[::-1] -/
end
section
variable {prog : Program} {w : World} {A : Around} {E : Value → Shared → Prop} {s : Shared}
theorem applied_back {sl : Addr} {t : Tok} {n : Nat} {Q : Int × Int × Nat → Shared → Prop} (hs : s.heap.IsSliceOf sl .none .none (.int (-1) t)) (h : Q ((n : Int) - 1, -1, n) s) :
    wpAny (model prog w) A (Builtin.Slice.sliceApplied (.ref sl) (pure (n : Int))) Q E s := by
  obtain ⟨ob, hob, _, hf⟩ := id hs
  unfold Builtin.Slice.sliceApplied Builtin.Slice.sliceFields
  have f0 : ∀ {Q : Value → Shared → Prop}, Q .none s → wpAny (model prog w) A (field (.ref sl) 0) Q E s := fun q => wpAny_field hob hf rfl q
  have f1 : ∀ {Q : Value → Shared → Prop}, Q .none s → wpAny (model prog w) A (field (.ref sl) 1) Q E s := fun q => wpAny_field hob hf rfl q
  have f2 : ∀ {Q : Value → Shared → Prop}, Q (.int (-1) t) s → wpAny (model prog w) A (field (.ref sl) 2) Q E s := fun q => wpAny_field hob hf rfl q
  refine wpAny_bind (wpAny_bind (f0 (wpAny_bind (f1 (wpAny_bind (f2 (wpAny_pure (wpAny_bind (slicePart_int ?_)))))))))
  show wpAny _ _ (if ((-1 : Int) == 0) = true then _ else _) _ _ s
  rw [if_neg (by decide)]
  refine wpAny_bind (slicePart_none (wpAny_bind (slicePart_none (wpAny_bind (wpAny_pure ?_)))))
  have e : Builtin.Slice.slicePlaces ((n : Int) - 1) (-1) (-1) = n := by
    unfold Builtin.Slice.slicePlaces
    rw [if_neg (by decide)]
    simp only [Int.neg_neg, Int.ediv_one]
    split <;> omega
  show wpAny _ _ (pure ((n : Int) - 1, (-1 : Int), Builtin.Slice.slicePlaces ((n : Int) - 1) (-1) (-1))) _ _ s
  rw [e]
  exact wpAny_pure h
theorem fm_congr {α β : Type} {f g : α → Option β} : ∀ {l : List α}, (∀ k ∈ l, f k = g k) → l.filterMap f = l.filterMap g
  | [], _ => rfl
  | a :: l, h => by rw [List.filterMap_cons, List.filterMap_cons, h a List.mem_cons_self, fm_congr fun k hk => h k (List.mem_cons_of_mem _ hk)]
theorem pick_back (xs : List Value) : ((List.range xs.length).filterMap fun (k : Nat) => xs.toArray[(((xs.length : Nat) : Int) - 1 + (k : Int) * (-1)).toNat]?) = xs.reverse := by
  have e : ∀ k ∈ List.range xs.length, xs.toArray[(((xs.length : Nat) : Int) - 1 + (k : Int) * (-1)).toNat]? = xs.reverse[k]? := by
    intro k hk
    have hk' : k < xs.length := List.mem_range.mp hk
    rw [List.getElem?_reverse hk', List.getElem?_toArray]
    congr 1
    omega
  rw [fm_congr e]
  have g : ∀ (ys : List Value) (n : Nat), (List.range n).filterMap (fun k => ys[k]?) = ys.take n := by
    intro ys n
    induction n with
    | zero => rfl
    | succ n ih =>
      rw [List.range_succ, List.filterMap_append, ih, List.take_succ]
      have e1 : List.filterMap (fun k => ys[k]?) [n] = (ys[n]?).toList := by
        rw [List.filterMap_cons]
        cases ys[n]? <;> rfl
      rw [e1]
  rw [g, ← List.length_reverse, List.take_length]
theorem item_back {a sl : Addr} {its : List Value} {t : Tok} {Q : Value → Shared → Prop} (ht : IsTup s.heap a its.toArray) (hs : s.heap.IsSliceOf sl .none .none (.int (-1) t)) (hz : its.length ≤ sizeLine)
    (h : Q (.ref s.heap.objs.size) { s with heap := s.heap.push { cls := .type "tuple", data := .seq its.reverse.toArray } }) : wpAny (model prog w) A (getItem (.ref a) (.ref sl)) Q E s := by
  have room : sizeOk (.seq its.reverse.toArray) := by
    show its.reverse.toArray.size ≤ sizeLine
    rw [List.size_toArray, List.length_reverse]; exact hz
  obtain ⟨ob, hob, hcl, _⟩ := id hs
  have isSl : s.TypeIs (.ref sl) "slice" := ⟨ob, hob, hcl⟩
  unfold getItem
  try with_reducible refine wpAny_holding ?_
  first | (refine wpAny_bind (wpAny_pure ?_)) | skip
  refine wpAny_bind (wpAny_sequenceKey ht.typeIs (by decide) (wpAny_bind (wpAny_callSpecial?_slot (name := Str.ofString "__getitem__") ht.typeIs PyProof.Rows.slot_tuple_getitem (wpAny_call_entry PyProof.Rows.slot_tuple_getitem ht.typeIs entry_tuple_getitem ?_ (args_tuple_getitem _ _)))))
  show wpAny _ _ (Builtin.Tuple.tupleItemsOf (.ref a) >>= _) _ _ s
  refine wpAny_bind (tupleItemsOf_ ht (wpAny_bind (wpAny_typeOf isSl ?_)))
  rw [if_pos (by decide)]
  have hn : ((its.toArray.size : Nat) : Int) = ((its.length : Nat) : Int) := by rw [List.size_toArray]
  rw [hn]
  refine wpAny_bind (applied_back hs ?_)
  have no : ¬ ((((its.length : Nat) : Int) - 1 == 0 && (-1 : Int) == 1 && its.length == its.toArray.size) = true) := by
    intro q
    rw [Bool.and_eq_true, Bool.and_eq_true] at q
    exact absurd q.1.2 (by decide)
  show wpAny _ _ (if ((((its.length : Nat) : Int) - 1 == 0 && (-1 : Int) == 1 && its.length == its.toArray.size) = true) then _ else _) _ _ s
  rw [if_neg no, pick_back]
  first
    | exact wpAny_bind (m := Builtin.Tuple.tupleExact _) (wpAny_newObj_type (wpAny_pure ⟨_, rfl, wpAny_pure h⟩) room)
    | exact wpAny_bind (m := Builtin.Tuple.tupleExact _) (wpAny_newObj_type (wpAny_bind (wpAny_pure (wpAny_pure ⟨_, rfl, wpAny_pure h⟩))) room)
    | exact wpAny_bind (wpAny_bind (m := Builtin.Tuple.tupleExact _) (wpAny_newObj_type (wpAny_pure (wpAny_pure ⟨_, rfl, wpAny_pure h⟩)) room))
    | exact wpAny_bind (wpAny_bind (m := Builtin.Tuple.tupleExact _) (wpAny_newObj_type (wpAny_pure ⟨_, rfl, wpAny_pure h⟩) room))
end
section
variable {X : Cx} {Wx : WX} {ea eb e : Expr} {ma mb : M} {pos p p1 p2 p3 : Pos} {K : PySem.W.Frag} {W : Wd} {H : Hp} {st : Sto} {v : V} {d : Pv.D} {k : Nat}
def tRevT (K : PySem.W.Frag) (te : TE) : TE := fun sh H Q => te sh H fun x H1 => ∃ a xs, x = .ref a ∧ SqT K H1 a xs ∧ ∀ q, H1 q = none → Q (.ref q) (upd H1 q (.tup xs.reverse))
theorem pe_revT {te : TE} (he : PE X e te) : PE X (.Subscript e (.Slice none none (some (.UnaryOp .USub (.Constant (.int 1) k p1) p2)) p3) pos) (tRevT X.K te) := by
  refine ⟨fun pins s sh H Q I h => Subscript_ (thn (he.run pins s sh H _ I h) ?_)⟩
  intro v s1 ⟨x, H1, I1, r1, a, xs, ex, hx, q⟩
  subst ex
  cases r1
  have step : PO X (some (.UnaryOp .USub (.Constant (.int 1) k p1) p2)) (tPart (tUn (rU fun i => .int (-i)) (tC (.int 1)))) := po_some (pe_un un_neg pe_int)
  refine wpAny_Slice (thn (po_none.run pins s1 sh H1 (fun o H2 => o = none ∧ H2 = H1) I1 ⟨rfl, rfl⟩) ?_)
  intro vl s2 ⟨l, H2, I2, pl, el, e2⟩
  subst el e2
  refine thn (po_none.run pins s2 sh H2 (fun o H3 => o = none ∧ H3 = H2) I2 ⟨rfl, rfl⟩) ?_
  intro vu s3 ⟨u, H3, I3, pu, eu, e3⟩
  subst eu e3
  refine thn (step.run pins s3 sh H3 (fun o H4 => o = some (-1) ∧ H4 = H3) I3 ⟨1, rfl, -1, rfl, rfl, rfl⟩) ?_
  intro vs s4 ⟨o, H4, I4, ps, eo, e4⟩
  subst eo e4
  cases pl
  cases pu
  cases ps with
  | int i t =>
    have I5 : Inv X pins sh H4 { s4 with heap := s4.heap.push { cls := .type "slice", data := .fields #[.none, .none, .int (-1) t] } } := I4.kept (t' := s4.toks) fun b ob z => Heap.get?_push_of_some _ z
    obtain ⟨its, r, ht, hz⟩ := I5.tuple hx
    have hlen := r.length
    show wpAny (model X.prog X.w) X.A (subscriptTail e (.Slice none none (some (.UnaryOp .USub (.Constant (.int 1) k p1) p2)) p3) (.ref a) (.ref s4.heap.objs.size)) (EP X pins sh Q) X.xe { s4 with heap := s4.heap.push { cls := .type "slice", data := .fields #[.none, .none, .int (-1) t] } }
    refine tail_any (ops := [.ref a, .ref s4.heap.objs.size]) ht.typeIs PyProof.Rows.slot_tuple_getitem.lookup (item_back ht (Heap.IsSliceOf.new _ .none .none (.int (-1) t)) (by omega) ?_) (by with_unfolding_all rfl)
    refine ⟨.ref _, _, I5.laid (t' := s4.toks) (o := .tup xs.reverse) (fun b ob z => Heap.get?_push_of_some _ z) (Nat.le_refl _) ?_, rfl, q _ (I5.hok.fresh (Nat.le_refl _))⟩
    exact ⟨by rw [List.length_reverse]; exact hz, _, r.reverse, ⟨_, Heap.get?_push_size _ rfl, rfl, _, rfl⟩⟩
def dRev : Pv.D → Option Pv.D
  | .list ds => some (.list ds.reverse)
  | .tuple ds => some (.tuple ds.reverse)
  | _ => none
def mRev : M → M := mOp1 (onD1 dRev)
theorem ge_rev (ha : GE X Wx ea ma) : GE X Wx (.Subscript ea (.Slice none none (some (.UnaryOp .USub (.Constant (.int 1) k p1) p2)) p3) pos) (mRev ma) := by
  refine PE.imp (PE.or (pe_revL ha) (pe_revT ha)) fun sh H Q ⟨W, sl, st, hr, hs, q⟩ => ?_
  have bothways : ∀ (d1 : Pv.D) (st1 : Sto), ma sl st = .ok d1 st1 → (∃ ds, deref st1 d1 = .list ds) ∨ ∃ ds, deref st1 d1 = .tuple ds := by
    intro d1 st1 e1
    unfold mRev mOp1 at q
    rw [e1] at q
    simp only [R.bind_ok] at q
    obtain ⟨d, e, _⟩ := onD1_post q
    cases hx : deref st1 d1 with
    | list ds => exact .inl ⟨ds, rfl⟩
    | tuple ds => exact .inr ⟨ds, rfl⟩
    | _ => rw [hx] at e; cases e
  cases e0 : ma sl st with
  | bad => unfold mRev mOp1 at q; rw [e0] at q; exact q.elim
  | exc x s2 =>
    refine .inl (rd_bind hr hs q fun d1 st1 W1 v1 H1 e1 => ?_)
    rw [e0] at e1; cases e1
  | ok d0 st0 =>
    rcases bothways d0 st0 e0 with ⟨ds, hx⟩ | ⟨ds, hx⟩
    · refine .inl (rd_bind hr hs q fun d1 st1 W1 v1 H1 e1 x1 h1 s1 r1 p1 => ?_)
      rw [e0] at e1; cases e1
      obtain ⟨d, e, p1⟩ := onD1_post p1
      rw [hx] at e; cases e
      obtain ⟨a, xs, f1, f2, l⟩ := rep_dlist h1 r1 hx
      exact ⟨a, xs, f1, .inl (.inl f2), p1.lst h1 (repL_reverse l)⟩
    · refine .inr (rd_bind hr hs q fun d1 st1 W1 v1 H1 e1 x1 h1 s1 r1 p1 => ?_)
      rw [e0] at e1; cases e1
      obtain ⟨d, e, p1⟩ := onD1_post p1
      rw [hx] at e; cases e
      obtain ⟨a, xs, f1, f2, l⟩ := rep_dtuple h1 r1 hx
      exact ⟨a, xs, f1, f2, p1.tup h1 (repL_reverse l)⟩
end
end Pv
set_option Elab.async false
set_option linter.all false
set_option maxRecDepth 100000
set_option maxHeartbeats 4000000
namespace Pv
open PySem PySem.Spec L2
open PyProof.Rows hiding St

/-! ### enumerate of a tuple -/
section
variable {prog : Program} {w : World} {A : Around} {E : Value → Shared → Prop} {s : Shared}
set_option maxHeartbeats 1000000 in
theorem enum_new1 {v : Value} {o : Obj} {H : Heap → Prop} (B : Begins v o H) : Meets (Builtin.«enumerate.__new__» ⟨[.type "enumerate", v], []⟩) (fun _ R s => H s.heap ∧
      R (.ok (.ret (.ref (s.heap.push o).objs.size))) { s with heap := (s.heap.push o).push { cls := .type "enumerate", data := .fields #[.none, .bool false, .ref s.heap.objs.size, rawInt 0, .none, .none] } }) :=
  .of_wp fun prog w A R s h => by
    obtain ⟨hp, g, d, tk, os⟩ := s
    obtain ⟨h1, h⟩ := h
    have subE := sub_enumerate
    have iter : ∀ {A' : Around} {E : Value → Shared → Prop} {Q : Value → Shared → Prop}, Q (.ref hp.objs.size) ⟨hp.push o, g, d, tk, os⟩ → wpAny (model prog w) A' (pyIter v) Q E ⟨hp, g, d, tk, os⟩ :=
      fun z => B.iter prog w _ _ ⟨hp, g, d, tk, os⟩ _ h1 z
    wp_walk using iter
    refine wpAny_stack_any (fun st => wpAny_pure ?_)
    split
    · rename_i c _ _ _ _ _
      cases (c == Value.type "enumerate") <;> (wp_walk using iter; exact ⟨_, rfl, h⟩)
    · wp_walk using iter
      exact ⟨_, rfl, h⟩
theorem enum_call1 {v : Value} {o : Obj} {H : Heap → Prop} {Q : Value → Shared → Prop} (B : Begins v o H) (h1 : H s.heap)
    (h : ∀ h', IsEnum h' (s.heap.objs.size + 1) s.heap.objs.size 0 .none → h'.get? s.heap.objs.size = some o → (∀ b o, s.heap.get? b = some o → h'.get? b = some o) → Q (.ref (s.heap.objs.size + 1)) { s with heap := h' }) :
    wpAny (model prog w) A (call (.type "enumerate") [v]) Q E s := by
  have size1 : (s.heap.push o).objs.size = s.heap.objs.size + 1 := Heap.size_push ..
  refine callType_new F.called_enumerate (by decide) (F.typeCall_enumerate_1 _) (F.newCall_enumerate_1 _) (fun obj => F.args_object_init_2 obj _) F.entry_enumerate_new (enum_new1 B) ⟨h1, ?_⟩
  show _ ∧ _
  rw [size1]
  have isE : IsEnum ((s.heap.push o).push { cls := .type "enumerate", data := .fields #[.none, .bool false, .ref s.heap.objs.size, rawInt 0, .none, .none] }) (s.heap.objs.size + 1) s.heap.objs.size 0 .none := by
    rw [← size1]
    exact Heap.get?_push_size (s.heap.push o) rfl
  exact ⟨⟨_, isE, rfl⟩, h _ isE (Heap.get?_push_of_some _ (Heap.get?_push_size _ B.free)) fun b o x => Heap.get?_push_of_some _ (Heap.get?_push_of_some _ x)⟩
end
def IteT (K : PySem.W.Frag) (a : Addr) : It :=
  ⟨fun i H => ∃ (xs : List V) (x : V), SqT K H a xs ∧ xs[i]? = some x, fun i H v H' => ∃ T x, v = .ref T ∧ H T = none ∧ H' = upd H T (.tup [.int (i : Nat), x]) ∧ ∀ xs, SqT K H a xs → xs[i]? = some x, fun i H => ∃ xs : List V, SqT K H a xs ∧ xs.length ≤ i⟩
theorem turn_enumT {P : Program} {w : World} {K : PySem.W.Frag} {elts : List Expr} {kk : Nat} {tpos : Pos} (a e it : Addr) :
    Turn P w K (.Tuple elts kk tpos) (IteT K a) [e, it] e (fun i h => (∃ old, IsEnum h e it ((i : Nat) : Int) old) ∧ h.IsTupleIter it a i ∧ e ≠ it ∧ a ≠ it ∧ e ≠ a) where
  mem := by simp
  obj := by
    intro i h st b hb
    obtain ⟨⟨old, he⟩, ⟨o, ho, hc, hd⟩, _⟩ := st
    rcases (show b = e ∨ b = it by simpa using hb) with z | z
    · subst z; exact ⟨_, he, fun v q => nomatch q⟩
    · subst z; exact ⟨o, ho, fun v q => by rw [hd] at q; cases q⟩
  keep := by
    intro i h h' ⟨⟨old, he⟩, hi, ne⟩ k
    exact ⟨⟨old, k e (by simp) _ he⟩, hi.at fun o q => k it (by simp) o q, ne⟩
  item := by
    intro X hP hw hK hc i pins s sh H E I hf ⟨⟨old, he⟩, hit, hne, hai, hea⟩ ⟨xs, x, hq, hx⟩
    subst hP hw hK
    obtain ⟨its, rv, p, hz⟩ := I.tuple hq
    obtain ⟨u, hu, ru⟩ := rv.get hx
    have le : e < s.heap.objs.size := Heap.lt_size he
    have li : it < s.heap.objs.size := let ⟨_, q, _⟩ := hit; Heap.lt_size q
    have Dr : Draws X.prog X.w X.A.in1 it [it, a] its.toArray.size (fun i v => its.toArray[i]? = some v) (fun i h => h.IsTupleIter it a i ∧ h.IsTuple a its.toArray) :=
      .tuple (A := X.A.in1) (show X.A.in1.handled = none from I.ok.hd hc) it a hai its.toArray
    have hlt : i < its.toArray.size := by rw [List.size_toArray]; exact (List.getElem?_eq_some_iff.mp hu).1
    refine wpAny_pyNext_enum_itemD Dr he ⟨hit, p⟩ hlt hne (by simp [hne, hea]) ?_
    intro x1 h' tk hx1 ho ⟨hit', _⟩ hT hsz hk
    have ex1 : x1 = u := by
      have hx1' : its[i]? = some x1 := by simpa using hx1
      rw [hu] at hx1'; cases hx1'; rfl
    subst ex1
    refine ⟨_, rfl, wpAny_letOwnedTupleGo_enum (s := { s with heap := h', toks := tk + 1 }) ho ?_⟩
    intro h'' he' sb
    have hT2 : h''.get? s.heap.objs.size = some { cls := .type "tuple", data := .seq #[.int i tk, x1] } := (sb.2 _ (Nat.ne_of_gt le)).trans hT
    have new : ObjOk X.prog X.w (upd H s.heap.objs.size (.tup [.int (i : Nat), x])) h'' s.heap.objs.size (.tup [.int (i : Nat), x]) :=
      ⟨(by decide : (2 : Nat) ≤ sizeLine), [.int i tk, x1], .cons ⟨_, rfl⟩ (.cons ru .nil), ⟨_, hT2, rfl, _, rfl⟩⟩
    have keep2 : ∀ b ob, b ∉ [e, it] → s.heap.get? b = some ob → h''.get? b = some ob := by
      intro b ob hb q
      have hb1 : b ≠ e := fun z => hb (by simp [z])
      have hb2 : b ≠ it := fun z => hb (by simp [z])
      exact (sb.2 b hb1).trans (hk b ob hb1 hb2 q)
    have I1 : Inv X pins sh (upd H s.heap.objs.size (.tup [.int (i : Nat), x])) { s with heap := h'', toks := tk + 1 } := I.turnedNew (ch := [e, it]) keep2 hf (Nat.le_refl _) new
    refine ⟨.ref s.heap.objs.size, _, I1, rfl, ⟨_, x, rfl, I.hok.fresh (Nat.le_refl _), rfl, fun ys hy => by rw [I.tuple_inj hy hq]; exact hx⟩, ⟨⟨x1, ?_⟩, hit'.at fun o q => (sb.2 it (Ne.symm hne)).trans q, hne, hai, hea⟩, ?_⟩
    · rw [show ((i + 1 : Nat) : Int) = (i : Int) + 1 by omega]; exact he'
    · intro b hb
      have lb : b < s.heap.objs.size := by
        rcases (show b = e ∨ b = it by simpa using hb) with z | z <;> (subst z; assumption)
      rw [upd_ne (Nat.ne_of_lt lb)]
      exact (hf b hb).1
  done := by
    intro X hP hw hK hc i pins s sh H E I hf ⟨⟨old, he⟩, hit, hne, hai, hea⟩ ⟨xs, hq, hx⟩
    subst hP hw hK
    obtain ⟨its, rv, p, hz⟩ := I.tuple hq
    have hl := rv.length
    have out : its.toArray[i]? = none := by simp; omega
    obtain ⟨f0, f1, f2, f3, f4, f5⟩ := hf it (by simp)
    unfold pyNext
    have hT : s.TypeIs (.ref e) "enumerate" := ⟨_, he, rfl⟩
    refine wpAny_bind (wpAny_attempt (wpAny_callSpecial?_slot (name := Str.ofString "__next__") hT F.slot_enumerate_next (wpAny_call_entry F.slot_enumerate_next hT F.entry_enumerate_next ?_ (F.args_enumerate_next_1 _))))
    show wpAny _ _ (field (.ref e) 2 >>= _) _ _ _
    refine wpAny_bind (wpAny_field he rfl (x := .ref it) rfl (wpAny_bind (wpAny_nextOf_tuple_end (I.ok.hd hc) hit p out ?_)))
    intro h' x eb ⟨o, ho, hcl⟩
    exact wpAny_bind (wpAny_isInstance (T := "StopIteration") (b := true) ⟨o, ho, hcl⟩ isSubtype_stop (wpAny_pure ⟨rfl, I.turned (t' := s.toks) (fun b o hb q => eb b o hb q) f0 f1 f3 f4 f5⟩))
  self := fun A i s Q E ⟨⟨_, he⟩, _⟩ h => wpAny_pyIter_enum he h
def iEnumT (K : PySem.W.Frag) (ta : TA) : TI := fun sh H R => ta sh H fun vs H1 => ∃ a xs, vs = [.ref a] ∧ SqT K H1 a xs ∧ R (IteT K a) H1
theorem pi_enumT {X : Cx} {e : Expr} {ta : TA} {p pos tpos : Pos} {elts : List Expr} {kk : Nat} (hg : Gl X "enumerate") (hm : X.mg "enumerate" = none) (ha : PA X [e] ta) (hs : starEach [e] X.env = [(false, eval e X.env)] := by rfl) :
    PI X (.Tuple elts kk tpos) (.Call (.Name "enumerate" p) [e] [] pos) (iEnumT X.K ta) := by
  refine ⟨fun pins s sh H R I h => Call_ (ld_blt I hg hm boot_enumerate (PyProof.Rows.callWith_type1 (thn (ha.run pos pins s sh H _ I h) ?_) hs rfl))⟩
  intro us s1 ⟨vs, H1, I1, r1, a, xs, ex, hq, q⟩
  subst ex
  obtain ⟨u, rfl, r⟩ := r1.one
  cases (show u = Value.ref a from r)
  obtain ⟨its, rv, p', hz⟩ := I1.tuple hq
  have la : a < s1.heap.objs.size := let ⟨_, z, _⟩ := p'; Heap.lt_size z
  refine enum_call1 (begins_tuple a its.toArray) p' ?_
  intro h' he hit hk
  refine wpAny_pyIter_enum he ?_
  have I2 : Inv X pins sh H1 { s1 with heap := h' } := I1.kept (t' := s1.toks) hk
  refine ⟨s1.heap.objs.size + 1, [s1.heap.objs.size + 1, s1.heap.objs.size], _, _, H1, rfl, I2, turn_enumT a (s1.heap.objs.size + 1) s1.heap.objs.size, ⟨⟨.none, he⟩, ⟨_, hit, rfl, rfl⟩, Nat.succ_ne_self _, Nat.ne_of_lt la, Nat.ne_of_gt (Nat.lt_succ_of_lt la)⟩, ?_, q⟩
  intro b hb
  have lb : s1.heap.objs.size ≤ b := by
    rcases (show b = s1.heap.objs.size + 1 ∨ b = s1.heap.objs.size by simpa using hb) with z | z <;> (rw [z]; omega)
  exact I1.fpOk lb (I1.hok.fresh lb)

/-! ### what enumerate walks -/
def numD : Nat → List Pv.D → List Pv.D
  | _, [] => []
  | i, d :: ds => .tuple [.int (i : Int), d] :: numD (i + 1) ds
theorem numD_get : ∀ (ds : List Pv.D) (k i : Nat), (numD k ds)[i]? = (ds[i]?).map fun d => .tuple [.int ((k + i : Nat) : Int), d]
  | [], k, i => by simp [numD]
  | d :: ds, k, 0 => by simp [numD]
  | d :: ds, k, i + 1 => by
    show (numD (k + 1) ds)[i]? = (ds[i]?).map _
    rw [numD_get ds (k + 1) i, show k + 1 + i = k + (i + 1) by omega]
theorem numD_length : ∀ (ds : List Pv.D) (k : Nat), (numD k ds).length = ds.length
  | [], _ => rfl
  | d :: ds, k => by simp [numD, numD_length ds]
def enumOf (d : Pv.D) (st : Sto) : R Src := (srcOf d st).bind fun s st => .ok ⟨numD 0 s.items, s.keep⟩ st
def mEnum (m : M) : MI := fun sl st => (m sl st).bind fun d st => match d with | .str _ => .bad | d => enumOf d st
section
variable {X : Cx} {Wx : WX} {W W' : Wd} {H H' : Hp} {st : Sto} {sl : Sl} {sh : L2.St} {pos p : Pos} {N : Nv}
theorem walk_num {K : PySem.W.Frag} {J0 J : It} {ds : List Pv.D} {keep : Sto → Prop} [DecidablePred keep] (hw : WalkK K J0 W ⟨ds, keep⟩) (hstop : ∀ H, J0.stop ds.length H → J.stop ds.length H)
    (hgo : ∀ i H d W1 st1, HR K W1 H st1 → ds[i]? = some d → J0.go i H → (∀ x H', J0.yld i H x H' → ∃ W2, Ext W1 H W2 H' ∧ HR K W2 H' st1 ∧ rep K W2 x d) → J.go i H ∧ ∀ v H', J.yld i H v H' → ∃ T x, v = .ref T ∧ H T = none ∧ H' = upd H T (.tup [.int (i : Nat), x]) ∧ J0.yld i H x H) : WalkK K J W ⟨numD 0 ds, keep⟩ := by
  intro W1 H1 st1 h1 f r k
  obtain ⟨a, b⟩ := hw W1 H1 st1 h1 f r k
  refine ⟨by rw [show (Src.mk (numD 0 ds) keep).items.length = ds.length from numD_length ds 0]; exact hstop H1 a, fun i d hd => ?_⟩
  have hd' : (ds[i]?).map (fun d => PyData.tuple [.int ((0 + i : Nat) : Int), d]) = some d := by rw [← numD_get ds 0 i]; exact hd
  obtain ⟨d0, e0, e1⟩ := Option.map_eq_some_iff.mp hd'
  subst e1
  obtain ⟨g, y⟩ := b i d0 e0
  obtain ⟨g', y'⟩ := hgo i H1 d0 W1 st1 h1 e0 g y
  refine ⟨g', fun v H' yy => ?_⟩
  obtain ⟨T, x, ev, hT, eH, y0⟩ := y' v H' yy
  subst ev; subst eH
  obtain ⟨W2, x2, h2, r2⟩ := y x H1 y0
  obtain ⟨h3, x3⟩ := h2.new (o := .tup [.int (i : Nat), x]) hT
  refine ⟨_, x2.trans x3, h3, T, _, rfl, upd_same, .int (i : Nat), [x], rfl, by show V.int _ = V.int _; rw [Nat.zero_add], x, [], rfl, x3.rep r2, rfl⟩
theorem walk_numL {K : PySem.W.Frag} {a : Addr} {ds : List Pv.D} {keep : Sto → Prop} [DecidablePred keep] (hw : WalkK K (Itl K a) W ⟨ds, keep⟩) : WalkK K (Ite K a) W ⟨numD 0 ds, keep⟩ :=
  walk_num hw (fun H h => h) fun i H d W1 st1 h1 hd g y => ⟨g, fun v H' ⟨T, x, e1, e2, e3, e4⟩ => ⟨T, x, e1, e2, e3, rfl, e4⟩⟩
theorem walk_numT {K : PySem.W.Frag} {a : Addr} {ds : List Pv.D} {keep : Sto → Prop} [DecidablePred keep] (hw : WalkK K (Itt K a) W ⟨ds, keep⟩) : WalkK K (IteT K a) W ⟨numD 0 ds, keep⟩ :=
  walk_num hw (fun H h => h) fun i H d W1 st1 h1 hd g y => ⟨g, fun v H' ⟨T, x, e1, e2, e3, e4⟩ => ⟨T, x, e1, e2, e3, rfl, e4⟩⟩

theorem gi_enum {ea : Expr} {ma : M} {elts : List Expr} {kk : Nat} {tpos : Pos} (hm : X.mg "enumerate" = none) (ha : GE X Wx ea ma) (hg : Gl X "enumerate" := by rfl) (hs : starEach [ea] X.env = [(false, eval ea X.env)] := by rfl)
    (hs1 : starEach (ea :: []) X.env = (false, eval ea X.env) :: starEach [] X.env := by rfl) : GI X Wx (.Tuple elts kk tpos) (.Call (.Name "enumerate" p) [ea] [] pos) (mEnum ma) := by
  refine PI.imp (PI.or (pi_enum hg hm (pa_cons ha pa_nil hs1) hs) (pi_enumT hg hm (pa_cons ha pa_nil hs1) hs)) fun sh H R ⟨W, sl, st, hr, hs, p⟩ => ?_
  have L : ∀ {d1 st1 W1 v1 H1}, Ext W H W1 H1 → HR X.K W1 H1 st1 → rep X.K W1 v1 d1 → (∀ z, d1 ≠ .str z) → (∀ ds, d1 ≠ .tuple ds) → (∀ ds, d1 ≠ Gc ds) → PostI (nv X) sh Wx W1 H1 R (enumOf d1 st1) → ∃ a xs, [v1] = [V.ref a] ∧ SqL X.K H1 a xs ∧ R (Ite X.K a) H1 := by
    intro d1 st1 W1 v1 H1 x1 h1 r1 n1 n2 n3 p1
    cases d1 with
    | list ds => obtain ⟨a, xs, q1, q2, l⟩ := r1; subst q1; exact ⟨a, xs, rfl, .inl (.inl (h1.sub _ _ q2)), p1 W1 H1 _ .refl h1 (walk_numL (walk_list (.inl (.inl q2)) l))⟩
    | dict kvs =>
      rcases rep_dict r1 with ⟨r, a, f1, f2, f3⟩ | ⟨ds', a, xs, f1, f2, f3, f4⟩ | ⟨ds', a, xs, f1, f2, f3, f4⟩ | ⟨ae, ade, ce, nse, fse, he⟩
      · subst f1; subst f2
        unfold enumOf srcOf at p1
        simp only [Int.toNat_natCast] at p1
        obtain ⟨m, hm, _, ho⟩ := h1.at f3
        rw [hm] at p1
        cases m with
        | lst ds => obtain ⟨xs, g1, g2⟩ := ho; exact ⟨a, xs, rfl, .inl (.inl g1), p1 W1 H1 _ .refl h1 (walk_numL (walk_ref f3))⟩
        | ro _ => exact p1.elim
        | dct _ => exact p1.elim
        | dctT _ => exact p1.elim
        | tb _ _ => exact p1.elim
      · subst f1; exact absurd rfl (n3 ds')
      · subst f1; subst f2; exact ⟨a, xs, rfl, sqL_mono h1.sub f3, p1 W1 H1 _ .refl h1 (walk_numL (walk_list f3 f4))⟩
      · subst he; exact p1.elim
    | str z => exact absurd rfl (n1 z)
    | tuple ds => exact absurd rfl (n2 ds)
    | none => exact p1.elim
    | bool _ => exact p1.elim
    | int _ => exact p1.elim
  cases e1 : ma sl st with
  | bad => unfold mEnum at p; rw [e1] at p; exact p.elim
  | exc x s2 =>
    refine .inl (rd_bindI hr hs p fun d1 st1 W1 v1 H1 e2 => ?_)
    rw [e1] at e2; cases e2
  | ok d st1 =>
    by_cases n1 : ∃ z, d = .str z
    · obtain ⟨z, n1⟩ := n1; subst n1; unfold mEnum at p; rw [e1] at p; exact p.elim
    · have pp : PostI (nv X) sh Wx W H R ((ma sl st).bind enumOf) := by
        unfold mEnum at p
        rw [e1] at p ⊢
        simp only [Pv.R.bind_ok] at p ⊢
        split at p
        · exact p.elim
        · exact p
      by_cases n2 : ∃ ds, d = .tuple ds
      · obtain ⟨ds, n2⟩ := n2
        subst n2
        refine .inr (rd_bindI hr hs pp fun d1 st1' W1 v1 H1 e2 x1 h1 s1 r1 p1 => ?_)
        rw [e1] at e2; cases e2
        obtain ⟨a, xs, q1, q2, l⟩ := r1
        subst q1
        exact ⟨a, xs, rfl, .inl (.inl (h1.sub _ _ q2)), p1 W1 H1 _ .refl h1 (walk_numT (walk_tup (fun W2 H2 st2 h2 f => .inl (.inl (h2.sub _ _ (f _ _ q2)))) l))⟩
      · by_cases n3 : ∃ ds, d = Gc ds
        · obtain ⟨ds, n3⟩ := n3
          subst n3
          refine .inr (rd_bindI hr hs pp fun d1 st1' W1 v1 H1 e2 x1 h1 s1 r1 p1 => ?_)
          rw [e1] at e2; cases e2
          obtain ⟨a, xs, f2, f3, f4⟩ := r1
          subst f2
          exact ⟨a, xs, rfl, f3.T h1.sub, p1 W1 H1 _ .refl h1 (walk_numT (walk_tup (fun W2 H2 st2 h2 f => f3.T fun b o e => h2.sub _ _ (f b o e)) f4))⟩
        · refine .inl (rd_bindI hr hs pp fun d1 st1' W1 v1 H1 e2 x1 h1 s1 r1 p1 => ?_)
          rw [e1] at e2; cases e2
          exact L x1 h1 r1 (fun z q => n1 ⟨z, q⟩) (fun z q => n2 ⟨z, q⟩) (fun z q => n3 ⟨z, q⟩) p1
end
end Pv
set_option Elab.async false
set_option linter.all false
set_option maxRecDepth 100000
set_option maxHeartbeats 4000000
namespace Pv
open PySem PySem.Spec L2
open PyProof.Rows hiding St
section
variable {X : Cx} {Wx : WX} {W W' : Wd} {H H' : Hp} {st : Sto} {sl : Sl} {sh : L2.St} {pos p apos : Pos} {N : Nv} {K : PySem.W.Frag}

/-! ### xs.append(e) -/
def fApp (o d : Pv.D) (st : Sto) : R Pv.D :=
  match o with
  | .dict [(.int r, .none)] => (match st[r.toNat]? with | some (.lst ds) => if ds.length < sizeLine then .ok .none (st.set r.toNat (.lst (ds ++ [d]))) else .bad | _ => .bad)
  | _ => .bad
def isLst (st : Sto) (o : Pv.D) : Bool :=
  match o with
  | .dict [(.int r, .none)] => (match st[r.toNat]? with | some (.lst _) => true | _ => false)
  | _ => false
theorem isLst_rep {v : V} {o : Pv.D} (hr : HR K W H st) (h : rep K W v o) (e : isLst st o = true) : ∃ (r : Nat) (a : Addr) (ds : List Pv.D) (xs : List V), o = Rf r ∧ v = .ref a ∧ W.rho[r]? = some a ∧ st[r]? = some (.lst ds) ∧ H a = some (.lst xs) ∧ repL K W xs ds := by
  unfold isLst at e
  split at e
  · rename_i i
    rcases rep_dict h with ⟨r, a, e1, e2, e3⟩ | ⟨ds', a, xs, e1, _, _⟩ | ⟨ds', a, xs, e1, _, _⟩ | ⟨ae, ade, ce, nse, fse, he⟩
    rotate_left
    · cases e1
    · cases e1
    · cases he
    have ei : i = (r : Int) := by injection e1 with q1 _; injection q1 with q2 _; injection q2
    subst ei
    rw [Int.toNat_natCast] at e
    obtain ⟨m, hm, _, ho⟩ := hr.at e3
    rw [hm] at e
    cases m with
    | lst ds => obtain ⟨xs, g1, g2⟩ := ho; exact ⟨r, a, ds, xs, rfl, e2, e3, hm, g1, g2⟩
    | ro _ => cases e
    | dct _ => cases e
    | dctT _ => cases e
    | tb _ _ => cases e
  · cases e
/-- a method of a list of the store: the receiver, then the argument -/
def mLm (f : F2) (a b : M) : M := fun sl st => (a sl st).bind fun o st => if isLst st o = true then (b sl st).bind fun d st => f o d st else .bad
def mApp : M → M → M := mLm fApp
theorem ge_append {ea eb : Expr} {ma mb : M} (ha : GE X Wx ea ma) (hb : GE X Wx eb mb) (hbase : attributeBase ea "append" X.env (eval ea X.env) = eval ea X.env := by rfl)
    (hfew : ((backTo pos (starEach (eb :: []) X.env)).all (fun x => !x.1) && (backToKw pos (keywordEach [] X.env)).all (fun x => x.1.isSome) && decide ((eb :: ([] : List Expr)).length + ([] : List Keyword).length + (if ([] : List Keyword).isEmpty then 0 else 1) < 30)) = true := by rfl)
    (hline : (apos.endLine == pos.line) = true := by rfl) (hs : starEach (eb :: []) X.env = (false, eval eb X.env) :: starEach [] X.env := by rfl) (hplain : (backTo pos (starEach [] X.env)).any (·.1) = false := by rfl) :
    GE X Wx (.Call (.Attribute ea "append" apos) [eb] [] pos) (mApp ma mb) := by
  refine PE.imp (pe_bm PySem.F.plainAttrs_list PySem.F.slot_list_append PySem.F.type_list_append mt_append ha (pa_cons hb pa_nil hs) hbase hfew hline hs hplain) fun sh H Q ⟨W, sl, st, hr, hs, q⟩ => ?_
  refine rd_bind hr hs q fun d1 st1 W1 v1 H1 e1 x1 h1 s1 r1 p1 => ?_
  split at p1
  · rename_i hl
    obtain ⟨r, a, ds, xs, eo, ev, hrho, hst, hH, hL⟩ := isLst_rep h1 r1 hl
    subst eo; subst ev
    refine ⟨.inl ⟨rfl, xs, .inl (.inl hH)⟩, ?_⟩
    refine rd_bind h1 s1 p1 fun d2 st2 W2 v2 H2 e2 x2 h2 s2 r2 p2 => ?_
    have p2 : Post (nv X) W2 H2 Q (fun cls dd H' => Wx cls dd sh H') (match st2[r]? with | some (.lst ds) => if ds.length < sizeLine then .ok .none (st2.set r (.lst (ds ++ [d2]))) else .bad | _ => .bad) := p2
    split at p2
    · rename_i ds2 hd2
      split at p2
      · rename_i hz
        obtain ⟨b, hb, _, xs2, g1, g2⟩ := h2.at' hd2
        rw [x2.at r a hrho] at hb
        cases hb
        refine ⟨a, xs2, v2, rfl, rfl, g1, by rw [repL_length g2]; exact hz, ?_⟩
        obtain ⟨h3, x3⟩ := h2.set (o := .lst (xs2 ++ [v2])) (m := .lst (ds2 ++ [d2])) (x2.at r a hrho) hd2 ⟨_, upd_same, repL_append g2 (repL_one r2)⟩
        exact p2 W2 .non _ x3 h3 rfl
      · exact p2.elim
    · exact p2.elim
  · exact p1.elim
/-! ### a dict's display -/
abbrev Mk2 := List (M × M)
def pairsM : Mk2 → Sl → Sto → R (List (Key × Pv.D))
  | [], _, st => .ok [] st
  | (k, v) :: r, sl, st => (k sl st).bind fun kd st => (v sl st).bind fun vd st => match keyOf kd with
    | some kk => (pairsM r sl st).bind fun ps st => .ok ((kk, vd) :: ps) st
    | none => .bad
def mergeD (kvs more : List (Key × Pv.D)) : List (Key × Pv.D) := more.foldl (fun acc kv => putD acc kv.1 kv.2) kvs
def mDct (ps : Mk2) : M := fun sl st => (pairsM ps sl st).bind fun kvs st => if kvs.length ≤ 15 then .ok (Rf st.length) (st ++ [.dct (mergeD [] kvs)]) else .bad
/-- the pairs' expressions, told -/
inductive GP (X : Cx) (Wx : WX) : List (Option Expr) → List Expr → Mk2 → Prop where
  | nil : GP X Wx [] [] []
  | cons {k v : Expr} {ks : List (Option Expr)} {vs : List Expr} {mk mv : M} {ps : Mk2} (hk : GE X Wx k mk) (hv : GE X Wx v mv) (hr : GP X Wx ks vs ps) : GP X Wx (some k :: ks) (v :: vs) ((mk, mv) :: ps)
def trsOf (N : Nv) (Wx : WX) : Mk2 → List (TE × TE)
  | [] => []
  | (k, v) :: r => (rd N Wx k, rd N Wx v) :: trsOf N Wx r
theorem GP.pps {ks : List (Option Expr)} {vs : List Expr} {ps : Mk2} (h : GP X Wx ks vs ps) : PPs X pos ks vs (trsOf (nv X) Wx ps) := by
  induction h with
  | nil => exact pps_nil
  | cons hk hv _ ih => exact pps_cons hk hv ih
theorem pairs_read : ∀ {ps : Mk2} {W : Wd} {H : Hp} {st : Sto} {Q : VK} {f : List (Key × Pv.D) → Sto → R Pv.D} {Q2 : List (V × V) → Hp → Prop}, HR N.K W H st → SR N.K W sh sl → Post N W H Q (fun cls dd H' => Wx cls dd sh H') ((pairsM ps sl st).bind f) →
    (∀ kvs st1 W1 H1 ks, pairsM ps sl st = .ok kvs st1 → Ext W H W1 H1 → HR N.K W1 H1 st1 → repP N.K W1 ks kvs → Q2 (ks.map fun kv => (kV kv.1, kv.2)) H1) → tPairs (trsOf N Wx ps) sh H Q2
  | [], W, H, st, Q, f, Q2, hr, hs, p, k => k [] st W H [] rfl .refl hr .nil
  | (mk, mv) :: r, W, H, st, Q, f, Q2, hr, hs, p, k => by
    have e : (pairsM ((mk, mv) :: r) sl st).bind f = (mk sl st).bind fun kd st => (mv sl st).bind fun vd st => match keyOf kd with
        | some kk => (pairsM r sl st).bind fun ps st => f ((kk, vd) :: ps) st
        | none => .bad := by
      show ((mk sl st).bind _).bind f = _
      cases mk sl st with
      | ok kd s1 =>
        show ((mv sl s1).bind _).bind f = (mv sl s1).bind _
        cases mv sl s1 with
        | ok vd s2 =>
          show (match keyOf kd with | some kk => (pairsM r sl s2).bind fun ps st => R.ok ((kk, vd) :: ps) st | none => .bad : R _).bind f = _
          cases keyOf kd with
          | none => rfl
          | some kk =>
            show ((pairsM r sl s2).bind _).bind f = (pairsM r sl s2).bind _
            cases pairsM r sl s2 <;> rfl
        | exc _ _ => rfl
        | bad => rfl
      | exc _ _ => rfl
      | bad => rfl
    rw [e] at p
    refine rd_bind hr hs p fun d1 st1 W1 v1 H1 e1 x1 h1 s1 r1 p1 => ?_
    refine rd_bind h1 s1 p1 fun d2 st2 W2 v2 H2 e2 x2 h2 s2 r2 p2 => ?_
    cases hk : keyOf d1 with
    | none => rw [hk] at p2; exact p2.elim
    | some kk =>
      rw [hk] at p2
      refine pairs_read h2 s2 p2 fun kvs st3 W3 H3 ks e3 x3 h3 r3 => ?_
      have := k ((kk, d2) :: kvs) st3 W3 H3 ((kk, v2) :: ks) (by unfold pairsM; rw [e1]; simp only [Pv.R.bind_ok]; rw [e2]; simp only [Pv.R.bind_ok, hk]; rw [e3]; rfl) ((x1.trans x2).trans x3) h3 (.cons ⟨rfl, x3.rep r2⟩ r3)
      rw [keyOf_rep r1 hk]
      exact this
theorem merge_rep {W : Wd} : ∀ {ms : List (Key × V)} {ds : List (Key × Pv.D)} {ks : List (Key × V)} {kvs : List (Key × Pv.D)}, repP K W ms ds → repP K W ks kvs → repP K W (mergeK ks ms) (mergeD kvs ds) := by
  intro ms ds ks kvs h
  induction h generalizing ks kvs with
  | nil => exact fun q => q
  | @cons a b _ _ h _ ih =>
    intro q
    have s := put_rep q b.1 h.2
    show repP K W (mergeK (putK ks a.1 a.2) _) (mergeD (putD kvs b.1 b.2) _)
    rw [h.1]
    exact ih s
/-- an object beside the store -/
theorem HR.beside {o : HO} {a : Addr} (h : HR K W H st) (hp : H a = none) : HR K W (upd H a o) st ∧ Ext W H W (upd H a o) := by
  have hn := h.free hp
  refine ⟨⟨h.len, h.nd, fun b u e => ?_, fun r b m e1 e2 => ?_, tabs_new h.tab hp, h.nt⟩, ⟨fun _ _ e => e, ⟨[], by simp, fun _ z => by cases z⟩, fun b u e _ _ => ?_, fun b e => ?_, fun _ _ e => .inl e⟩⟩
  · have hb : b ≠ a := fun z => by subst z; rw [h.freeF hp] at e; cases e
    rw [upd_ne hb]; exact h.sub _ _ e
  · have hb : b ≠ a := fun z => hn (by rw [← z]; exact List.mem_of_getElem? e1)
    obtain ⟨p, q⟩ := h.obj r b m e1 e2
    exact ⟨p, repO_mono (W := W) (fun _ _ z => z) (fun _ _ z => z) (fun u z => by rw [upd_ne hb]; exact z) q⟩
  · have hb : b ≠ a := fun z => by subst z; rw [hp] at e; cases e
    rw [upd_ne hb]; exact e
  · by_cases hb : b = a
    · subst hb; exact .of hp
    · exact fun u z => e u (by rw [upd_ne hb]; exact z)
/-- an object beside the store is written, and is one of the store now -/
theorem HR.adopt {o o' : HO} {a : Addr} {m : MO} {W0 : Wd} {H0 : Hp} (h : HR K W H st) (x : Ext W0 (upd H0 a o') W H) (hp : H0 a = none) (hn : a ∉ W0.rho) (hF : W0.F a = none) (ho' : plainO o' = true) (htb : noTb m = true) (hm : ∀ H1, H1 a = some o → repO K ⟨W.F, W.rho ++ [a]⟩ H1 a m) :
    HR K ⟨W.F, W.rho ++ [a]⟩ (upd H a o) (st ++ [m]) ∧ Ext W0 H0 ⟨W.F, W.rho ++ [a]⟩ (upd H a o) := by
  have now : (upd H0 a o') a = some o' := upd_same
  have hH : H a = some o' := x.out a o' now hn (plainO_tbl ho')
  have hnW : a ∉ W.rho := by
    obtain ⟨r, hr, hnew⟩ := x.rh
    rw [hr]
    intro z
    rcases List.mem_append.mp z with z | z
    · exact hn z
    · obtain ⟨ps, y⟩ := hnew a z _ now; exact plainO_tbl ho' ps y
  have hFW : W.F a = none := by
    cases q : W.F a with
    | none => rfl
    | some u =>
      rcases x.nf _ _ q with z | z
      · rw [hF] at z; cases z
      · obtain ⟨ps, y⟩ := z _ now; exact (plainO_tbl ho' ps y).elim
  have ne : ∀ {b u}, W.F b = some u → b ≠ a := fun e z => by subst z; rw [hFW] at e; cases e
  refine ⟨⟨by simp [h.len], List.nodup_append.mpr ⟨h.nd, by simp, fun y hy z hz => by
      have : z = a := by simpa using hz
      rw [this]; exact fun q => hnW (q ▸ hy)⟩, fun b u e => by rw [upd_ne (ne e)]; exact h.sub _ _ e, fun r b m' e1 e2 => ?_, by rw [tbs_app _ htb]; exact tabs_set h.tab hH ho', h.nt⟩, ⟨x.fr, ?_, fun b u e hb ht => ?_, fun b e => ?_, fun b u e => ?_⟩⟩
  · by_cases hr : r < W.rho.length
    · rw [List.getElem?_append_left hr] at e1
      rw [List.getElem?_append_left (by rw [← h.len]; exact hr)] at e2
      have hb : b ≠ a := fun z => hnW (by rw [← z]; exact List.mem_of_getElem? e1)
      obtain ⟨p, q⟩ := h.obj r b m' e1 e2
      refine ⟨p, repO_mono (W := W) (fun _ _ z => z) (fun r c z => ?_) (fun u z => by rw [upd_ne hb]; exact z) q⟩
      show (W.rho ++ [a])[r]? = some c
      rw [List.getElem?_append_left (List.getElem?_eq_some_iff.mp z).1]; exact z
    · rw [List.getElem?_append_right (by omega)] at e1
      rw [List.getElem?_append_right (by rw [← h.len]; omega)] at e2
      rw [h.len] at e1
      cases hk : r - st.length with
      | zero =>
        rw [hk] at e1 e2
        simp at e1 e2
        subst e1; subst e2
        exact ⟨hFW, hm _ upd_same⟩
      | succ k => rw [hk] at e1; simp at e1
  · obtain ⟨r, hr, hnew⟩ := x.rh
    refine ⟨r ++ [a], by show W.rho ++ [a] = _; rw [hr, List.append_assoc], fun b hb => ?_⟩
    rcases List.mem_append.mp hb with z | z
    · have nb := hnew b z
      by_cases q : b = a
      · subst q; exact .of hp
      · exact fun u y => nb u (by rw [upd_ne q]; exact y)
    · have : b = a := by simpa using z
      rw [this]; exact .of hp
  · have hb' : b ≠ a := fun z => by subst z; rw [hp] at e; cases e
    rw [upd_ne hb']
    exact x.out b u (by rw [upd_ne hb']; exact e) hb ht
  · by_cases q : b = a
    · subst q; exact .of hp
    · have := x.non b fun u y => e u (by rw [upd_ne q]; exact y)
      exact fun u y => this u (by rw [upd_ne q]; exact y)
  · rcases x.nf b u e with z | z
    · exact .inl z
    · by_cases q : b = a
      · subst q; exact .inr (.of hp)
      · exact .inr fun u y => z u (by rw [upd_ne q]; exact y)
theorem ge_dct {keys : List (Option Expr)} {values : List Expr} {ps : Mk2} (h : GP X Wx keys values ps) (hall : keys.all (·.isSome) = true := by rfl) (hl : keys.length = values.length := by rfl) (h0 : keys ≠ [] := by exact List.cons_ne_nil _ _) (h15 : keys.length ≤ 15 := by decide) :
    GE X Wx (.Dict keys values pos) (mDct ps) := by
  refine PE.imp (pe_disp h.pps hall hl h0 h15) fun sh H Q ⟨W, sl, st, hr, hs, q⟩ => ?_
  intro a ha
  obtain ⟨h1, x1⟩ := hr.beside (o := .dK []) ha
  refine pairs_read (f := fun kvs st => if kvs.length ≤ 15 then .ok (Rf st.length) (st ++ [.dct (mergeD [] kvs)]) else .bad) h1 (hs.ext x1) (Post.ext x1 q) fun kvs st1 W1 H1 ks e2 x2 h2 r2 => ?_
  unfold mDct at q
  rw [e2] at q
  simp only [Pv.R.bind_ok] at q
  split at q
  · rename_i hz
    have hn := hr.free ha
    obtain ⟨h3, x3⟩ := h2.adopt (o := .dK (mergeK [] ks)) (m := .dct (mergeD [] kvs)) x2 ha hn (hr.freeF ha) rfl rfl (fun H9 e => ⟨_, e, repP_mono (W := W1) (fun _ _ z => z) (fun r c z => by
      show (W1.rho ++ [a])[r]? = some c
      rw [List.getElem?_append_left (List.getElem?_eq_some_iff.mp z).1]; exact z) (merge_rep r2 .nil)⟩)
    refine ⟨x2.out a _ upd_same hn (fun _ z => by cases z), ks, rfl, by rw [repP_length r2]; exact hz, ?_⟩
    refine q _ (.ref a) _ x3 h3 ⟨st1.length, a, rfl, rfl, ?_⟩
    show (W1.rho ++ [a])[st1.length]? = some a
    rw [← h2.len]; simp
  · exact q.elim
end
end Pv
set_option Elab.async false
set_option linter.all false
set_option maxRecDepth 100000
set_option maxHeartbeats 4000000
namespace Pv
open PySem PySem.Spec L2
open PyProof.Rows hiding St

/-! ### words for the printed part -/
/-- so many values come out -/
abbrev Ln (ms : Ms) (n : Nat) : Prop := ∀ sl st ds st', ms sl st = .ok ds st' → ds.length = n
theorem ln_nil : Ln msNil 0 := fun sl st ds st' h => by cases h; rfl
theorem ln_cons {m : M} {ms : Ms} {n : Nat} (h : Ln ms n) : Ln (msCons m ms) (n + 1) := fun sl st ds st' e => by
  unfold msCons at e
  cases q : m sl st with
  | ok d s1 =>
    rw [q] at e
    simp only [R.bind_ok] at e
    cases q2 : ms sl s1 with
    | ok es s2 => rw [q2] at e; cases e; simp [h _ _ _ _ q2]
    | exc _ _ => rw [q2] at e; cases e
    | bad => rw [q2] at e; cases e
  | exc _ _ => rw [q] at e; cases e
  | bad => rw [q] at e; cases e
/-- a def of the text as it stands behind the top -/
def DefAt (K : PySem.W.Frag) (mg : Str → Option Value) (x : Str) (st : Stmt) (ps : List Str) : Prop := ∃ f fd, Fun K x x st f fd ∧ mg x = some (.ref f) ∧ Binds K fd ps []
/-- .. that is called by keywords alone, in the parameters' order -/
def DefAtK (K : PySem.W.Frag) (mg : Str → Option Value) (x : Str) (st : Stmt) (ps : List Str) : Prop := ∃ f fd, Fun K x x st f fd ∧ mg x = some (.ref f) ∧ Binds K fd ps [] ∧ BindsK K fd ps ps (fun l => l)
theorem DefAtK.plain {K : PySem.W.Frag} {mg : Str → Option Value} {x : Str} {st : Stmt} {ps : List Str} (h : DefAtK K mg x st ps) : DefAt K mg x st ps := let ⟨f, fd, a, b, c, _⟩ := h; ⟨f, fd, a, b, c⟩
/-- the law's def: its own binding, of every heap -/
def DefAtL (K : PySem.W.Frag) (mg : Str → Option Value) (x : Str) (st : Stmt) (p : Str) : Prop := ∃ f fd, Fun K x x st f fd ∧ mg x = some (.ref f) ∧ ∀ (s : Shared) (u : Value), BindsTo s fd ⟨[u], []⟩ [(p, u)]
def Has (P : Program) (w : World) (K : PySem.W.Frag) (mg : Str → Option Value) (base : Heap) (k : Nat) (x : Str) (ps : List Str) (F : Fn) : Prop := ∃ f fd, Df P w K mg base k x f fd ps F
def HasK (P : Program) (w : World) (K : PySem.W.Frag) (mg : Str → Option Value) (base : Heap) (k : Nat) (x : Str) (ps : List Str) (F : Fn) : Prop := ∃ f fd, Df P w K mg base k x f fd ps F ∧ BindsK K fd ps ps (fun l => l)
theorem HasK.plain {P : Program} {w : World} {K : PySem.W.Frag} {mg : Str → Option Value} {base : Heap} {k : Nat} {x : Str} {ps : List Str} {F : Fn} (h : HasK P w K mg base k x ps F) : Has P w K mg base k x ps F := let ⟨f, fd, a, _⟩ := h; ⟨f, fd, a⟩
/-- a constant of the module -/
def GcAt (K : PySem.W.Frag) (mg : Str → Option Value) (x : Str) (d : D) : Prop := ∃ u v, mg x = some u ∧ RelV v u ∧ GlobIs ⟨K, mg⟩ v d
theorem bk_of {K : PySem.W.Frag} {x qual : Str} {st : Stmt} {f : Addr} {fd : FuncData} {ps : List Str} (F : Fun K x qual st f fd)
    (h : ∀ (kV doc pm : Value) (an : Option Addr) (cdv ct : Value) (ws : List Value), ws.length = ps.length → bindArgs (PySem.W.fnOf x qual (defArgs st) (defBody st) (defScope st) .none kV doc pm an cdv ct) ⟨[], ps.zip ws⟩ = pure (ps.zip ws)) : BindsK K fd ps ps (fun l => l) := by
  obtain ⟨oc, od, kV, doc, pm, an, cdv, ct, osl, rfl, lk, hcd⟩ := F.ex
  exact ⟨fun s ws _ hl => .of_eq (h kV doc pm an cdv ct ws hl), fun l _ => l, fun r _ => r, fun l => l⟩
theorem bl_of {K : PySem.W.Frag} {x qual p : Str} {st : Stmt} {f : Addr} {fd : FuncData} (F : Fun K x qual st f fd)
    (h : ∀ (kV doc pm : Value) (an : Option Addr) (cdv ct u : Value), bindArgs (PySem.W.fnOf x qual (defArgs st) (defBody st) (defScope st) .none kV doc pm an cdv ct) ⟨[u], []⟩ = pure [(p, u)]) (s : Shared) (u : Value) : BindsTo s fd ⟨[u], []⟩ [(p, u)] := by
  obtain ⟨oc, od, kV, doc, pm, an, cdv, ct, osl, rfl, lk, hcd⟩ := F.ex
  exact .of_eq (h kV doc pm an cdv ct u)
/-- nothing runs at level 0 -/
theorem fnG_bad {P : Program} {w : World} {K : PySem.W.Frag} {mg : Str → Option Value} {base : Heap} {k : Nat} {f : Addr} {fd : FuncData} {ps : List Str} : FnG P w K mg base k f fd ps (fun _ _ => .bad) :=
  ⟨fun A outer s H args us vs Q E hr gu e0 b r ⟨_, _, _, _, _, _, z⟩ => z.elim⟩
theorem fnG_bad' {P : Program} {w : World} {K : PySem.W.Frag} {mg : Str → Option Value} {base : Heap} {k : Nat} {f : Addr} {fd : FuncData} {ps : List Str} {F : Fn} (h : F = fun _ _ => .bad) : FnG P w K mg base k f fd ps F := by
  subst h; exact fnG_bad
end Pv
set_option Elab.async false
set_option linter.all false
set_option maxRecDepth 100000
set_option maxHeartbeats 4000000
namespace Pv
open PySem PySem.Spec L2
open PyProof.Rows hiding St

/-! ### reckoning by simp -/
section
variable {sl : Sl} {st : Sto} {d x y : Pv.D} {i : Nat} {a b c : M} {t u : MT} {ms : Ms}
@[simp] theorem e_var : mVar i sl st = (match sl[i]? with | some (some d) => .ok d st | _ => .bad) := rfl
@[simp] theorem e_c : mC d sl st = .ok d st := rfl
@[simp] theorem e_add : mAdd a b sl st = (a sl st).bind fun x st => (b sl st).bind fun y st => fAdd x y st := rfl
@[simp] theorem e_sub : mSub a b sl st = (a sl st).bind fun x st => (b sl st).bind fun y st => onD2 (dInt2 (fun _ _ => true) fun i j => .int (i - j)) x y st := rfl
@[simp] theorem e_mod : mMod a b sl st = (a sl st).bind fun x st => (b sl st).bind fun y st => onD2 (dInt2 (fun _ j => decide (0 < j)) fun i j => .int (i % j)) x y st := rfl
@[simp] theorem e_fdiv : mFdiv a b sl st = (a sl st).bind fun x st => (b sl st).bind fun y st => onD2 (dInt2 (fun _ j => decide (0 < j ∧ j < 1073741824)) fun i j => .int (i / j)) x y st := rfl
@[simp] theorem e_pow : mPow a b sl st = (a sl st).bind fun x st => (b sl st).bind fun y st => onD2 (dInt2 (fun i j => decide (0 ≤ j ∧ j ≤ 1000000 ∧ i.natAbs < 2 ^ 64)) fun i j => .int (i ^ j.toNat)) x y st := rfl
@[simp] theorem e_mul : mMulS a b sl st = (a sl st).bind fun x st => (b sl st).bind fun y st => onD2 dMulS x y st := rfl
@[simp] theorem e_neg : mNeg a sl st = (a sl st).bind fun x st => onD1 dNeg x st := rfl
@[simp] theorem e_cmp {op : CmpOp} : mCmp op a b sl st = (a sl st).bind fun x st => (b sl st).bind fun y st => onD2 (dCmp op) x y st := rfl
@[simp] theorem e_isN : mIsN a sl st = (a sl st).bind fun x st => .ok (.bool (isNone x)) st := rfl
@[simp] theorem e_notN : mNotN a sl st = (a sl st).bind fun x st => .ok (.bool (!isNone x)) st := rfl
@[simp] theorem e_chain {op op' : CmpOp} : mChain op op' a b c sl st = (a sl st).bind fun x st => (b sl st).bind fun y st => (match onD2 (dCmp op) x y st with
  | .ok (.bool true) st => (c sl st).bind fun z st => onD2 (dCmp op') y z st
  | .ok (.bool false) st => .ok (.bool false) st
  | _ => .bad) := rfl
@[simp] theorem e_tru : mTru a sl st = (a sl st).bind fun d st => lift (truD st d) st := rfl
@[simp] theorem e_tb : mTb a sl st = (a sl st).bind fun d st => (match d with | .bool b => .ok b st | _ => .bad) := rfl
@[simp] theorem e_notT : mNotT t sl st = (t sl st).bind fun b st => .ok (!b) st := rfl
@[simp] theorem e_andT : mAndT t u sl st = (t sl st).bind fun b st => if b = true then u sl st else .ok false st := rfl
@[simp] theorem e_orT : mOrT t u sl st = (t sl st).bind fun b st => if b = true then .ok true st else u sl st := rfl
@[simp] theorem e_and : mAnd a b sl st = (a sl st).bind fun x st => (match truD st x with | some true => b sl st | some false => .ok x st | none => .bad) := rfl
@[simp] theorem e_or : mOr a b sl st = (a sl st).bind fun x st => (match truD st x with | some true => .ok x st | some false => b sl st | none => .bad) := rfl
@[simp] theorem e_not : mNot a sl st = (a sl st).bind fun x st => (match truD st x with | some k => .ok (.bool (!k)) st | none => .bad) := rfl
@[simp] theorem e_if : mIf t a b sl st = (t sl st).bind fun k st => if k = true then a sl st else b sl st := rfl
@[simp] theorem e_msNil : msNil sl st = .ok [] st := rfl
@[simp] theorem e_msCons : msCons a ms sl st = (a sl st).bind fun x st => (ms sl st).bind fun xs st => .ok (x :: xs) st := rfl
@[simp] theorem e_tup : mTup ms sl st = (ms sl st).bind mkTup := rfl
@[simp] theorem e_lst : mLst ms sl st = (ms sl st).bind mkLst := rfl
@[simp] theorem e_lstM : mLstM ms sl st = (ms sl st).bind mkLstM := rfl
@[simp] theorem e_ix : mIx a b sl st = (a sl st).bind fun x st => (b sl st).bind fun y st => fIx x y st := rfl
@[simp] theorem e_moNone : moNone sl st = .ok none st := rfl
@[simp] theorem e_moSome : moSome a sl st = (a sl st).bind fun d st => (match d with | .int i => .ok (some i) st | _ => .bad) := rfl
@[simp] theorem e_sl {lo hi : MO?} : mSl a lo hi sl st = (a sl st).bind fun x st => (lo sl st).bind fun l st => (hi sl st).bind fun h st => fSl l h x st := rfl
@[simp] theorem e_len : mLen a sl st = (a sl st).bind fun x st => onD1 dLen x st := rfl
@[simp] theorem e_int : mInt a sl st = (a sl st).bind fun x st => onD1 dInt x st := rfl
@[simp] theorem e_tuple : mTuple a sl st = (a sl st).bind fun x st => fTuple x st := rfl
@[simp] theorem e_list : mList a sl st = (a sl st).bind fun x st => onD1 dList x st := rfl
@[simp] theorem e_all : mAll a sl st = (a sl st).bind fun x st => onD1 dAll x st := rfl
@[simp] theorem e_any : mAny a sl st = (a sl st).bind fun x st => onD1 dAny x st := rfl
@[simp] theorem e_isi {T : Ty} : mIsi T a sl st = (a sl st).bind fun d st => lift ((tyD st d).map fun t => .bool (t.sub T)) st := rfl
@[simp] theorem e_repr : mRepr a sl st = (a sl st).bind fun d st => lift (reprD st d) st := rfl
@[simp] theorem e_rev : mRev a sl st = (a sl st).bind fun x st => onD1 dRev x st := rfl
@[simp] theorem e_call {F : Fn} : mCall F ms sl st = (ms sl st).bind F := rfl
@[simp] theorem e_seq {p q : MS} : sSeq p q sl st = (p sl st).bind q := rfl
@[simp] theorem e_snil : sNil sl st = .nx sl st := rfl
@[simp] theorem e_asg {g : MG} : sAsg a g sl st = (a sl st).thenS fun d st => (g d sl st).thenS .nx := rfl
@[simp] theorem e_par2 {j : Nat} : sPar2 i j ms sl st = (ms sl st).thenS (set2 i j sl) := rfl
@[simp] theorem e_par3 {j l : Nat} : sPar3 i j l ms sl st = (ms sl st).thenS (set3 i j l sl) := rfl
@[simp] theorem e_expr : sExpr a sl st = (a sl st).thenS fun _ st => .nx sl st := rfl
@[simp] theorem e_brk : sBrk sl st = .bk sl st := rfl
@[simp] theorem e_cont : sCont sl st = .ct sl st := rfl
@[simp] theorem e_ret : sRet a sl st = (a sl st).thenS fun d st => .rt d st := rfl
@[simp] theorem e_retN : sRetN sl st = .rt .none st := rfl
@[simp] theorem e_sif {p q : MS} : sIf t p q sl st = (t sl st).thenS fun k st => if k = true then p sl st else q sl st := rfl
@[simp] theorem e_tgName : tgName i d sl st = .ok (sl.set i (some d)) st := rfl
@[simp] theorem e_tgTup {n : Nat} {g : MGs} {ds : List Pv.D} : tgTup n g (.tuple ds) sl st = if ds.length = n then g ds sl st else .bad := rfl
@[simp] theorem e_tgCons {g : MG} {r : MGs} {ds : List Pv.D} : tgCons g r (d :: ds) sl st = (g d sl st).bind (r ds) := rfl
@[simp] theorem e_tgNil : tgNil [] sl st = .ok sl st := rfl
@[simp] theorem e_tgSub : tgSub a b d sl st = (a sl st).bind fun o st => (b sl st).bind fun i st => (match setO st o i d with | some st' => .ok sl st' | none => .bad) := rfl
@[simp] theorem e_iter : mIter a sl st = (a sl st).bind srcOf := rfl
@[simp] theorem e_for {fg : List Nat} {mi : MI} {g : MG} {p : MS} : sFor fg mi g p sl st = (mi sl st).thenS fun s st => forL s.keep g p fg s.items (wipeD sl fg) st := rfl
@[simp] theorem e_app : mApp a b sl st = (a sl st).bind fun o st => if isLst st o = true then (b sl st).bind fun d st => fApp o d st else .bad := rfl
@[simp] theorem e_tyes : tYesM sl st = .ok true st := rfl
end
section
variable {α : Type} {sl : Sl} {st : Sto} {ds : List Pv.D} {d : Pv.D} {x : XV}
@[simp] theorem rs_nx {f : Sl → Sto → RS} : (RS.nx sl st).bind f = f sl st := rfl
@[simp] theorem rs_rt {f : Sl → Sto → RS} : (RS.rt d st).bind f = .rt d st := rfl
@[simp] theorem rs_exc {f : Sl → Sto → RS} : (RS.exc x st).bind f = .exc x st := rfl
@[simp] theorem rs_bk {f : Sl → Sto → RS} : (RS.bk sl st).bind f = .bk sl st := rfl
@[simp] theorem rs_ct {f : Sl → Sto → RS} : (RS.ct sl st).bind f = .ct sl st := rfl
@[simp] theorem th_ok {a : α} {f : α → Sto → RS} : (R.ok a st).thenS f = f a st := rfl
@[simp] theorem th_exc {f : α → Sto → RS} : (R.exc x st : R α).thenS f = .exc x st := rfl
@[simp] theorem end_nx : endR (.nx sl st) = .ok .none st := rfl
@[simp] theorem end_rt : endR (.rt d st) = .ok d st := rfl
@[simp] theorem end_exc : endR (.exc x st) = .exc x st := rfl
theorem fin_same {n : Nat} (h : st.length = n) : finR n (.ok d st) = .ok d st := by unfold finR; simp [h]
@[simp] theorem fin_now : finR st.length (.ok d st) = .ok d st := fin_same rfl
theorem fnP_e {n : Nat} {p : MS} : fnP n p ds st = finR st.length (endR (p (startD n ds) st)) := rfl
theorem fnK_e {n : Nat} {p : MS} : fnK n p ds st = endR (p (startD n ds) st) := rfl
@[simp] theorem tru_b {b : Bool} : truD st (.bool b) = some b := rfl
@[simp] theorem tru_n : truD st .none = some false := rfl
@[simp] theorem tru_i {i : Int} : truD st (.int i) = some (i != 0) := rfl
@[simp] theorem tru_l {xs : List Pv.D} : truD st (.list xs) = some (!xs.isEmpty) := rfl
@[simp] theorem tru_t {xs : List Pv.D} : truD st (.tuple xs) = some (!xs.isEmpty) := rfl
@[simp] theorem on1 {g : Pv.D → Option Pv.D} {y : Pv.D} : onD1 g y st = lift (g (deref st y)) st := rfl
@[simp] theorem on2 {g : Pv.D → Pv.D → Option Pv.D} {y z : Pv.D} : onD2 g y z st = lift (g (deref st y) (deref st z)) st := rfl
@[simp] theorem add_tt {xs ys : List Pv.D} : fAdd (.tuple xs) (.tuple ys) st = lift (dAddT xs ys) st := rfl
theorem add_ll {xs ys : List Pv.D} : fAdd (.list xs) (.list ys) st = lift (dAdd (.list xs) (.list ys)) st := rfl
@[simp] theorem add_ii {i j : Int} : fAdd (.int i) (.int j) st = .ok (.int (i + j)) st := rfl
@[simp] theorem ty_n : tyD st .none = some .non := rfl
@[simp] theorem ty_b {b : Bool} : tyD st (.bool b) = some .bool := rfl
@[simp] theorem ty_i {i : Int} : tyD st (.int i) = some .int := rfl
@[simp] theorem ty_s {z : Str} : tyD st (.str z) = some .str := rfl
@[simp] theorem ty_l {xs : List Pv.D} : tyD st (.list xs) = some .list := rfl
@[simp] theorem ty_t {xs : List Pv.D} : tyD st (.tuple xs) = some .tuple := rfl
end
end Pv
set_option Elab.async false
set_option linter.all false
set_option maxRecDepth 100000
set_option maxHeartbeats 4000000
namespace Pv
open PySem PySem.Spec L2
open PyProof.Rows hiding St

/-! ### how long a datum's repr is -/
mutual
def wt : Pv.D → Nat
  | .none => 8
  | .bool _ => 8
  | .int i => if i.natAbs < 10 ^ 62 then 64 else 2 ^ 30
  | .str z => 10 * z.length + 4
  | .list ds => wtL ds + 4
  | .tuple ds => wtL ds + 4
  | .dict _ => 2 ^ 30
def wtL : List Pv.D → Nat
  | [] => 0
  | d :: ds => wt d + 4 + wtL ds
end
theorem int_len {i : Int} (h : i.natAbs < 10 ^ 62) : (Str.ofString (toString i)).length ≤ 63 := by
  cases i with
  | ofNat n =>
    have : ((Int.ofNat n)) < 10 ^ 62 := by have h' : n < 10 ^ 62 := h; simp only [Int.ofNat_eq_natCast]; omega
    exact Nat.le_succ_of_le (toString_length_le (v := Int.ofNat n) (Int.natCast_nonneg n) (by decide) this)
  | negSucc m =>
    have h' : m + 1 < 10 ^ 62 := h
    have e : toString (Int.negSucc m) = "-" ++ toString ((m + 1 : Nat) : Int) := rfl
    have q : (Str.ofString (toString ((m + 1 : Nat) : Int))).length ≤ 62 := toString_length_le (Int.natCast_nonneg _) (by decide) (by omega)
    rw [e]
    have e2 : (Str.ofString ("-" ++ toString ((m + 1 : Nat) : Int))).length = 1 + (Str.ofString (toString ((m + 1 : Nat) : Int))).length := by
      rw [PyProof.Rows.ofString_length, PyProof.Rows.ofString_length, String.toList_append, List.length_append]
      rfl
    omega
theorem listText_le (ts : List Str) : (listText ts).length ≤ piled ts + 2 := by
  cases ts with
  | nil => exact (by decide : ((listText [])).length ≤ 2)
  | cons t r =>
    have h := textFrom_length_pos r 1 (("[" : Str) ++ (if (0 : Nat) > 0 then ", " else "" : String) ++ t) (Nat.succ_pos 0)
    have e : ((("[" : Str) ++ (if (0 : Nat) > 0 then ", " else "" : String) ++ t)).length = 1 + t.length := by
      rw [strLen_append, strLen_append]; rfl
    unfold listText
    rw [strLen_append]
    show (textFrom 1 (("[" : Str) ++ (if (0 : Nat) > 0 then ", " else "" : String) ++ t) r).length + 1 ≤ _
    rw [h, e, piled_cons]; omega
theorem tupleText_le (ts : List Str) : (tupleText ts).length ≤ piled ts + 4 := by
  unfold tupleText
  rw [strLen_append, strLen_append]
  have e1 : ((("(" : String) : Str)).length = 1 := rfl
  have e3 : (((if ts.length == 1 then ",)" else ")" : String) : Str)).length ≤ 2 := by split <;> decide
  cases ts with
  | nil => rw [e1]; have : (Str.join ", " []).length = 0 := rfl; omega
  | cons t r => have := join_length_add (t :: r) (by simp); omega
mutual
theorem wt_shown : ∀ d : Pv.D, d.canLay0 = true → wt d < 2 ^ 30 → d.showable = true ∧ d.shown.length ≤ wt d
  | .none, _, _ => ⟨rfl, (by decide : (("None" : Str)).length ≤ 8)⟩
  | .bool b, _, _ => ⟨rfl, by cases b <;> exact (by decide)⟩
  | .int i, _, h => by
    unfold wt at h ⊢
    split at h
    · rename_i hi
      rw [if_pos hi]
      refine ⟨?_, Nat.le_succ_of_le (int_len hi)⟩
      simp only [PyData.showable, decide_eq_true_eq]
      by_cases hz : i.natAbs = 0
      · rw [hz]; decide
      · have l1 : i.natAbs.log2 < 207 := (Nat.log2_lt hz).mpr (Nat.lt_of_lt_of_le hi (by decide))
        omega
    · omega
  | .str z, hc, h => by
    refine ⟨rfl, ?_⟩
    have hc' : z.cps.all (· < 0x110000) = true := by simpa only [PyData.canLay0, PyData.strOk] using hc
    have := StrLaws.reprText_len z fun c h => by
      have := Array.all_eq_true'.mp hc' c (by simpa using h)
      simp at this; omega
    unfold wt
    show (reprText z).length ≤ _
    omega
  | .list ds, hc, h => by
    unfold wt at h ⊢
    obtain ⟨a, b⟩ := wtL_shown ds (by simpa [PyData.canLay0] using hc) (by omega)
    refine ⟨by simpa [PyData.showable] using a, ?_⟩
    simp only [PyData.shown]
    have := listText_le (PyData.shownAll ds)
    omega
  | .tuple ds, hc, h => by
    unfold wt at h ⊢
    obtain ⟨a, b⟩ := wtL_shown ds (by simpa [PyData.canLay0] using hc) (by omega)
    refine ⟨by simpa [PyData.showable] using a, ?_⟩
    simp only [PyData.shown]
    have := tupleText_le (PyData.shownAll ds)
    omega
  | .dict _, hc, _ => by simp [PyData.canLay0] at hc
theorem wtL_shown : ∀ ds : List Pv.D, PyData.canLayAll0 ds = true → wtL ds < 2 ^ 30 → PyData.showableAll ds = true ∧ piled (PyData.shownAll ds) ≤ wtL ds
  | [], _, _ => ⟨rfl, Nat.le_refl _⟩
  | d :: ds, hc, h => by
    unfold wtL at h ⊢
    simp only [PyData.canLayAll0, Bool.and_eq_true] at hc
    obtain ⟨a, b⟩ := wt_shown d hc.1 (by omega)
    obtain ⟨a2, b2⟩ := wtL_shown ds hc.2 (by omega)
    refine ⟨by simp [PyData.showableAll, a, a2], ?_⟩
    simp only [PyData.shownAll, piled_cons]
    omega
end
mutual
theorem wt_len : ∀ ds : List Pv.D, 4 * ds.length ≤ wtL ds
  | [] => Nat.le_refl _
  | d :: ds => by unfold wtL; have := wt_len ds; rw [List.length_cons]; omega
end
theorem wtL_append (xs ys : List Pv.D) : wtL (xs ++ ys) = wtL xs + wtL ys := by
  induction xs with
  | nil => simp [wtL]
  | cons x xs ih => simp only [List.cons_append, wtL, ih]; omega
theorem wtL_mem {d : Pv.D} : ∀ {ds : List Pv.D}, d ∈ ds → wt d ≤ wtL ds
  | e :: ds, h => by
    unfold wtL
    rcases List.mem_cons.mp h with q | q
    · subst q; omega
    · have := wtL_mem q; omega
theorem wtL_take (n : Nat) (ds : List Pv.D) : wtL (ds.take n) ≤ wtL ds := by
  have h : wtL ds = wtL (ds.take n) + wtL (ds.drop n) := by rw [← wtL_append, List.take_append_drop]
  omega
theorem wtL_drop (n : Nat) (ds : List Pv.D) : wtL (ds.drop n) ≤ wtL ds := by
  have h : wtL ds = wtL (ds.take n) + wtL (ds.drop n) := by rw [← wtL_append, List.take_append_drop]
  omega
theorem layAll_append (xs ys : List Pv.D) : PyData.canLayAll0 (xs ++ ys) = (PyData.canLayAll0 xs && PyData.canLayAll0 ys) := by
  induction xs with
  | nil => simp [PyData.canLayAll0]
  | cons x xs ih => simp [PyData.canLayAll0, ih, Bool.and_assoc]
theorem depthAll_append (xs ys : List Pv.D) : PyData.depthAll (xs ++ ys) = max (PyData.depthAll xs) (PyData.depthAll ys) := by
  induction xs with
  | nil => simp [PyData.depthAll]
  | cons x xs ih => simp [PyData.depthAll, ih, Nat.max_assoc]
theorem layAll_iff (xs : List Pv.D) : PyData.canLayAll0 xs = true ↔ ∀ x ∈ xs, x.canLay0 = true := by
  induction xs with
  | nil => simp [PyData.canLayAll0]
  | cons x xs ih => simp [PyData.canLayAll0, ih]
theorem depthAll_le (xs : List Pv.D) (n : Nat) : PyData.depthAll xs ≤ n ↔ ∀ x ∈ xs, x.depth ≤ n := by
  induction xs with
  | nil => simp [PyData.depthAll]
  | cons x xs ih => simp [PyData.depthAll, ih, Nat.max_le]
/-- data as the laws' papers make them -/
structure Ok (d : Pv.D) (n k : Nat) : Prop where
  lay : d.canLay0 = true
  wt : wt d ≤ n
  dp : d.depth ≤ k
theorem Ok.mono {d : Pv.D} {n k n' k' : Nat} (h : Ok d n k) (hn : n ≤ n') (hk : k ≤ k') : Ok d n' k' := ⟨h.lay, Nat.le_trans h.wt hn, Nat.le_trans h.dp hk⟩
theorem deref_ok {d : Pv.D} (h : d.canLay0 = true) (st : Sto) : deref st d = d := by
  cases d with
  | dict _ => simp [PyData.canLay0] at h
  | _ => rfl
theorem repr_ok {d : Pv.D} {n k : Nat} (h : Ok d n k) (hn : n ≤ 2 ^ 24) (hk : k ≤ 100) (st : Sto) : reprD st d = some (.str d.shown) := by
  obtain ⟨a, b⟩ := wt_shown d h.lay (by have := h.wt; omega)
  unfold reprD
  rw [deref_ok h.lay, if_pos ⟨h.lay, a, Nat.le_trans h.dp hk, by have := h.wt; rw [sizeLine_eq]; omega⟩]
end Pv
set_option Elab.async false
set_option linter.all false
set_option maxRecDepth 100000
set_option maxHeartbeats 4000000
namespace Pv
open PySem PySem.Spec L2
open PyProof.Rows hiding St

theorem char_toNat_inj {a b : Char} (h : a.toNat = b.toNat) : a = b := Char.ext (UInt32.toNat_inj.mp h)
theorem map_toNat_inj : ∀ {a b : List Char}, a.map Char.toNat = b.map Char.toNat → a = b
  | [], [], _ => rfl
  | [], _ :: _, h => by cases h
  | _ :: _, [], h => by cases h
  | x :: xs, y :: ys, h => by
    simp only [List.map_cons, List.cons.injEq] at h
    rw [char_toNat_inj h.1, map_toNat_inj h.2]
@[simp] theorem ofString_eq (a b : String) : (Str.ofString a = Str.ofString b) = (a = b) := by
  apply propext
  constructor
  · intro h
    rw [Str.ofString_eq_toList, Str.ofString_eq_toList] at h
    have h1 : (a.toList.map Char.toNat) = (b.toList.map Char.toNat) := by simpa using h
    exact String.ext (map_toNat_inj h1)
  · intro h; rw [h]
@[simp] theorem ofString_beq (a b : String) : (Str.ofString a == Str.ofString b) = (a == b) := by
  by_cases h : a = b
  · subst h; simp
  · have h2 : ¬ Str.ofString a = Str.ofString b := by rw [ofString_eq]; exact h
    rw [beq_eq_false_iff_ne.mpr h2, beq_eq_false_iff_ne.mpr h]
/-! ### comparisons of plain values -/
section
variable {i j : Int} {a b : Str} {xs ys : List Pv.D}
@[simp] theorem cmp_lt_i : dCmp .Lt (.int i) (.int j) = some (.bool (decide (i < j))) := by
  show some (PyData.bool (cmpR .Lt (cmpD (.int i) (.int j)))) = _
  unfold cmpR cmpD
  congr 2
  by_cases h : i < j
  · simp [h]
  · by_cases h2 : i = j <;> simp [h, h2]
@[simp] theorem cmp_le_i : dCmp .LtE (.int i) (.int j) = some (.bool (decide (i ≤ j))) := by
  show some (PyData.bool (cmpR .LtE (cmpD (.int i) (.int j)))) = _
  unfold cmpR cmpD
  congr 2
  by_cases h : i < j
  · have : i ≤ j := by omega
    simp [h, this]
  · by_cases h2 : i = j
    · simp [h2]
    · have : ¬ i ≤ j := by omega
      simp [h, h2, this]
@[simp] theorem cmp_gt_i : dCmp .Gt (.int i) (.int j) = some (.bool (decide (j < i))) := by
  show some (PyData.bool (cmpR .Gt (cmpD (.int i) (.int j)))) = _
  unfold cmpR cmpD
  congr 2
  by_cases h : i < j
  · have : ¬ j < i := by omega
    simp [h, this]
  · by_cases h2 : i = j
    · simp [h2]
    · have : j < i := by omega
      simp [h, h2, this]
@[simp] theorem cmp_ge_i : dCmp .GtE (.int i) (.int j) = some (.bool (decide (j ≤ i))) := by
  show some (PyData.bool (cmpR .GtE (cmpD (.int i) (.int j)))) = _
  unfold cmpR cmpD
  congr 2
  by_cases h : i < j
  · have : ¬ j ≤ i := by omega
    simp [h, this]
  · have : j ≤ i := by omega
    by_cases h2 : i = j <;> simp [h, h2, this]
@[simp] theorem cmp_eq_i : dCmp .Eq (.int i) (.int j) = some (.bool (decide (i = j))) := by
  show some (PyData.bool (i == j)) = _
  rfl
@[simp] theorem cmp_ne_i : dCmp .NotEq (.int i) (.int j) = some (.bool (!decide (i = j))) := by
  show some (PyData.bool (!(i == j))) = _
  rfl
@[simp] theorem cmp_eq_s : dCmp .Eq (.str a) (.str b) = some (.bool (a == b)) := rfl
@[simp] theorem cmp_ne_s : dCmp .NotEq (.str a) (.str b) = some (.bool (!(a == b))) := rfl
theorem eqB_of {x y : Pv.D} (h : layOk x y = true) : dEqB x y = some (PyData.eqv x y) := by
  unfold dEqB
  split
  · rfl
  · rw [if_pos h]
theorem lay_of {x y : Pv.D} (hx : x.canLay0 = true) (hy : y.canLay0 = true) (hd : x.depth ≤ 64) : layOk x y = true := by
  unfold layOk
  rw [hx, hy]
  simp only [Bool.true_and, decide_eq_true_eq]
  omega
theorem lay_of' {x y : Pv.D} (hx : x.canLay0 = true) (hy : y.canLay0 = true) (hd : y.depth ≤ 64) : layOk x y = true := by
  unfold layOk
  rw [hx, hy]
  simp only [Bool.true_and, decide_eq_true_eq]
  omega
theorem cmp_eq {x y : Pv.D} (h : layOk x y = true) : dCmp .Eq x y = some (.bool (PyData.eqv x y)) := by
  show obD (dEqB x y) = _
  rw [eqB_of h]; rfl
theorem cmp_ne {x y : Pv.D} (h : layOk x y = true) : dCmp .NotEq x y = some (.bool (!PyData.eqv x y)) := by
  show obD ((dEqB x y).map (!·)) = _
  rw [eqB_of h]; rfl
@[simp] theorem eqv_nil_l (xs : List Pv.D) : PyData.eqv (.list xs) (.list []) = xs.isEmpty := by cases xs <;> rfl
@[simp] theorem eqv_nil_t (xs : List Pv.D) : PyData.eqv (.tuple xs) (.tuple []) = xs.isEmpty := by cases xs <;> rfl
theorem lay_nil {y : Pv.D} (hy : y.canLay0 = true) : layOk y (.list []) = true ∧ layOk y (.tuple []) = true := by
  unfold layOk
  rw [hy]
  have h : min y.depth 1 ≤ 64 := by omega
  exact ⟨decide_eq_true h, decide_eq_true h⟩
theorem cmp_eq_nilL (h : PyData.canLayAll0 xs = true) : dCmp .Eq (.list xs) (.list []) = some (.bool xs.isEmpty) := by
  rw [cmp_eq (lay_nil (y := .list xs) h).1, eqv_nil_l]
theorem cmp_ne_nilL (h : PyData.canLayAll0 xs = true) : dCmp .NotEq (.list xs) (.list []) = some (.bool (!xs.isEmpty)) := by
  rw [cmp_ne (lay_nil (y := .list xs) h).1, eqv_nil_l]
@[simp] theorem cmp_ne_nn : dCmp .NotEq (.list []) (.list []) = some (.bool false) := cmp_ne_nilL rfl
@[simp] theorem cmp_eq_nn : dCmp .Eq (.list []) (.list []) = some (.bool true) := cmp_eq_nilL rfl
theorem cmp_eq_nilT (h : PyData.canLayAll0 xs = true) : dCmp .Eq (.tuple xs) (.tuple []) = some (.bool xs.isEmpty) := by
  rw [cmp_eq (lay_nil (y := .tuple xs) h).2, eqv_nil_t]
theorem cmp_ne_nilT (h : PyData.canLayAll0 xs = true) : dCmp .NotEq (.tuple xs) (.tuple []) = some (.bool (!xs.isEmpty)) := by
  rw [cmp_ne (lay_nil (y := .tuple xs) h).2, eqv_nil_t]
end
@[simp] theorem fin_cons {d : Pv.D} {a : MO} {st : Sto} : finR (st.length + 1) (.ok d (a :: st)) = .ok d (a :: st) := fin_same rfl
/-! ### the feed -/
def fd (cs : List Pv.D) (sp lf dr : Int) : MO := .dct [(.inr "cells", .list cs), (.inr "spot", .int sp), (.inr "left", .int lf), (.inr "drawn", .int dr)]
def IntsD (cs : List Pv.D) : Prop := ∀ c ∈ cs, ∃ i, c = .int i
section
variable {cs : List Pv.D} {sp lf dr v : Int} {st : Sto}
theorem ints_lay {cs : List Pv.D} (h : IntsD cs) : PyData.canLayAll0 cs = true := (layAll_iff cs).mpr fun x hx => by obtain ⟨i, e⟩ := h x hx; subst e; rfl
theorem fd_cells : fIx (Rf 0) (.str "cells") (fd cs sp lf dr :: st) = .ok (.list cs) (fd cs sp lf dr :: st) := by
  unfold fIx dlook fd; simp [keyOf, lookD]
theorem fd_spot : fIx (Rf 0) (.str "spot") (fd cs sp lf dr :: st) = .ok (.int sp) (fd cs sp lf dr :: st) := by
  unfold fIx dlook fd; simp [keyOf, lookD]
theorem fd_left : fIx (Rf 0) (.str "left") (fd cs sp lf dr :: st) = .ok (.int lf) (fd cs sp lf dr :: st) := by
  unfold fIx dlook fd; simp [keyOf, lookD]
theorem fd_drawn : fIx (Rf 0) (.str "drawn") (fd cs sp lf dr :: st) = .ok (.int dr) (fd cs sp lf dr :: st) := by
  unfold fIx dlook fd; simp [keyOf, lookD]
theorem set_spot : setO (fd cs sp lf dr :: st) (Rf 0) (.str "spot") (.int v) = some (fd cs v lf dr :: st) := by
  unfold setO fd; simp [keyOf, putD, sizeLine_eq]
theorem set_left : setO (fd cs sp lf dr :: st) (Rf 0) (.str "left") (.int v) = some (fd cs sp v dr :: st) := by
  unfold setO fd; simp [keyOf, putD, sizeLine_eq]
theorem set_drawn : setO (fd cs sp lf dr :: st) (Rf 0) (.str "drawn") (.int v) = some (fd cs sp lf v :: st) := by
  unfold setO fd; simp [keyOf, putD, sizeLine_eq]
/-- a cell at any place -/
theorem at_mod {j : Int} (h : IntsD cs) (hne : cs ≠ []) : ∃ c, fIx (.list cs) (.int (j % (cs.length : Int))) st = .ok (.int c) st := by
  have hp : 0 < (cs.length : Int) := by
    have : cs.length ≠ 0 := fun z => hne (List.length_eq_zero_iff.mp z)
    omega
  have h0 := Int.emod_nonneg j (by omega : (cs.length : Int) ≠ 0)
  have h1 := Int.emod_lt_of_pos j hp
  obtain ⟨k, hk⟩ : ∃ k : Nat, j % (cs.length : Int) = (k : Int) := ⟨_, (Int.toNat_of_nonneg h0).symm⟩
  rw [hk] at h1 ⊢
  have hlt : k < cs.length := by omega
  obtain ⟨c, hc⟩ := h cs[k] (List.getElem_mem hlt)
  refine ⟨c, ?_⟩
  have e : dIx (.list cs) (.int (k : Int)) = some (.int c) := by
    show atI cs (k : Int) = _
    unfold atI ixN
    rw [if_pos (by omega), if_pos (by omega)]
    simp [hlt, hc]
  unfold fIx dlook
  simp [e]
theorem isLst_fd : isLst (fd cs sp lf dr :: st) (Rf 0) = false := by unfold isLst fd; simp
end

/-! ### comprehensions that change nothing -/
theorem lcL_map {keep : Sto → Prop} [DecidablePred keep] {t : CT} {tt : MT} {te : M} {sl : Sl} {st : Sto} (f : Pv.D → Pv.D) (p : Pv.D → Bool) (hk : keep st) : ∀ {ds : List Pv.D},
    (∀ d ∈ ds, ∃ sl2, ctSet t d sl = some sl2 ∧ tt sl2 st = .ok (p d) st ∧ (p d = true → te sl2 st = .ok (f d) st)) → lcL keep t tt te sl ds st = .ok ((ds.filter p).map f) st
  | [], _ => by unfold lcL; rw [if_pos hk]; rfl
  | d :: ds, h => by
    obtain ⟨sl2, h1, h2, h3⟩ := h d List.mem_cons_self
    have ih := lcL_map f p hk (ds := ds) fun x hx => h x (List.mem_cons_of_mem _ hx)
    unfold lcL
    rw [if_pos hk, h1]
    simp only [h2]
    cases hp : p d with
    | true => simp only [h3 hp, ih, List.filter_cons, hp, if_true, List.map_cons]
    | false => simp [ih, List.filter_cons, hp]
theorem mLc_map {mi : MI} {t : CT} {tt : MT} {te : M} {vs : List Nat} {sl : Sl} {st : Sto} {ds : List Pv.D} {keep : Sto → Prop} [DecidablePred keep] (f : Pv.D → Pv.D) (p : Pv.D → Bool) (hi : mi sl st = .ok ⟨ds, keep⟩ st) (hk : keep st) (hz : ds.length ≤ sizeLine)
    (h : ∀ d ∈ ds, ∃ sl2, ctSet t d (wipeD sl vs) = some sl2 ∧ tt sl2 st = .ok (p d) st ∧ (p d = true → te sl2 st = .ok (f d) st)) : mLc mi t tt te vs sl st = .ok (.list ((ds.filter p).map f)) st := by
  unfold mLc lcR
  rw [hi]
  simp only [R.bind_ok, lcL_map f p hk h]
  rw [if_pos]
  · rfl
  · rw [List.length_map]; exact Nat.le_trans (List.length_filter_le _ _) hz
theorem mLc_all {mi : MI} {t : CT} {te : M} {vs : List Nat} {sl : Sl} {st : Sto} {ds : List Pv.D} {keep : Sto → Prop} [DecidablePred keep] (f : Pv.D → Pv.D) (hi : mi sl st = .ok ⟨ds, keep⟩ st) (hk : keep st) (hz : ds.length ≤ sizeLine)
    (h : ∀ d ∈ ds, ∃ sl2, ctSet t d (wipeD sl vs) = some sl2 ∧ te sl2 st = .ok (f d) st) : mLc mi t tYesM te vs sl st = .ok (.list (ds.map f)) st := by
  have := mLc_map (tt := tYesM) f (fun _ => true) hi hk hz fun d hd => let ⟨a, b, c⟩ := h d hd; ⟨a, b, rfl, fun _ => c⟩
  rw [this]
  congr 2
  rw [List.filter_eq_self.mpr fun _ _ => rfl]
theorem boolsOf_map {α : Type} (g : α → Bool) : ∀ l : List α, boolsOf (l.map fun d => PyData.bool (g d)) = some (l.map g)
  | [] => rfl
  | a :: l => by
    show (boolsOf (l.map fun d => PyData.bool (g d))).map (g a :: ·) = _
    rw [boolsOf_map g l]; rfl
theorem all_map {α : Type} (g : α → Bool) (l : List α) : dAll (.list (l.map fun d => PyData.bool (g d))) = some (.bool (l.all g)) := by
  show (boolsOf (l.map fun d => PyData.bool (g d))).map _ = _
  rw [boolsOf_map]
  simp [List.all_map]
theorem Ok.memT {ds : List Pv.D} {d : Pv.D} {n k : Nat} (h : Ok (.tuple ds) n k) (hd : d ∈ ds) : Ok d n k := by
  obtain ⟨a, b, c⟩ := h
  refine ⟨(layAll_iff ds).mp a d hd, ?_, ?_⟩
  · unfold Pv.wt at b; have := wtL_mem hd; omega
  · have c' : PyData.depthAll ds + 1 ≤ k := c
    have := (depthAll_le ds (PyData.depthAll ds)).mp (Nat.le_refl _) d hd
    omega
theorem Ok.memL {ds : List Pv.D} {d : Pv.D} {n k : Nat} (h : Ok (.list ds) n k) (hd : d ∈ ds) : Ok d n k := by
  obtain ⟨a, b, c⟩ := h
  refine ⟨(layAll_iff ds).mp a d hd, ?_, ?_⟩
  · unfold Pv.wt at b; have := wtL_mem hd; omega
  · have c' : PyData.depthAll ds + 1 ≤ k := c
    have := (depthAll_le ds (PyData.depthAll ds)).mp (Nat.le_refl _) d hd
    omega
theorem Ok.str_len {z : Str} {k : Nat} (h : Ok (.str z) (2 ^ 24) k) : z.length ≤ sizeLine := by
  have := h.wt
  unfold Pv.wt at this
  rw [sizeLine_eq]; omega
theorem Ok.len_t {ds : List Pv.D} {k : Nat} (h : Ok (.tuple ds) (2 ^ 24) k) : ds.length ≤ sizeLine := by
  have := h.wt
  unfold Pv.wt at this
  have := wt_len ds
  rw [sizeLine_eq]; omega
theorem Ok.nodict {n k : Nat} {kv : List (Pv.D × Pv.D)} (h : Ok (.dict kv) n k) : False := by
  have := h.lay; simp [PyData.canLay0] at this
@[simp] theorem is_none_n : isNone .none = true := rfl
@[simp] theorem is_none_i {i : Int} : isNone (.int i) = false := rfl
@[simp] theorem is_none_b {b : Bool} : isNone (.bool b) = false := rfl
@[simp] theorem is_none_s {z : Str} : isNone (.str z) = false := rfl
@[simp] theorem is_none_l {xs : List Pv.D} : isNone (.list xs) = false := rfl
@[simp] theorem is_none_t {xs : List Pv.D} : isNone (.tuple xs) = false := rfl
@[simp] theorem len_t {xs : List Pv.D} : dLen (.tuple xs) = some (.int xs.length) := rfl
@[simp] theorem len_l {xs : List Pv.D} : dLen (.list xs) = some (.int xs.length) := rfl
theorem len_s {z : Str} (h : z.length ≤ sizeLine) : dLen (.str z) = some (.int z.length) := by show (if z.length ≤ sizeLine then some (PyData.int z.length) else none) = _; rw [if_pos h]
theorem ix_t {ds : List Pv.D} {j : Nat} {d : Pv.D} {st : Sto} (h : ds[j]? = some d) : fIx (.tuple ds) (.int (j : Int)) st = .ok d st := by
  have hlt := (List.getElem?_eq_some_iff.mp h).1
  have e : dIx (.tuple ds) (.int (j : Int)) = some d := by
    show atI ds (j : Int) = _
    unfold atI ixN
    rw [if_pos (by omega), if_pos (by omega)]
    simpa using h
  unfold fIx dlook
  simp [e]
theorem ix_l {ds : List Pv.D} {j : Nat} {d : Pv.D} {st : Sto} (h : ds[j]? = some d) : fIx (.list ds) (.int (j : Int)) st = .ok d st := by
  have hlt := (List.getElem?_eq_some_iff.mp h).1
  have e : dIx (.list ds) (.int (j : Int)) = some d := by
    show atI ds (j : Int) = _
    unfold atI ixN
    rw [if_pos (by omega), if_pos (by omega)]
    simpa using h
  unfold fIx dlook
  simp [e]
@[simp] theorem ix_t0 {a : Pv.D} {ds : List Pv.D} {st : Sto} : fIx (.tuple (a :: ds)) (.int 0) st = .ok a st := ix_t (j := 0) rfl
@[simp] theorem ix_t1 {a b : Pv.D} {ds : List Pv.D} {st : Sto} : fIx (.tuple (a :: b :: ds)) (.int 1) st = .ok b st := ix_t (j := 1) rfl
@[simp] theorem ix_t2 {a b c : Pv.D} {ds : List Pv.D} {st : Sto} : fIx (.tuple (a :: b :: c :: ds)) (.int 2) st = .ok c st := ix_t (j := 2) rfl
@[simp] theorem ix_t3 {a b c d : Pv.D} {ds : List Pv.D} {st : Sto} : fIx (.tuple (a :: b :: c :: d :: ds)) (.int 3) st = .ok d st := ix_t (j := 3) rfl
@[simp] theorem ix_t4 {a b c d e : Pv.D} {ds : List Pv.D} {st : Sto} : fIx (.tuple (a :: b :: c :: d :: e :: ds)) (.int 4) st = .ok e st := ix_t (j := 4) rfl
@[simp] theorem src_t {ds : List Pv.D} {st : Sto} : srcOf (.tuple ds) st = .ok ⟨ds, always⟩ st := rfl
@[simp] theorem src_l {ds : List Pv.D} {st : Sto} : srcOf (.list ds) st = .ok ⟨ds, always⟩ st := rfl
@[simp] theorem src_s {z : Str} {st : Sto} : srcOf (.str z) st = .ok ⟨signs z, always⟩ st := rfl

/-! ### loops that look for a first thing -/
theorem forL_find {keep : Sto → Prop} [DecidablePred keep] {tg : MG} {body : MS} {fg : List Nat} {sl : Sl} {st : Sto} (f : Pv.D → Option Pv.D) (hk : keep st) : ∀ {ds : List Pv.D},
    (∀ (k : Nat) (d : Pv.D), ds[k]? = some d → (∀ (j : Nat) (e : Pv.D), j < k → ds[j]? = some e → f e = none) → (f d = none ∧ ∃ sl', (tg d sl st).thenS body = .nx sl' st ∧ wipeD sl' fg = sl) ∨ ∃ r, f d = some r ∧ (tg d sl st).thenS body = .rt r st) →
    forL keep tg body fg ds sl st = (match ds.findSome? f with | none => .nx sl st | some r => .rt r st)
  | [], _ => by unfold forL; rw [if_pos hk]; rfl
  | d :: ds, h => by
    unfold forL
    rw [if_pos hk]
    rcases h 0 d rfl (fun j e hj => absurd hj (Nat.not_lt_zero j)) with ⟨f0, sl', e1, e2⟩ | ⟨r, f0, e1⟩
    · rw [e1]
      simp only [e2, List.findSome?_cons, f0]
      refine forL_find f hk fun k x hx hb => h (k + 1) x hx fun j e hj he => ?_
      cases j with
      | zero => cases (show some d = some e from he); exact f0
      | succ j => exact hb j e (Nat.lt_of_succ_lt_succ hj) he
    · rw [e1]
      simp only [List.findSome?_cons, f0]
def ltS (a b : Str) : Bool := cmpR .Lt (cmpD (.str a) (.str b))
@[simp] theorem cmp_lt_s {a b : Str} : dCmp .Lt (.str a) (.str b) = some (.bool (ltS a b)) := rfl
@[simp] theorem cmp_ge_s {a b : Str} : dCmp .GtE (.str a) (.str b) = some (.bool (!ltS a b)) := by
  show some (PyData.bool (cmpR .GtE (cmpD (.str a) (.str b)))) = _
  unfold ltS cmpR
  cases cmpD (.str a) (.str b) <;> rfl

theorem in_tup {x : Pv.D} {ns : List Pv.D} (h : x.canLay0 = true) (hn : PyData.canLayAll0 ns = true) (hd : min (PyData.depthAll ns) x.depth ≤ 64) : dCmp .In x (.tuple ns) = some (.bool (ns.any fun z => PyData.eqv z x)) := by
  show obD (dIn x (.tuple ns)) = _
  unfold dIn
  simp only [h, hn, decide_eq_true hd, Bool.and_self, if_true]
  rfl
theorem in_lst {x : Pv.D} {ns : List Pv.D} (h : x.canLay0 = true) (hn : PyData.canLayAll0 ns = true) (hd : min (PyData.depthAll ns) x.depth ≤ 64) : dCmp .In x (.list ns) = some (.bool (ns.any fun z => PyData.eqv z x)) := by
  show obD (dIn x (.list ns)) = _
  unfold dIn
  simp only [h, hn, decide_eq_true hd, Bool.and_self, if_true]
  rfl
end Pv
set_option Elab.async false
set_option linter.all false
set_option maxRecDepth 100000
set_option maxHeartbeats 4000000
namespace Pv
open PySem PySem.Spec L2
open PyProof.Rows hiding St signs cutD

/-! ### the greatest number in a datum -/
mutual
def mx : Pv.D → Nat
  | .int i => i.natAbs
  | .list ds => mxL ds
  | .tuple ds => mxL ds
  | _ => 0
def mxL : List Pv.D → Nat
  | [] => 0
  | d :: ds => max (mx d) (mxL ds)
end
theorem mxL_append (xs ys : List Pv.D) : mxL (xs ++ ys) = max (mxL xs) (mxL ys) := by
  induction xs with
  | nil => simp [mxL]
  | cons x xs ih => simp only [List.cons_append, mxL, ih, Nat.max_assoc]
theorem mxL_mem {d : Pv.D} : ∀ {ds : List Pv.D}, d ∈ ds → mx d ≤ mxL ds
  | e :: ds, h => by
    unfold mxL
    rcases List.mem_cons.mp h with q | q
    · subst q; exact Nat.le_max_left _ _
    · exact Nat.le_trans (mxL_mem q) (Nat.le_max_right _ _)
theorem mxL_le {ds : List Pv.D} {n : Nat} : mxL ds ≤ n ↔ ∀ d ∈ ds, mx d ≤ n := by
  induction ds with
  | nil => simp [mxL]
  | cons d ds ih => simp [mxL, Nat.max_le, ih]
/-- bounded data: weight, depth, numbers -/
structure Bd (d : Pv.D) (n k b : Nat) : Prop where
  lay : d.canLay0 = true
  wt : wt d ≤ n
  dp : d.depth ≤ k
  mx : mx d ≤ b
theorem Bd.ok {d : Pv.D} {n k b : Nat} (h : Bd d n k b) : Ok d n k := ⟨h.lay, h.wt, h.dp⟩
theorem Bd.mono {d : Pv.D} {n k b n' k' b' : Nat} (h : Bd d n k b) (hn : n ≤ n') (hk : k ≤ k') (hb : b ≤ b') : Bd d n' k' b' := ⟨h.lay, Nat.le_trans h.wt hn, Nat.le_trans h.dp hk, Nat.le_trans h.mx hb⟩
/-- a list of bounded data -/
structure BdL (ds : List Pv.D) (n k b : Nat) : Prop where
  lay : PyData.canLayAll0 ds = true
  wt : wtL ds ≤ n
  dp : PyData.depthAll ds ≤ k
  mx : mxL ds ≤ b
theorem Bd.tup {ds : List Pv.D} {n k b : Nat} (h : BdL ds n k b) : Bd (.tuple ds) (n + 4) (k + 1) b := ⟨h.lay, by unfold Pv.wt; have := h.wt; omega, by show PyData.depthAll ds + 1 ≤ k + 1; have := h.dp; omega, h.mx⟩
theorem Bd.lst {ds : List Pv.D} {n k b : Nat} (h : BdL ds n k b) : Bd (.list ds) (n + 4) (k + 1) b := ⟨h.lay, by unfold Pv.wt; have := h.wt; omega, by show PyData.depthAll ds + 1 ≤ k + 1; have := h.dp; omega, h.mx⟩
theorem BdL.nil {k b : Nat} : BdL [] 0 k b := ⟨rfl, Nat.le_refl _, Nat.zero_le _, Nat.zero_le _⟩
theorem BdL.cons {d : Pv.D} {ds : List Pv.D} {n m k b : Nat} (h : Bd d n k b) (t : BdL ds m k b) : BdL (d :: ds) (n + 4 + m) k b :=
  ⟨by show (d.canLay0 && PyData.canLayAll0 ds) = true; rw [h.lay, t.lay]; rfl, by unfold wtL; have := h.wt; have := t.wt; omega, Nat.max_le.mpr ⟨h.dp, t.dp⟩, Nat.max_le.mpr ⟨h.mx, t.mx⟩⟩
theorem BdL.append {xs ys : List Pv.D} {n m k b : Nat} (h : BdL xs n k b) (t : BdL ys m k b) : BdL (xs ++ ys) (n + m) k b :=
  ⟨by rw [layAll_append, h.lay, t.lay]; rfl, by rw [wtL_append]; have := h.wt; have := t.wt; omega, by rw [depthAll_append]; exact Nat.max_le.mpr ⟨h.dp, t.dp⟩, by rw [mxL_append]; exact Nat.max_le.mpr ⟨h.mx, t.mx⟩⟩
theorem BdL.mono {ds : List Pv.D} {n k b n' k' b' : Nat} (h : BdL ds n k b) (hn : n ≤ n') (hk : k ≤ k') (hb : b ≤ b') : BdL ds n' k' b' := ⟨h.lay, Nat.le_trans h.wt hn, Nat.le_trans h.dp hk, Nat.le_trans h.mx hb⟩
theorem BdL.mem {d : Pv.D} {ds : List Pv.D} {n k b : Nat} (h : BdL ds n k b) (hd : d ∈ ds) : Bd d n k b :=
  ⟨(layAll_iff ds).mp h.lay d hd, Nat.le_trans (wtL_mem hd) h.wt, (depthAll_le ds k).mp h.dp d hd, Nat.le_trans (mxL_mem hd) h.mx⟩
theorem BdL.take {ds : List Pv.D} {n k b : Nat} (j : Nat) (h : BdL ds n k b) : BdL (ds.take j) n k b :=
  ⟨(layAll_iff _).mpr fun d hd => (layAll_iff ds).mp h.lay d (List.mem_of_mem_take hd), Nat.le_trans (wtL_take j ds) h.wt, (depthAll_le _ k).mpr fun d hd => (depthAll_le ds k).mp h.dp d (List.mem_of_mem_take hd), mxL_le.mpr fun d hd => mxL_le.mp h.mx d (List.mem_of_mem_take hd)⟩
theorem BdL.drop {ds : List Pv.D} {n k b : Nat} (j : Nat) (h : BdL ds n k b) : BdL (ds.drop j) n k b :=
  ⟨(layAll_iff _).mpr fun d hd => (layAll_iff ds).mp h.lay d (List.mem_of_mem_drop hd), Nat.le_trans (wtL_drop j ds) h.wt, (depthAll_le _ k).mpr fun d hd => (depthAll_le ds k).mp h.dp d (List.mem_of_mem_drop hd), mxL_le.mpr fun d hd => mxL_le.mp h.mx d (List.mem_of_mem_drop hd)⟩
theorem wtL_reverse (ds : List Pv.D) : wtL ds.reverse = wtL ds := by
  induction ds with
  | nil => rfl
  | cons d ds ih => rw [List.reverse_cons, wtL_append, ih]; simp only [wtL]; omega
theorem BdL.reverse {ds : List Pv.D} {n k b : Nat} (h : BdL ds n k b) : BdL ds.reverse n k b :=
  ⟨(layAll_iff _).mpr fun d hd => (layAll_iff ds).mp h.lay d (List.mem_reverse.mp hd), by rw [wtL_reverse]; exact h.wt, (depthAll_le _ k).mpr fun d hd => (depthAll_le ds k).mp h.dp d (List.mem_reverse.mp hd), mxL_le.mpr fun d hd => mxL_le.mp h.mx d (List.mem_reverse.mp hd)⟩
theorem Bd.itemsT {ds : List Pv.D} {n k b : Nat} (h : Bd (.tuple ds) n (k + 1) b) : BdL ds (n - 4) k b :=
  ⟨h.lay, by have := h.wt; unfold Pv.wt at this; omega, by have := h.dp; have e : (PyData.tuple ds).depth = PyData.depthAll ds + 1 := rfl; omega, h.mx⟩
theorem Bd.int {i : Int} {b k : Nat} (h : i.natAbs ≤ b) (hb : b < 10 ^ 62) : Bd (.int i) 64 k b := ⟨rfl, by unfold Pv.wt; rw [if_pos (by omega)]; exact Nat.le_refl _, Nat.zero_le _, h⟩
theorem Bd.str {z : Str} {n b k : Nat} (h : (PyData.str z).canLay0 = true) (hz : 10 * z.length + 4 ≤ n) : Bd (.str z) n k b := ⟨h, by unfold Pv.wt; exact hz, Nat.zero_le _, Nat.zero_le _⟩
theorem lay_cat {a b : Str} (ha : (PyData.str a).canLay0 = true) (hb : (PyData.str b).canLay0 = true) : (PyData.str (a ++ b)).canLay0 = true := by
  have e : ∀ z : Str, (PyData.str z).canLay0 = true ↔ ∀ c ∈ z.cps.toList, c < 0x110000 := by
    intro z
    simp only [PyData.canLay0, PyData.strOk, Array.all_eq_true', decide_eq_true_eq, Array.mem_toList_iff]
  rw [e] at ha hb ⊢
  intro c hc
  have hc' : c ∈ (a.cps ++ b.cps).toList := hc
  rw [Array.toList_append] at hc'
  rcases List.mem_append.mp hc' with q | q
  · exact ha c q
  · exact hb c q
/-! ### data without objects stay -/
mutual
theorem fz_clean {g : Nat → Option Pv.D} : ∀ d : Pv.D, d.canLay0 = true → fz g d = some d
  | .none, _ => rfl
  | .bool _, _ => rfl
  | .int _, _ => rfl
  | .str _, _ => rfl
  | .list ds, h => by show (fzL g ds).map PyData.list = _; rw [fzL_clean ds h]; rfl
  | .tuple ds, h => by show (fzL g ds).map PyData.tuple = _; rw [fzL_clean ds h]; rfl
  | .dict _, h => by simp [PyData.canLay0] at h
theorem fzL_clean {g : Nat → Option Pv.D} : ∀ ds : List Pv.D, PyData.canLayAll0 ds = true → fzL g ds = some ds
  | [], _ => rfl
  | d :: ds, h => by
    have h' : d.canLay0 = true ∧ PyData.canLayAll0 ds = true := by simpa [PyData.canLayAll0] using h
    show (fz g d).bind (fun e => (fzL g ds).map (e :: ·)) = _
    rw [fz_clean d h'.1, fzL_clean ds h'.2]; rfl
end
theorem fd_clean {g : Nat → Option Pv.D} {cs : List Pv.D} {sp lf dr : Int} (h : IntsD cs) : fzO g (fd cs sp lf dr) = some (fd cs sp lf dr) := by
  have e := fzL_clean (g := g) cs (ints_lay h)
  unfold fd
  show (fzP g _).map MO.dct = _
  simp [fzP, e, fz]
/-- a def that leaves its own objects behind, the feed ahead of them -/
theorem fin_fd {cs : List Pv.D} {sp lf dr : Int} {d : Pv.D} {more : Sto} (h : IntsD cs) (hd : d.canLay0 = true) : finR 1 (.ok d (fd cs sp lf dr :: more)) = .ok d [fd cs sp lf dr] := by
  unfold finR
  simp only [List.length_cons]
  split
  · rename_i q
    have : more = [] := List.length_eq_zero_iff.mp (by omega)
    rw [this]
  · rw [fz_clean d hd]
    simp [fzS, fd_clean h]
/-- loops that go to their end -/
theorem forL_inv {keep : Sto → Prop} [DecidablePred keep] {tg : MG} {body : MS} {fg : List Nat} (I : Nat → Sl → Sto → Prop) (N : Nat) (hk : ∀ st, keep st) : ∀ {ds : List Pv.D} {k : Nat} {sl : Sl} {st : Sto}, k + ds.length ≤ N → I k sl st →
    (∀ (d : Pv.D) (k : Nat) (sl : Sl) (st : Sto), d ∈ ds → k < N → I k sl st → ∃ sl' st', (tg d sl st).thenS body = .nx sl' st' ∧ I (k + 1) (wipeD sl' fg) st') → ∃ sl' st', forL keep tg body fg ds sl st = .nx sl' st' ∧ I (k + ds.length) sl' st'
  | [], k, sl, st, hn, h, _ => ⟨sl, st, by unfold forL; rw [if_pos (hk st)], h⟩
  | d :: ds, k, sl, st, hn, h, hs => by
    rw [List.length_cons] at hn
    obtain ⟨sl', st', e, i⟩ := hs d k sl st List.mem_cons_self (by omega) h
    obtain ⟨sl2, st2, e2, i2⟩ := forL_inv I N hk (ds := ds) (by omega) i fun x k sl st hx => hs x k sl st (List.mem_cons_of_mem _ hx)
    refine ⟨sl2, st2, ?_, by rw [List.length_cons, show k + (ds.length + 1) = k + 1 + ds.length by omega]; exact i2⟩
    unfold forL
    rw [if_pos (hk st), e]
    exact e2
end Pv
set_option Elab.async false
set_option linter.all false
set_option maxRecDepth 100000
set_option maxHeartbeats 4000000
namespace Pv
open PySem PySem.Spec L2
open PyProof.Rows hiding St

/-! ### greatest, least, sums of ints -/
def intsOfD : List Pv.D → Option (List Int)
  | [] => some []
  | .int i :: ds => (intsOfD ds).map (i :: ·)
  | _ => none
section
variable {K : PySem.W.Frag} {W : Wd} {H : Hp} {st : Sto} {v : V} {d : Pv.D}
theorem intsOfD_rep : ∀ {ds : List Pv.D} {vs : List V} {ns : List Int}, repL K W vs ds → intsOfD ds = some ns → vs = ns.map V.int
  | [], _, _, h, e => by cases e; exact h
  | d :: ds, _, _, ⟨v, us, q, r, l⟩, e => by
    cases d with
    | int i =>
      obtain ⟨ms, e1, e2⟩ := Option.map_eq_some_iff.mp e
      subst e2; subst q
      rw [intsOfD_rep l e1, rep_int r]; rfl
    | _ => cases e
theorem intsOfD_map (ns : List Int) : intsOfD (ns.map .int) = some ns := by
  induction ns with
  | nil => rfl
  | cons n ns ih => show (intsOfD (ns.map .int)).map (n :: ·) = _; rw [ih]; rfl
theorem intsOfD_len {ds : List Pv.D} {ns : List Int} (h : intsOfD ds = some ns) : ns.length = ds.length := by
  induction ds generalizing ns with
  | nil => cases h; rfl
  | cons d ds ih =>
    cases d with
    | int i => obtain ⟨ms, e1, e2⟩ := Option.map_eq_some_iff.mp h; subst e2; simp [ih e1]
    | _ => cases h
def maxI : List Int → Option Int
  | [] => none
  | n :: ns => some (ns.foldl max n)
def minI : List Int → Option Int
  | [] => none
  | n :: ns => some (ns.foldl min n)
theorem foldl_max_ge (ns : List Int) (n : Int) : n ≤ ns.foldl max n ∧ ∀ y ∈ ns, y ≤ ns.foldl max n := by
  induction ns generalizing n with
  | nil => exact ⟨Int.le_refl _, fun _ h => by cases h⟩
  | cons m ns ih =>
    obtain ⟨a, b⟩ := ih (max n m)
    refine ⟨by simp only [List.foldl_cons]; omega, fun y hy => ?_⟩
    rcases List.mem_cons.mp hy with e | e
    · subst e; simp only [List.foldl_cons]; omega
    · exact b y e
theorem foldl_max_mem (ns : List Int) (n : Int) : ns.foldl max n ∈ n :: ns := by
  induction ns generalizing n with
  | nil => simp
  | cons m ns ih =>
    have := ih (max n m)
    simp only [List.foldl_cons]
    rcases List.mem_cons.mp this with e | e
    · rw [e]
      by_cases h : n ≤ m
      · rw [Int.max_eq_right h]; simp
      · rw [Int.max_eq_left (by omega)]; simp
    · simp [e]
theorem foldl_min_le (ns : List Int) (n : Int) : ns.foldl min n ≤ n ∧ ∀ y ∈ ns, ns.foldl min n ≤ y := by
  induction ns generalizing n with
  | nil => exact ⟨Int.le_refl _, fun _ h => by cases h⟩
  | cons m ns ih =>
    obtain ⟨a, b⟩ := ih (min n m)
    refine ⟨by simp only [List.foldl_cons]; omega, fun y hy => ?_⟩
    rcases List.mem_cons.mp hy with e | e
    · subst e; simp only [List.foldl_cons]; omega
    · exact b y e
theorem foldl_min_mem (ns : List Int) (n : Int) : ns.foldl min n ∈ n :: ns := by
  induction ns generalizing n with
  | nil => simp
  | cons m ns ih =>
    have := ih (min n m)
    simp only [List.foldl_cons]
    rcases List.mem_cons.mp this with e | e
    · rw [e]
      by_cases h : n ≤ m
      · rw [Int.min_eq_left h]; simp
      · rw [Int.min_eq_right (by omega)]; simp
    · simp [e]
theorem maxI_uniq {ns : List Int} {m : Int} (h1 : m ∈ ns) (h2 : ∀ y ∈ ns, y ≤ m) : maxI ns = some m := by
  cases ns with
  | nil => cases h1
  | cons n ns =>
    have a := foldl_max_ge ns n
    have b := foldl_max_mem ns n
    have : ns.foldl max n = m := by
      have h3 := h2 _ b
      rcases List.mem_cons.mp h1 with e | e
      · subst e; omega
      · have := a.2 m e; omega
    show some (ns.foldl max n) = _
    rw [this]
theorem minI_uniq {ns : List Int} {m : Int} (h1 : m ∈ ns) (h2 : ∀ y ∈ ns, m ≤ y) : minI ns = some m := by
  cases ns with
  | nil => cases h1
  | cons n ns =>
    have a := foldl_min_le ns n
    have b := foldl_min_mem ns n
    have : ns.foldl min n = m := by
      have h3 := h2 _ b
      rcases List.mem_cons.mp h1 with e | e
      · subst e; omega
      · have := a.2 m e; omega
    show some (ns.foldl min n) = _
    rw [this]
end
def dMax1 : Pv.D → Option Pv.D
  | .list ds => (intsOfD ds).bind fun ns => (maxI ns).map .int
  | _ => none
def dMin1 : Pv.D → Option Pv.D
  | .list ds => (intsOfD ds).bind fun ns => (minI ns).map .int
  | _ => none
def dSum1 : Pv.D → Option Pv.D
  | .list ds => (intsOfD ds).map fun ns => .int ns.sum
  | _ => none
def mMax1 : M → M := mOp1 (onD1 dMax1)
def mMin1 : M → M := mOp1 (onD1 dMin1)
def mSum1 : M → M := mOp1 (onD1 dSum1)
section
variable {X : Cx} {Wx : WX} {ea eb e : Expr} {ma mb mc : M} {pos p : Pos}
theorem ge_max1 (g : Gd X) (hm : X.mg "max" = none) (ha : GE X Wx ea ma) (hg : Gl X "max" := by rfl)
    (he : starEach (ea :: []) X.env = (false, eval ea X.env) :: starEach [] X.env := by rfl) (hpl : (backTo pos (starEach [] X.env)).any (·.1) = false := by rfl) : GE X Wx (.Call (.Name "max" p) [ea] [] pos) (mMax1 ma) := by
  refine ge_callB1 (cr_max g.calm) onD1_nx ?_ hg hm (by decide +kernel) ha (by decide +kernel) (by decide +kernel) he hpl
  intro W H st x dx Q hr rx p
  obtain ⟨d, e, p⟩ := onD1_post p
  cases hx : deref st dx with
  | list ds =>
    rw [hx] at e
    obtain ⟨ns, e1, e2⟩ := Option.bind_eq_some_iff.mp e
    obtain ⟨m, e3, e4⟩ := Option.map_eq_some_iff.mp e2
    subst e4
    obtain ⟨a, xs, q1, q2, l⟩ := rep_dlist hr rx hx
    subst q1
    have := intsOfD_rep l e1
    subst this
    refine ⟨a, ns, rfl, .inl (.inl q2), ?_, fun m' h1 h2 => ?_⟩
    · cases ns with | nil => cases e3 | cons _ _ => simp
    · rw [maxI_uniq h1 h2] at e3; cases e3; exact p.val hr rfl
  | _ => rw [hx] at e; cases e
theorem ge_min1 (g : Gd X) (hm : X.mg "min" = none) (ha : GE X Wx ea ma) (hg : Gl X "min" := by rfl)
    (he : starEach (ea :: []) X.env = (false, eval ea X.env) :: starEach [] X.env := by rfl) (hpl : (backTo pos (starEach [] X.env)).any (·.1) = false := by rfl) : GE X Wx (.Call (.Name "min" p) [ea] [] pos) (mMin1 ma) := by
  refine ge_callB1 (cr_min g.calm) onD1_nx ?_ hg hm (by decide +kernel) ha (by decide +kernel) (by decide +kernel) he hpl
  intro W H st x dx Q hr rx p
  obtain ⟨d, e, p⟩ := onD1_post p
  cases hx : deref st dx with
  | list ds =>
    rw [hx] at e
    obtain ⟨ns, e1, e2⟩ := Option.bind_eq_some_iff.mp e
    obtain ⟨m, e3, e4⟩ := Option.map_eq_some_iff.mp e2
    subst e4
    obtain ⟨a, xs, q1, q2, l⟩ := rep_dlist hr rx hx
    subst q1
    have := intsOfD_rep l e1
    subst this
    refine ⟨a, ns, rfl, .inl (.inl q2), ?_, fun m' h1 h2 => ?_⟩
    · cases ns with | nil => cases e3 | cons _ _ => simp
    · rw [minI_uniq h1 h2] at e3; cases e3; exact p.val hr rfl
  | _ => rw [hx] at e; cases e
theorem ge_sum1 (g : Gd X) (hm : X.mg "sum" = none) (ha : GE X Wx ea ma) (hg : Gl X "sum" := by rfl)
    (he : starEach (ea :: []) X.env = (false, eval ea X.env) :: starEach [] X.env := by rfl) (hpl : (backTo pos (starEach [] X.env)).any (·.1) = false := by rfl) : GE X Wx (.Call (.Name "sum" p) [ea] [] pos) (mSum1 ma) := by
  refine ge_callB1 (cr_sum g.calm) onD1_nx ?_ hg hm (by decide +kernel) ha (by decide +kernel) (by decide +kernel) he hpl
  intro W H st x dx Q hr rx p
  obtain ⟨d, e, p⟩ := onD1_post p
  cases hx : deref st dx with
  | list ds =>
    rw [hx] at e
    obtain ⟨ns, e1, e2⟩ := Option.map_eq_some_iff.mp e
    subst e2
    obtain ⟨a, xs, q1, q2, l⟩ := rep_dlist hr rx hx
    subst q1
    have := intsOfD_rep l e1
    subst this
    exact ⟨a, ns, rfl, .inl (.inl q2), p.val hr rfl⟩
  | _ => rw [hx] at e; cases e
end

/-! ### max(xs, default=d) -/
theorem reads_ints {h : Heap} : ∀ {us : List Value} {ns : List Int}, Vals (ns.map V.int) us → ∃ as, ReadsAll h us (ns.map .int) as
  | us, [], r => by cases r; exact ⟨_, .nil⟩
  | us, n :: ns, r => by
    cases r with
    | cons a b =>
      obtain ⟨t, rfl⟩ := a
      obtain ⟨as, q⟩ := reads_ints b
      exact ⟨_, .cons (.int n t) q⟩
theorem alike_ints (ns : List Int) : PySem.W.AlikeAll (ns.map .int) := by
  refine ⟨fun x hx y hy => ?_, fun x hx e => ?_⟩
  · obtain ⟨i, _, rfl⟩ := List.mem_map.mp hx
    obtain ⟨j, _, rfl⟩ := List.mem_map.mp hy
    simp [PySem.W.alike]
  · obtain ⟨i, _, rfl⟩ := List.mem_map.mp hx
    cases e
theorem depth_ints (ns : List Int) : PyData.depthAll (ns.map .int) = 0 := by
  induction ns with
  | nil => rfl
  | cons n ns ih => show max 0 (PyData.depthAll (ns.map .int)) = 0; rw [ih]; rfl
def rMaxDf (K : PySem.W.Frag) : List V → List V → Hp → VK → Prop := fun xs zs H Q => ∃ (a : Addr) (ns : List Int) (z : V), xs = [V.ref a] ∧ zs = [z] ∧ SqL K H a (ns.map V.int) ∧ (maxI ns = none → Q z H) ∧ ∀ m, maxI ns = some m → Q (.int m) H
theorem cr_maxDf {X : Cx} (g : Gd X) : CallRK X (.builtin "max") ["default"] (rMaxDf X.K) := by
  intro pins s σ H xs zs us ws Q I r1 r2 h
  obtain ⟨a, ns, z, rfl, rfl, hs, q0, q1⟩ := h
  obtain ⟨its, rv, hl, _⟩ := I.list hs
  rw [Vals.ref1 r1]
  cases r2 with
  | cons rz rr =>
    cases rr
    obtain ⟨as, ra⟩ := reads_ints (h := s.heap) rv
    refine PySem.W.max_list_default (I.ok.hd g.calm) hl.isList ra (alike_ints ns) (by rw [depth_ints]; have := g.un; omega) (fun e h' tk hk => ?_) (fun y ys i v h' tk bs e hv rd hk => ?_)
    · have : ns = [] := by simpa using e
      subst this
      exact ⟨z, H, I.kept hk, rz, q0 rfl⟩
    · cases ns with
      | nil => cases e
      | cons n ns =>
        simp only [List.map_cons, List.cons.injEq] at e
        obtain ⟨e1, e2⟩ := e
        subst e1; subst e2
        rw [PySem.W.maxD_ints] at rd
        cases rd
        exact ⟨.int _, H, I.kept hk, ⟨_, rfl⟩, q1 _ rfl⟩
def fMaxDf (x y : Pv.D) (st : Sto) : R Pv.D :=
  match deref st x with
  | .list ds => (match intsOfD ds with
    | some ns => (match maxI ns with | some m => .ok (.int m) st | none => .ok y st)
    | none => .bad)
  | _ => .bad
def mMaxDf : M → M → M := mOp2 fMaxDf
section
variable {X : Cx} {Wx : WX} {ea eb e : Expr} {ma mb mc : M} {pos p kp : Pos}
theorem ge_maxDf (g : Gd X) (hm : X.mg "max" = none) (ha : GE X Wx ea ma) (hb : GE X Wx eb mb) (hg : Gl X "max" := by rfl)
    (hs1 : starEach [ea] X.env = (false, eval ea X.env) :: starEach [] X.env := by rfl) (he : backTo pos (starEach (ea :: []) X.env) = (false, eval ea X.env) :: backTo pos (starEach [] X.env) := by rfl) (hpl : (backTo pos (starEach (ea :: []) X.env)).any (·.1) = false := by rfl)
    (hall : (backToKw pos (keywordEach [⟨some "default", eb, kp⟩] X.env)).all (·.1.isSome) = true := by rfl) (hnone : (backToKw pos (keywordEach [⟨some "default", eb, kp⟩] X.env)).any (·.1.isNone) = false := by rfl) (hks : (backToKw pos (keywordEach [⟨some "default", eb, kp⟩] X.env)).filterMap (·.1) = [("default" : Str)] := by rfl) :
    GE X Wx (.Call (.Name "max" p) [ea] [⟨some "default", eb, kp⟩] pos) (mMaxDf ma mb) := by
  have P := pe_callBK (p := p) (cr_maxDf g) hg hm (by decide +kernel) (pa_cons ha pa_nil hs1) (pk_cons (nm := some "default") (kpos := kp) hb pk_nil) (by decide +kernel) (by decide +kernel) he hpl hall hnone hks
  refine PE.imp P fun sh H Q ⟨W, sl, st, hr, hs, q⟩ => ?_
  refine rd_bind hr hs q fun d1 st1 W1 v1 H1 e1 x1 h1 s1 r1 p1 => ?_
  refine rd_bind h1 s1 p1 fun d2 st2 W2 v2 H2 e2 x2 h2 s2 r2 p2 => ?_
  unfold fMaxDf at p2
  split at p2
  · rename_i ds hds
    split at p2
    · rename_i ns hns
      obtain ⟨a, xs, q1, q2, l⟩ := rep_dlist h2 (x2.rep r1) hds
      subst q1
      have := intsOfD_rep l hns
      subst this
      refine ⟨a, ns, v2, rfl, rfl, .inl (.inl q2), fun hn => ?_, fun m hm => ?_⟩
      · rw [hn] at p2; exact p2.val h2 r2
      · rw [hm] at p2; exact p2.val h2 rfl
    · exact p2.elim
  · exact p2.elim
end
end Pv
set_option Elab.async false
set_option linter.all false
set_option maxRecDepth 100000
set_option maxHeartbeats 400000
namespace Pv
open PySem PySem.Spec L2
open PyProof.Rows hiding St

/-! ### sorted of data -/
def dLe : Pv.D → Pv.D → Bool := PySem.W.dataLe false id
def sortD (ds : List Pv.D) : List Pv.D := ds.mergeSort dLe
def isTupC : Pv.D → Bool
  | .tuple (_ :: _) => true
  | _ => false
def noTup : Pv.D → Bool
  | .tuple _ => false
  | .none => false
  | _ => true
def srtOk (ds : List Pv.D) : Bool := (ds.all fun d => ds.all fun e => PySem.W.alike d e) && ((ds.all isTupC || ds.all noTup) && (PyData.canLayAll0 ds && (decide (PyData.depthAll ds ≤ 64) && decide (ds.length ≤ sizeLine))))
theorem srtOk_inv {ds : List Pv.D} (h : srtOk ds = true) : PySem.W.AllAlike ds ∧ PySem.W.Sortable ds ∧ PyData.canLayAll0 ds = true ∧ PyData.depthAll ds ≤ 64 ∧ ds.length ≤ sizeLine := by
  unfold srtOk at h
  rw [Bool.and_eq_true, Bool.and_eq_true, Bool.and_eq_true, Bool.and_eq_true] at h
  obtain ⟨h1, h2, h3, h4, h5⟩ := h
  refine ⟨fun d hd e he => ?_, ?_, h3, of_decide_eq_true h4, of_decide_eq_true h5⟩
  · exact List.all_eq_true.mp (List.all_eq_true.mp h1 d hd) e he
  · rcases Bool.or_eq_true_iff.mp h2 with q | q
    · refine .inl fun d hd => ?_
      have := List.all_eq_true.mp q d hd
      unfold isTupC at this
      split at this
      · exact ⟨_, _, rfl⟩
      · cases this
    · refine .inr fun d hd => ?_
      have := List.all_eq_true.mp q d hd
      unfold noTup at this
      split at this
      · cases this
      · cases this
      · rename_i a b; exact ⟨b, a⟩
def rSortD (K : PySem.W.Frag) : List V → Hp → VK → Prop := fun vs H Q => ∃ (a : Addr) (ps : List (V × Pv.D)), vs = [V.ref a] ∧ SqL K H a (ps.map (·.1)) ∧ (∀ p ∈ ps, Dp K H p.1 p.2) ∧ srtOk (ps.map (·.2)) = true ∧
  ∀ p, H p = none → Q (.ref p) (upd H p (.lst ((ps.mergeSort (PySem.W.dataLe false Prod.snd)).map (·.1))))
theorem each_map1 {α β : Type} {R : α → β → Prop} {as : List α} : ∀ {bs : List β}, PySem.W.EachIs R as bs → as.length = bs.length := fun h => h.length
theorem vals_each {ps : List (V × Pv.D)} : ∀ {us : List Value}, Vals (ps.map (·.1)) us → PySem.W.EachIs (fun u (p : V × Pv.D) => RelV p.1 u) us ps := by
  induction ps with
  | nil => intro us h; cases h; exact .nil
  | cons p ps ih => intro us h; cases h with | cons a b => exact .cons a (ih b)
theorem each_vals {ps : List (V × Pv.D)} {us : List Value} (h : PySem.W.EachIs (fun u (p : V × Pv.D) => RelV p.1 u) us ps) : Vals (ps.map (·.1)) us := by
  induction h with
  | nil => exact .nil
  | cons a _ ih => exact .cons a ih
theorem depth_mem {ds : List Pv.D} {d : Pv.D} (h : d ∈ ds) : d.depth ≤ PyData.depthAll ds := (depthAll_le ds _).mp (Nat.le_refl _) d h
theorem each_both {α β : Type} {R S : α → β → Prop} {as : List α} {bs : List β} (h : PySem.W.EachIs R as bs) (f : ∀ a b, b ∈ bs → R a b → S a b) : PySem.W.EachIs S as bs := by
  induction h with
  | nil => exact .nil
  | cons a _ ih => exact .cons (f _ _ (by simp) a) (ih fun a b m r => f a b (by simp [m]) r)
theorem cr_sortD {X : Cx} (g : Gd X) : CallR X (.builtin "sorted") (rSortD X.K) := by
  intro pins s σ H vs us Q I r h
  obtain ⟨a, ps, rfl, hs, hp, hok, q⟩ := h
  obtain ⟨its, rv, hl, hz⟩ := I.list hs
  obtain ⟨u, rfl, ru⟩ := vals1 r
  obtain rfl : u = Value.ref a := ru
  obtain ⟨o1, o2, o3, o4, o5⟩ := srtOk_inv hok
  have hl2 : ps.length ≤ sizeLine := by simpa using o5
  refine PySem.W.sorted_data (R := fun u (p : V × Pv.D) => RelV p.1 u) (enc := Prod.snd) (bs := ps) hl.isList (vals_each rv) (each_both (vals_each rv) fun u p m rr => Dp.reads I p.2 p.1 u (hp p m) rr) o1 o2 hl2 (fun b m => ?_) fun out hlen he => ?_
  · have := depth_mem (List.mem_map.mpr ⟨b, m, rfl⟩ : b.2 ∈ ps.map (·.2))
    have := g.un
    omega
  · obtain ⟨n, hn⟩ := PyProof.Rows.sortedAll_at s.heap its (List.toArray out)
    refine ⟨.ref _, upd H _ (.lst ((ps.mergeSort (PySem.W.dataLe false Prod.snd)).map (·.1))), I.laid (t' := s.toks) (fun b u e => PyProof.Rows.sortedAll_old e) (Nat.le_succ _) ⟨?_, out, _, each_vals he, hn⟩, rfl, q _ (I.hok.fresh (Nat.le_succ _))⟩
    rw [List.length_map, List.length_mergeSort]; exact hl2
theorem sortP_snd (ps : List (V × Pv.D)) : (ps.mergeSort (PySem.W.dataLe false Prod.snd)).map (·.2) = sortD (ps.map (·.2)) := by
  unfold sortD
  exact PySem.W.sort_maps (f := (Prod.snd : V × Pv.D → Pv.D)) (r := PySem.W.dataLe false Prod.snd) (s := dLe) fun a _ b _ => rfl
theorem zip_rep {K : PySem.W.Frag} {W : Wd} : ∀ {vs : List V} {ds : List Pv.D}, repL K W vs ds → (vs.zip ds).map (·.1) = vs ∧ (vs.zip ds).map (·.2) = ds ∧ ∀ p ∈ vs.zip ds, rep K W p.1 p.2
  | _, [], h => by cases h; exact ⟨rfl, rfl, fun p hp => by cases hp⟩
  | _, d :: ds, ⟨v, us, q, r, l⟩ => by
    subst q
    obtain ⟨a, b, c⟩ := zip_rep l
    refine ⟨by simp [a], by simp [b], fun p hp => ?_⟩
    rcases List.mem_cons.mp hp with e | e
    · subst e; exact r
    · exact c p e
theorem rep_zip {K : PySem.W.Frag} {W : Wd} : ∀ {ps : List (V × Pv.D)}, (∀ p ∈ ps, rep K W p.1 p.2) → repL K W (ps.map (·.1)) (ps.map (·.2))
  | [], _ => rfl
  | p :: ps, h => ⟨p.1, _, rfl, h p (by simp), rep_zip fun q hq => h q (by simp [hq])⟩
def dSorted : Pv.D → Option Pv.D
  | .list ds => if srtOk ds = true then some (.list (sortD ds)) else none
  | _ => none
def mSorted : M → M := mOp1 (onD1 dSorted)
section
variable {X : Cx} {Wx : WX} {ea eb e : Expr} {ma mb mc : M} {pos p : Pos}
theorem ge_sorted (g : Gd X) (hm : X.mg "sorted" = none) (ha : GE X Wx ea ma) (hg : Gl X "sorted" := by rfl)
    (he : starEach (ea :: []) X.env = (false, eval ea X.env) :: starEach [] X.env := by rfl) (hpl : (backTo pos (starEach [] X.env)).any (·.1) = false := by rfl) : GE X Wx (.Call (.Name "sorted" p) [ea] [] pos) (mSorted ma) := by
  refine ge_callB1 (cr_sortD g) onD1_nx ?_ hg hm (by decide +kernel) ha (by decide +kernel) (by decide +kernel) he hpl
  intro W H st x dx Q hr rx p
  obtain ⟨d, e, p⟩ := onD1_post p
  cases hx : deref st dx with
  | list ds =>
    rw [hx] at e
    unfold dSorted at e
    simp only at e
    split at e
    · rename_i hk
      cases e
      obtain ⟨a, xs, q1, q2, l⟩ := rep_dlist hr rx hx
      subst q1
      obtain ⟨z1, z2, z3⟩ := zip_rep l
      obtain ⟨_, _, o3, _, _⟩ := srtOk_inv hk
      refine ⟨a, xs.zip ds, rfl, by rw [z1]; exact .inl (.inl q2), fun p hp => ?_, by rw [z2]; exact hk, fun b hb => ?_⟩
      · have : p.2 ∈ ds := by rw [← z2]; exact List.mem_map.mpr ⟨p, hp, rfl⟩
        exact rep_dp hr.sub _ ((layAll_iff ds).mp o3 _ this) (z3 p hp)
      · refine Post.lst hr p ?_ b hb
        have e1 := sortP_snd (xs.zip ds)
        rw [z2] at e1
        rw [← e1]
        exact rep_zip fun p hp => z3 p ((List.mergeSort_perm _ _).mem_iff.mp hp)
    · cases e
  | _ => rw [hx] at e; cases e
end
end Pv
set_option Elab.async false
set_option linter.all false
set_option maxRecDepth 100000
set_option maxHeartbeats 400000
namespace Pv
open PySem PySem.Spec L2
open PyProof.Rows hiding St

/-! ### d.get(k), d.get(k, x) -/
def isDct (st : Sto) (o : Pv.D) : Bool :=
  match o with
  | .dict [(.int r, .none)] => (match st[r.toNat]? with | some (.dct _) => true | some (.dctT _) => true | _ => false)
  | _ => false
section
variable {K : PySem.W.Frag} {W : Wd} {H : Hp} {st : Sto}
theorem isDct_rep {v : V} {o : Pv.D} (hr : HR K W H st) (h : rep K W v o) (e : isDct st o = true) : ∃ a, v = .ref a ∧ IsD H a := by
  unfold isDct at e
  split at e
  · rename_i i
    rcases rep_dict h with ⟨r, a, e1, e2, e3⟩ | ⟨ds', a, xs, e1, _, _⟩ | ⟨ds', a, xs, e1, _, _⟩ | ⟨ae, ade, ce, nse, fse, he⟩
    rotate_left
    · cases e1
    · cases e1
    · cases he
    have ei : i = (r : Int) := by injection e1 with q1 _; injection q1 with q2 _; injection q2
    subst ei
    rw [Int.toNat_natCast] at e
    obtain ⟨m, hm, _, ho⟩ := hr.at e3
    rw [hm] at e
    cases m with
    | lst ds => cases e
    | ro _ => cases e
    | dct kvs => obtain ⟨ks, g1, g2⟩ := ho; exact ⟨a, e2, .inl ⟨ks, .inl g1⟩⟩
    | dctT kvs => obtain ⟨ks, g1, g2⟩ := ho; exact ⟨a, e2, .inr ⟨ks, .inl g1⟩⟩
    | tb _ _ => cases e
  · cases e
end
def fGet (x y z : Pv.D) (st : Sto) : R Pv.D := match dlook st x y with
  | some (some d) => .ok d st
  | some none => .ok z st
  | none => .bad
def mGet1 (a b : M) : M := fun sl st => (a sl st).bind fun o st => if isDct st o = true then (b sl st).bind fun y st => fGet o y .none st else .bad
def mGet2 (a b c : M) : M := fun sl st => (a sl st).bind fun o st => if isDct st o = true then (b sl st).bind fun y st => (c sl st).bind fun z st => fGet o y z st else .bad
section
variable {X : Cx} {Wx : WX} {ea eb ec e : Expr} {ma mb mc : M} {apos pos p : Pos}
theorem get_post {W : Wd} {H : Hp} {st : Sto} {Q : VK} {E : XK} {x y z : Pv.D} {v u w : V} {a : Addr} (hr : HR X.K W H st) (rx : rep X.K W v x) (ry : rep X.K W u y) (rz : rep X.K W w z) (ev : v = .ref a) (p : Post (nv X) W H Q E (fGet x y z st)) : ∃ o, DGet H a u o ∧ Q (o.getD w) H := by
  unfold fGet at p
  split at p
  · rename_i d q
    obtain ⟨b, ov, e1, e2, e3, e4⟩ := dlook_rep hr rx ry q
    rw [ev] at e1; cases e1
    obtain ⟨w', g1, g2⟩ := e3 d rfl
    subst g1
    exact ⟨_, e2, p.val hr g2⟩
  · rename_i q
    obtain ⟨b, ov, e1, e2, e3, e4⟩ := dlook_rep hr rx ry q
    rw [ev] at e1; cases e1
    have := e4 rfl
    subst this
    exact ⟨_, e2, p.val hr rz⟩
  · exact p.elim
theorem ge_get1 (g : Gd X) (ha : GE X Wx ea ma) (hb : GE X Wx eb mb) (m : M1 X ea "get" apos eb pos := by exact ⟨rfl, rfl, rfl, rfl⟩) : GE X Wx (.Call (.Attribute ea "get" apos) [eb] [] pos) (mGet1 ma mb) := by
  refine PE.imp (pe_dget1 (by have := g.un; omega) ha hb m) fun sh H Q ⟨W, sl, st, hr, hs, q⟩ => ?_
  refine rd_bind hr hs q fun d1 st1 W1 v1 H1 e1 x1 h1 s1 r1 p1 => ?_
  split at p1
  · rename_i hd
    obtain ⟨a, ev, isd⟩ := isDct_rep h1 r1 hd
    refine ⟨a, ev, isd, ?_⟩
    refine rd_bind h1 s1 p1 fun d2 st2 W2 v2 H2 e2 x2 h2 s2 r2 p2 => ?_
    exact get_post (w := .non) (z := .none) h2 (x2.rep r1) r2 rfl ev p2
  · exact p1.elim
theorem ge_get2 (g : Gd X) (ha : GE X Wx ea ma) (hb : GE X Wx eb mb) (hc : GE X Wx ec mc) (m : M2 X ea "get" apos eb ec pos := by exact ⟨rfl, rfl, rfl, rfl⟩) : GE X Wx (.Call (.Attribute ea "get" apos) [eb, ec] [] pos) (mGet2 ma mb mc) := by
  refine PE.imp (pe_dget2 (by have := g.un; omega) ha hb hc m) fun sh H Q ⟨W, sl, st, hr, hs, q⟩ => ?_
  refine rd_bind hr hs q fun d1 st1 W1 v1 H1 e1 x1 h1 s1 r1 p1 => ?_
  split at p1
  · rename_i hd
    obtain ⟨a, ev, isd⟩ := isDct_rep h1 r1 hd
    refine ⟨a, ev, isd, ?_⟩
    refine rd_bind h1 s1 p1 fun d2 st2 W2 v2 H2 e2 x2 h2 s2 r2 p2 => ?_
    refine rd_bind h2 s2 p2 fun d3 st3 W3 v3 H3 e3 x3 h3 s3 r3 p3 => ?_
    exact get_post h3 (x3.rep (x2.rep r1)) (x3.rep r2) r3 ev p3
  · exact p1.elim
/-! ### new dicts -/
def mNewK : M := fun _ st => .ok (Rf st.length) (st ++ [.dct []])
def mNewT : M := fun _ st => .ok (Rf st.length) (st ++ [.dctT []])
theorem ge_newK : GE X Wx (.Dict [] [] pos) mNewK := by
  refine PE.imp pe_dnewK fun sh H Q ⟨W, sl, st, hr, hs, q⟩ => fun a ha => ?_
  have p : Post (nv X) W H Q (fun cls dd H' => Wx cls dd sh H') (.ok (Rf st.length) (st ++ [.dct []])) := q
  obtain ⟨h2, x2⟩ := hr.newM (o := .dK []) (m := .dct []) ha ⟨[], upd_same, .nil⟩
  exact p _ (.ref a) _ x2 h2 ⟨st.length, a, rfl, rfl, by show (W.rho ++ [a])[st.length]? = some a; rw [← hr.len]; simp⟩
theorem ge_newT : GE X Wx (.Dict [] [] pos) mNewT := by
  refine PE.imp pe_dnewT fun sh H Q ⟨W, sl, st, hr, hs, q⟩ => fun a ha => ?_
  have p : Post (nv X) W H Q (fun cls dd H' => Wx cls dd sh H') (.ok (Rf st.length) (st ++ [.dctT []])) := q
  obtain ⟨h2, x2⟩ := hr.newM (o := .dT []) (m := .dctT []) ha ⟨[], upd_same, .nil⟩
  exact p _ (.ref a) _ x2 h2 ⟨st.length, a, rfl, rfl, by show (W.rho ++ [a])[st.length]? = some a; rw [← hr.len]; simp⟩
end
end Pv
set_option Elab.async false
set_option linter.all false
set_option maxRecDepth 100000
set_option maxHeartbeats 400000
namespace Pv
open PySem PySem.Spec L2
open PyProof.Rows hiding St

/-! ### xs.count(x) -/
def cntD (ds : List Pv.D) (y : Pv.D) : Option Pv.D := if PyData.canLayAll0 ds = true ∧ y.canLay0 = true ∧ min (PyData.depthAll ds) y.depth ≤ 64 then some (.int ((ds.countP fun d => PyData.eqv d y : Nat) : Int)) else none
def fCnt (x y : Pv.D) (st : Sto) : R Pv.D :=
  match deref st x with
  | .list ds => lift (cntD ds (deref st y)) st
  | _ => .bad
def isLstD (st : Sto) (o : Pv.D) : Bool := match deref st o with | .list _ => true | _ => false
def mCnt (a b : M) : M := fun sl st => (a sl st).bind fun o st => if isLstD st o = true then (b sl st).bind fun d st => fCnt o d st else .bad
section
variable {X : Cx} {Wx : WX} {ea eb e : Expr} {ma mb mc : M} {pos p apos : Pos}
def tCntL (K : PySem.W.Frag) (ta tb : TE) : TE := fun σ H Q => ta σ H fun x H1 => ∃ a, x = .ref a ∧ (∃ xs, SqL K H1 a xs) ∧ tb σ H1 fun y H2 => ∃ xs ds d, SqL K H2 a xs ∧ DpAll K H2 xs ds ∧ Dp K H2 y d ∧ PyData.canLayAll0 ds = true ∧ d.canLay0 = true ∧ min (PyData.depthAll ds) d.depth ≤ 64 ∧ Q (.int ((ds.countP fun z => PyData.eqv z d : Nat) : Int)) H2
theorem seq_type {h : Heap} {s : Shared} {a : Addr} {o : Obj} {T : String} (ho : s.heap.get? a = some o) (hc : o.cls = .type T) (hd : o.dict = none) : s.TypeIs (.ref a) T ∧ ∀ b, Value.ref a = .ref b → ∃ ob, s.heap.get? b = some ob ∧ ob.dict = none :=
  ⟨⟨o, ho, hc⟩, fun b e => by cases e; exact ⟨o, ho, hd⟩⟩
theorem pe_cntL {ta tb : TE} (hg : Gd0 X) (ho : PE X ea ta) (he : PE X eb tb) (m : M1 X ea "count" apos eb pos) : PE X (.Call (.Attribute ea "count" apos) [eb] [] pos) (tCntL X.K ta tb) := by
  refine ⟨fun pins s σ H Q I h => ?_⟩
  refine wpAny_Call_method m.base m.few m.line PySem.F.plainAttrs_list PySem.F.slot_list_count PySem.F.type_list_count (thn (ho.run pins s σ H _ I h) fun u s1 ⟨x, H1, I1, rx, a, ex, ⟨xs, d⟩, q1⟩ => ?_)
  subst ex
  obtain rfl : u = Value.ref a := rx
  obtain ⟨its, _, pl, _⟩ := I1.list d
  obtain ⟨o, n, e1, e2, e3, e4⟩ := id pl
  obtain ⟨t1, t2⟩ := seq_type (h := s1.heap) (s := s1) e1 e2 e3
  refine ⟨t1, t2, ?_⟩
  rw [m.trees]
  refine Calls.callWith_builtin rfl (Calls.evalArgs_plain (Calls.spliced_cons (thn (he.run pins s1 σ H1 _ I1 q1) fun iv s2 ⟨y, H2, I2, ry, xs2, ds, d2, g1, g2, g3, g4, g5, g6, g7⟩ => Calls.spliced_nil ?_)))
  obtain ⟨its2, rv2, pl2, _⟩ := I2.list g1
  obtain ⟨as, ra⟩ := Dp.readsAll I2 ds xs2 its2 g2 rv2
  obtain ⟨bs, rb⟩ := Dp.reads I2 d2 y iv g3 ry
  exact PySem.SeqAt.count_list_data pl2.isList ra rb (PyData.plainAll_of_canLay0 _ g4) (PyData.plain_of_canLay0 _ g5) (by have := hg.un; omega) ⟨.int _, H2, I2.tok _, ⟨_, rfl⟩, g7⟩
theorem ge_count (g : Gd0 X) (ha : GE X Wx ea ma) (hb : GE X Wx eb mb) (m : M1 X ea "count" apos eb pos := by exact ⟨rfl, rfl, rfl, rfl⟩) : GE X Wx (.Call (.Attribute ea "count" apos) [eb] [] pos) (mCnt ma mb) := by
  refine PE.imp (pe_cntL g ha hb m) fun sh H Q ⟨W, sl, st, hr, hs, q⟩ => ?_
  refine rd_bind hr hs q fun d1 st1 W1 v1 H1 e1 x1 h1 s1 r1 p1 => ?_
  split at p1
  · rename_i hl
    unfold isLstD at hl
    split at hl
    · rename_i ds0 hds0
      obtain ⟨a, xs0, q1, q2, l0⟩ := rep_dlist h1 r1 hds0
      refine ⟨a, q1, ⟨xs0, .inl (.inl q2)⟩, ?_⟩
      refine rd_bind h1 s1 p1 fun d2 st2 W2 v2 H2 e2 x2 h2 s2 r2 p2 => ?_
      unfold fCnt at p2
      split at p2
      · rename_i ds hds
        unfold cntD lift at p2
        split at p2
        · rename_i dd hdd
          split at hdd
          · rename_i hc
            cases hdd
            obtain ⟨b, xs, g1, g2, l⟩ := rep_dlist h2 (x2.rep r1) hds
            rw [q1] at g1; cases g1
            exact ⟨xs, ds, deref st2 d2, .inl (.inl g2), repL_dp h2.sub ds hc.1 l, rep_dpR h2 r2 rfl hc.2.1, hc.1, hc.2.1, hc.2.2, p2.val h2 rfl⟩
          · cases hdd
        · exact p2.elim
      · exact p2.elim
    · cases hl
  · exact p1.elim
end
end Pv
set_option Elab.async false
set_option linter.all false
set_option maxRecDepth 100000
set_option maxHeartbeats 400000
namespace Pv
open PySem PySem.Spec L2
open PyProof.Rows hiding St

/-! ### walks of two together -/
section
variable {K : PySem.W.Frag} {W : Wd} {H : Hp} {st : Sto}
def pairD (d e : Pv.D) : Pv.D := .tuple [d, e]
theorem zipWith_at {α β γ : Type} (f : α → β → γ) (as : List α) (bs : List β) (i : Nat) (c : γ) (h : (List.zipWith f as bs)[i]? = some c) : ∃ a b, as[i]? = some a ∧ bs[i]? = some b ∧ c = f a b := by
  rw [List.getElem?_zipWith] at h
  cases ha : as[i]? with
  | none => rw [ha] at h; cases h
  | some a =>
    cases hb : bs[i]? with
    | none => rw [ha, hb] at h; cases h
    | some b => rw [ha, hb] at h; cases h; exact ⟨a, b, rfl, rfl, rfl⟩
theorem walk_pair {J J1 J2 : It} {ds es : List Pv.D} {k1 k2 : Sto → Prop} [DecidablePred k1] [DecidablePred k2] (h1 : WalkK K J1 W ⟨ds, k1⟩) (h2 : WalkK K J2 W ⟨es, k2⟩)
    (hs : ∀ (H : Hp) (i : Nat), (J1.stop ds.length H) → (J2.stop es.length H) → J.stop (min ds.length es.length) H)
    (hg : ∀ H i, J1.go i H → J2.go i H → J.go i H) (hy : ∀ H i v H', J.yld i H v H' → ∃ T x y, v = .ref T ∧ H T = none ∧ H' = upd H T (.tup [x, y]) ∧ J1.yld i H x H ∧ J2.yld i H y H) :
    WalkK K J W ⟨List.zipWith pairD ds es, fun st => k1 st ∧ k2 st⟩ := by
  intro W1 H1 st1 hr f r k
  obtain ⟨a1, a2⟩ := h1 W1 H1 st1 hr f r k.1
  obtain ⟨b1, b2⟩ := h2 W1 H1 st1 hr f r k.2
  refine ⟨by show J.stop (List.zipWith pairD ds es).length H1; rw [List.length_zipWith]; exact hs H1 0 a1 b1, fun i d hd => ?_⟩
  obtain ⟨d1, d2, e1, e2, e3⟩ := zipWith_at pairD ds es i d hd
  subst e3
  obtain ⟨g1, y1⟩ := a2 i d1 e1
  obtain ⟨g2, y2⟩ := b2 i d2 e2
  refine ⟨hg H1 i g1 g2, fun v H' y => ?_⟩
  obtain ⟨T, x, z, ev, hn, eH, q1, q2⟩ := hy H1 i v H' y
  subst ev; subst eH
  obtain ⟨W2, x2, hr2, r2⟩ := y1 x H1 q1
  obtain ⟨_, b2'⟩ := h2 W2 H1 st1 hr2 (fun b o e => x2.fr b o (f b o e)) (fun r a e => x2.at r a (‹∀ (r : Nat) (a : Addr), W.rho[r]? = some a → W1.rho[r]? = some a› r a e)) k.2
  obtain ⟨W3, x3, hr3, r3⟩ := (b2' i d2 e2).2 z H1 q2
  obtain ⟨hr4, x4⟩ := hr3.new (o := .tup [x, z]) hn
  exact ⟨_, (x2.trans x3).trans x4, hr4, ⟨T, [x, z], rfl, upd_same, x, [z], rfl, x4.rep (x3.rep r2), z, [], rfl, x4.rep r3, rfl⟩⟩
theorem walk_zipL {a b : Addr} {ds es : List Pv.D} {k1 k2 : Sto → Prop} [DecidablePred k1] [DecidablePred k2] (h1 : WalkK K (Itl K a) W ⟨ds, k1⟩) (h2 : WalkK K (Itl K b) W ⟨es, k2⟩) : WalkK K (Itz K a b) W ⟨List.zipWith pairD ds es, fun st => k1 st ∧ k2 st⟩ := by
  refine walk_pair h1 h2 (fun H _ ⟨xs, p1, p2⟩ ⟨ys, q1, q2⟩ => ⟨xs, ys, p1, q1, ?_⟩) (fun H i ⟨xs, x, p1, p2⟩ ⟨ys, y, q1, q2⟩ => ⟨xs, ys, x, y, p1, q1, p2, q2⟩) (fun H i v H' ⟨T, x, y, e1, e2, e3, e4, e5⟩ => ⟨T, x, y, e1, e2, e3, ⟨rfl, e4⟩, ⟨rfl, e5⟩⟩)
  by_cases h : ds.length ≤ es.length
  · left; rw [Nat.min_eq_left h]; exact p2
  · right; rw [Nat.min_eq_right (by omega)]; exact q2
theorem walk_zipT {a b : Addr} {ds es : List Pv.D} {k1 k2 : Sto → Prop} [DecidablePred k1] [DecidablePred k2] (h1 : WalkK K (Itt K a) W ⟨ds, k1⟩) (h2 : WalkK K (Itt K b) W ⟨es, k2⟩) : WalkK K (RZ.ItzT K a b) W ⟨List.zipWith pairD ds es, fun st => k1 st ∧ k2 st⟩ := by
  refine walk_pair h1 h2 (fun H _ ⟨xs, p1, p2⟩ ⟨ys, q1, q2⟩ => ⟨xs, ys, p1, q1, ?_⟩) (fun H i ⟨xs, x, p1, p2⟩ ⟨ys, y, q1, q2⟩ => ⟨xs, ys, x, y, p1, q1, p2, q2⟩) (fun H i v H' ⟨T, x, y, e1, e2, e3, e4, e5⟩ => ⟨T, x, y, e1, e2, e3, ⟨rfl, e4⟩, ⟨rfl, e5⟩⟩)
  by_cases h : ds.length ≤ es.length
  · left; rw [Nat.min_eq_left h]; exact p2
  · right; rw [Nat.min_eq_right (by omega)]; exact q2
end
/-- a list, a tuple (true) as a thing that is walked -/
def sideOf (d : Pv.D) (st : Sto) : Option (Bool × Src) :=
  match d with
  | .list ds => some (false, ⟨ds, always⟩)
  | .tuple ds => some (true, ⟨ds, always⟩)
  | .dict [(.none, .tuple ds)] => some (true, ⟨ds, always⟩)
  | .dict [(.none, .list ds)] => some (false, ⟨ds, always⟩)
  | .dict [(.int r, .none)] => (match st[r.toNat]? with | some (.lst ds) => some (false, ⟨ds, holdsLst r.toNat ds⟩) | _ => none)
  | _ => none
theorem side_rep {K : PySem.W.Frag} {W : Wd} {H : Hp} {st : Sto} {v : V} {d : Pv.D} {b : Bool} {s : Src} (hr : HR K W H st) (h : rep K W v d) (e : sideOf d st = some (b, s)) :
    ∃ a xs, v = .ref a ∧ s.keep st ∧ ((b = false ∧ SqL K H a xs ∧ WalkK K (Itl K a) W s) ∨ (b = true ∧ SqT K H a xs ∧ WalkK K (Itt K a) W s)) := by
  cases d with
  | list ds => cases e; obtain ⟨a, xs, q1, q2, l⟩ := h; exact ⟨a, xs, q1, trivial, .inl ⟨rfl, .inl (.inl (hr.sub _ _ q2)), walk_list (.inl (.inl q2)) l⟩⟩
  | tuple ds => cases e; obtain ⟨a, xs, q1, q2, l⟩ := h; exact ⟨a, xs, q1, trivial, .inr ⟨rfl, .inl (.inl (hr.sub _ _ q2)), walk_tup (fun W2 H2 st2 h2 f => .inl (.inl (h2.sub _ _ (f _ _ q2)))) l⟩⟩
  | dict kvs =>
    rcases rep_dict h with ⟨r, a, f1, f2, f3⟩ | ⟨ds', a, xs, f1, f2, f3, f4⟩ | ⟨ds', a, xs, f1, f2, f3, f4⟩ | ⟨ae, ade, ce, nse, fse, he⟩
    · subst f1
      unfold sideOf at e
      simp only [Int.toNat_natCast] at e
      obtain ⟨m, hm, _, ho⟩ := hr.at f3
      rw [hm] at e
      cases m with
      | lst ds => cases e; obtain ⟨xs, g1, g2⟩ := ho; exact ⟨a, xs, f2, hm, .inl ⟨rfl, .inl (.inl g1), walk_ref f3⟩⟩
      | ro _ => cases e
      | dct _ => cases e
      | dctT _ => cases e
      | tb _ _ => cases e
    · subst f1; cases e; exact ⟨a, xs, f2, trivial, .inr ⟨rfl, f3.T hr.sub, walk_tup (fun W2 H2 st2 h2 f => f3.T fun b o e => h2.sub _ _ (f b o e)) f4⟩⟩
    · subst f1; cases e; exact ⟨a, xs, f2, trivial, .inl ⟨rfl, sqL_mono hr.sub f3, walk_list f3 f4⟩⟩
    · subst he; cases e
  | _ => cases e
def zipOf (x y : Pv.D) (st : Sto) : R Src :=
  match sideOf x st, sideOf y st with
  | some (b, s), some (c, t) => if b = c then .ok ⟨List.zipWith pairD s.items t.items, fun st => s.keep st ∧ t.keep st⟩ st else .bad
  | _, _ => .bad
def mZip (a b : M) : MI := fun sl st => (a sl st).bind fun x st => (b sl st).bind fun y st => zipOf x y st
theorem WalkK.mono {K : PySem.W.Frag} {J : It} {W W' : Wd} {s : Src} (h : WalkK K J W s) (f : ∀ b o, W.F b = some o → W'.F b = some o) (r : ∀ (r : Nat) (a : Addr), W.rho[r]? = some a → W'.rho[r]? = some a) : WalkK K J W' s :=
  fun W1 H1 st1 h1 f1 r1 k => h W1 H1 st1 h1 (fun b o e => f1 b o (f b o e)) (fun q a e => r1 q a (r q a e)) k
section
variable {X : Cx} {Wx : WX} {ea eb e : Expr} {ma mb mc : M} {pos p tpos : Pos} {elts : List Expr} {kk : Nat}
theorem gi_zip (hm : X.mg "zip" = none) (ha : GE X Wx ea ma) (hb : GE X Wx eb mb) (hg : Gl X "zip" := by rfl)
    (hs2 : starEach [eb] X.env = (false, eval eb X.env) :: starEach [] X.env := by rfl) (hs : starEach [ea, eb] X.env = (false, eval ea X.env) :: starEach [eb] X.env := by rfl) (hpl : (backTo pos (starEach [eb] X.env)).any (·.1) = false := by rfl) :
    GI X Wx (.Tuple elts kk tpos) (.Call (.Name "zip" p) [ea, eb] [] pos) (mZip ma mb) := by
  refine PI.imp (RZ.pi_zipA hg hm (pa_cons ha (pa_cons hb pa_nil hs2) hs) hs hpl) fun sh H R ⟨W, sl, st, hr, hs, q⟩ => ?_
  refine rd_bindI hr hs q fun d1 st1 W1 v1 H1 e1 x1 h1 s1 r1 p1 => ?_
  refine rd_bindI h1 s1 p1 fun d2 st2 W2 v2 H2 e2 x2 h2 s2 r2 p2 => ?_
  unfold zipOf at p2
  split at p2
  · rename_i b s c t q1 q2
    split at p2
    · rename_i hbc
      subst hbc
      obtain ⟨a, xs, g1, g2, g3⟩ := side_rep h2 (x2.rep r1) q1
      obtain ⟨a', xs', g4, g5, g6⟩ := side_rep h2 r2 q2
      subst g1; subst g4
      refine ⟨a, a', xs, xs', rfl, ?_⟩
      rcases g3 with ⟨k1, k2, k3⟩ | ⟨k1, k2, k3⟩
      · rcases g6 with ⟨j1, j2, j3⟩ | ⟨j1, j2, j3⟩
        · exact .inl ⟨k2, j2, p2 W2 H2 _ .refl h2 (walk_zipL k3 j3)⟩
        · rw [k1] at j1; cases j1
      · rcases g6 with ⟨j1, j2, j3⟩ | ⟨j1, j2, j3⟩
        · rw [k1] at j1; cases j1
        · exact .inr ⟨k2, j2, p2 W2 H2 _ .refl h2 (walk_zipT k3 j3)⟩
    · exact p2.elim
  · exact p2.elim
end
end Pv
set_option Elab.async false
set_option linter.all false
set_option maxRecDepth 100000
set_option maxHeartbeats 1000000
namespace Pv
open PySem PySem.Spec L2
open PyProof.Rows hiding St

/-! ### dict comprehensions, keys of both kinds -/
theorem dictSet_put {X : Cx} {pins : List (Addr × Obj)} {sg : L2.St} {H Hn : Hp} {s : Shared} {E : Value → Shared → Prop} {Dd : Addr} {y z : V} {yv zv : Value} {Q : Unit → Shared → Prop} (hu : X.A.units + 1 < cLine) (I : Inv X pins sg H s) (hp : DPut H Dd y z Hn)
    (ry : RelV y yv) (rz : RelV z zv) (fin : ∀ t, Inv X pins sg Hn t → Q () t) : wpAny (model X.prog X.w) X.A (dictSet Dd yv zv) Q E s := by
  rcases hp with ⟨kvs, k, eD, ey, small, eH⟩ | ⟨kvs, k, b, eD, ey, eb, small, eH⟩
  · subst ey; subst eH
    exact d_dictSet I eD small ry rz fin
  · subst ey; subst eH
    cases (show yv = Value.ref b from ry)
    obtain ⟨le, own, ents, paired, isd⟩ := dt_of I.hok eD
    have lx : ents.length ≤ sizeLine := by rw [← Paired.length paired]; exact le
    have lp : (putK kvs k z).length ≤ sizeLine := by have := length_putK kvs k z; omega
    refine wpAny_dictSet_heap (hsz := lx) (show X.A.units < cLine by omega) (key_of I.hok eb) isd fun g isd' same => fin _ ?_
    obtain ⟨ob, es, ep, hob, c2, c3, c4, _, c5⟩ := isd'
    refine d_write I (by rw [eD]; exact True.intro) same ⟨ob, hob⟩ ⟨lp, own, _, (paired.put k eb rz).keeps fun c ys ec => ?_, ob, es, ep, hob, c2, c3, c4, c5⟩
    rw [upd_ne (ne_of ec eD (fun q => nomatch q))]
    exact ec
def tDcU (o0 : HO) (wi : TI) (tg : TG) (tt : TT) (tk tv : TE) (vs : List Nat) : TE := fun sg H Q => wi sg H fun J Ha => ∀ Dd, Ha Dd = none → ∃ Wv : Nat → Nat → Hp → Prop, (∃ m, Wv 0 m (upd Ha Dd o0)) ∧ ∀ i m Hb, Wv i m Hb →
  (J.stop i Hb ∧ Q (.ref Dd) Hb) ∨ (J.go i Hb ∧ ∃ Nx : Hp → Prop, (∀ Hc, Nx Hc → ∃ m', m' < m ∧ Wv (i + 1) m' Hc) ∧ ∀ x Hc, J.yld i Hb x Hc → tg x (wipe sg vs) Hc fun sg2 H2 => wipe sg2 vs = wipe sg vs ∧ tt sg2 H2 fun b H3 =>
    if b = true then tk sg2 H3 fun y H4 => tv sg2 H4 fun z H5 => ∃ Hn, DPut H5 Dd y z Hn ∧ Nx Hn else Nx H3)
section
variable {X : Cx}
theorem pe_dcU {o0 : HO} {kx vx tgx iter : Expr} {ifs : List Expr} {scope : Scope} {own : List (Str × Nat)} {pos : Pos} {wi : TI} {tg : TG} {tt : TT} {tk tv : TE}
    (ok0 : ∀ (P : Program) (w : World) (H : Hp) (g : Heap), sysModules < g.objs.size → ObjOk P w H (g.push { cls := .type "dict", data := .dict #[] }) g.objs.size o0)
    (hu : X.A.units + 1 < cLine) (calm : X.calm = true) (nd : X.N.Nodup) (hi : PI X tgx iter wi) (blk : BlkOk X.N X.env.scope scope own)
    (pT : ∀ (s : Shared) (H : Hp) (C : Addr) (cl : List (Str × Addr)) (fp : List Addr), PG (X.blk s H scope (compEnvC scope cl C X.env) fp) tgx tg)
    (pF : ∀ (s : Shared) (H : Hp) (C : Addr) (cl : List (Str × Addr)) (fp : List Addr), PTs (X.blk s H scope (compEnvC scope cl C X.env) fp) ifs tt)
    (pK : ∀ (s : Shared) (H : Hp) (C : Addr) (cl : List (Str × Addr)) (fp : List Addr), PE (X.blk s H scope (compEnvC scope cl C X.env) fp) kx tk)
    (pV : ∀ (s : Shared) (H : Hp) (C : Addr) (cl : List (Str × Addr)) (fp : List Addr), PE (X.blk s H scope (compEnvC scope cl C X.env) fp) vx tv) (fold : ∀ x, foldedSetIterable iter X.env x = pure x := by intro _; rfl) :
    PE X (.DictComp kx vx [⟨tgx, iter, ifs, 0⟩] scope pos) (tDcU o0 wi tg tt tk tv (own.map (·.2))) := by
  refine ⟨fun pins s sg H Q I h => ?_⟩
  rw [arm_eval_DictComp]
  have free : ∀ y ∈ scope.names, y.2 = .free → ∃ c, X.env.cells.lookup y.1 = some c := fun y hy e => (blk.free y hy e).elim (fun k => I.ok.has _ (.inl k)) fun k => I.ok.has _ (.inr k)
  refine wpAny_comprehension_free (use := none) rfl fold (closure_ok free) blk.kind (fun y hy e => by rw [blk.uniq y hy, e]) (thn (hi.run pins s sg H _ I h) fun _ sa ha => thn ha fun _ sb hb => ?_)
  obtain ⟨it, fp, tn, J, Hb, e0, Ib, Tn, stb, fpb, qb⟩ := hb
  subst e0
  refine wpAny_newObj_type (newEnv_comp ?_)
  -- the new dict's place
  generalize eD : sb.heap.objs.size = Dd
  obtain ⟨Wv, ⟨m0, w0⟩, turn⟩ := qb Dd (Ib.hok.fresh (Nat.le_of_eq eD))
  generalize eSc : ({ sb with heap := sb.heap.push { cls := .type "dict", data := .dict #[] } } : Shared) = sc
  have hc' : sc.heap = sb.heap.push { cls := .type "dict", data := .dict #[] } := by rw [← eSc]
  have Ic : Inv X pins sg (upd Hb Dd o0) sc := by
    rw [← eSc]
    exact Ib.laid (t' := sb.toks) (fun b o e => Heap.get?_push_of_some _ e) (Nat.le_of_eq eD) (by rw [← eD]; exact ok0 _ _ _ sb.heap Ib.big)
  have low : ∀ b ∈ fp, b < sb.heap.objs.size := fun b hm => let ⟨_, e, _⟩ := Tn.obj _ _ stb b hm; Heap.lt_size e
  have fpc : ∀ b ∈ fp, FpOk X pins (upd Hb Dd o0) b ∧ b < sc.heap.objs.size := fun b hm =>
    ⟨⟨by rw [upd_ne (by rw [← eD]; exact Nat.ne_of_lt (low b hm))]; exact (fpb b hm).1, (fpb b hm).2⟩, by rw [hc', Heap.size_push]; exact Nat.lt_succ_of_lt (low b hm)⟩
  have stc : tn 0 sc.heap := Tn.keep _ _ _ stb fun b _ o e => by rw [hc']; exact Heap.get?_push_of_some _ e
  have Id := block_start Ic blk nd fpc
  have gT := pT sc (upd Hb Dd o0) sc.heap.objs.size (cellsFrom (sc.heap.objs.size + 1) scope.names (cloFrom X.env.cells scope.names [])) fp
  have gF := pF sc (upd Hb Dd o0) sc.heap.objs.size (cellsFrom (sc.heap.objs.size + 1) scope.names (cloFrom X.env.cells scope.names [])) fp
  have gK := pK sc (upd Hb Dd o0) sc.heap.objs.size (cellsFrom (sc.heap.objs.size + 1) scope.names (cloFrom X.env.cells scope.names [])) fp
  have gV := pV sc (upd Hb Dd o0) sc.heap.objs.size (cellsFrom (sc.heap.objs.size + 1) scope.names (cloFrom X.env.cells scope.names [])) fp
  show codeAny _ _ (.compStart (.DictComp kx vx [⟨tgx, iter, ifs, 0⟩] scope pos) 0 (.ref it) (.ref Dd) (compEnvC scope (cellsFrom (sc.heap.objs.size + 1) scope.names (cloFrom X.env.cells scope.names [])) sc.heap.objs.size X.env))
    (compPost (model X.prog X.w) X.A X.xe none _ (.ref Dd) sc.heap.objs.size) { sc with heap := pushCells (sc.heap.push { cls := .type "dict", data := .dict #[] }) scope.names }
  have cold : ∀ b ∈ fp, (upd Hb Dd o0) b = none := fun b hm => (fpc b hm).1.1
  generalize eEnv : compEnvC scope (cellsFrom (sc.heap.objs.size + 1) scope.names (cloFrom X.env.cells scope.names [])) sc.heap.objs.size X.env = env2 at Id gT gF gK gV ⊢
  have envL : env2.locals = sc.heap.objs.size := by subst eEnv; rfl
  generalize eHc : upd Hb Dd o0 = Hc at Ic Id gT gF gK gV w0 cold fpc
  generalize eSd : ({ sc with heap := pushCells (sc.heap.push { cls := .type "dict", data := .dict #[] }) scope.names } : Shared) = sd at Id ⊢
  have std : tn 0 sd.heap := Tn.keep _ _ _ stc fun b _ o e => by rw [← eSd]; exact pushCells_keeps _ _ _ _ (Heap.get?_push_of_some _ e)
  have fpStay : ∀ {sg' : L2.St} {H' : Hp} {t : Shared}, Inv (X.blk sc Hc scope env2 fp) [] sg' H' t → (∀ b ∈ fp, H' b = none) → ∀ b ∈ fp, FpOk (X.blk sc Hc scope env2 fp) [] H' b := fun {sg' H' t} I' hn b hm =>
    ⟨hn b hm, (I'.ok.exf b hm).1, I'.ok.exfs b hm, .inl hm, fun x c e => (I'.ok.exf b hm).2 x c e, fun p hp => absurd (show p ∈ ([] : List (Addr × Obj)) ++ [] from hp) (by simp)⟩
  have body : codeAny (model X.prog X.w) X.A (.compLoop (.DictComp kx vx [⟨tgx, iter, ifs, 0⟩] scope pos) 0 (.ref it) (.ref Dd) env2) (compPost (model X.prog X.w) X.A X.xe none (EP X pins sg Q) (.ref Dd) sc.heap.objs.size) sd := by
    refine compLoop_anyD (fun n t => ∃ i H', Inv (X.blk sc Hc scope env2 fp) [] (wipe sg (own.map (·.2))) H' t ∧ tn i t.heap ∧ (∀ b ∈ fp, H' b = none) ∧ Wv i n H') ?_ m0 ⟨0, Hc, Id, std, cold, w0⟩
    rintro n se ⟨i, He, Ie, ste, ne, we⟩
    rcases turn i n He we with ⟨stop, done⟩ | ⟨go, Nx, toNx, step⟩
    · refine thnF (Tn.done (X.blk sc Hc scope env2 fp) rfl rfl rfl calm i [] se _ He (fun _ _ => False) Ie (fpStay Ie ne) ste stop) fun r sf ⟨hr, If⟩ => ?_
      subst hr
      have Ig : Inv X pins sg He sf := Ic.call' (ch := fp) If.os If.base If.hok If.bare fun b hm => ⟨(fpc b hm).1.2.2.2.1, (fpc b hm).1.2.1, (fpc b hm).1.2.2.2.2.1, (fpc b hm).1.2.2.2.2.2⟩
      have noC : He sc.heap.objs.size = none := by have z : He env2.locals = none := If.free; rwa [envL] at z
      obtain ⟨m, hn, _⟩ := If.loc
      have hn : sf.heap.Ns env2.locals m := hn
      rw [envL] at hn
      refine ⟨m, hn, fun g sb' => ?_⟩
      obtain ⟨k0, k1, k2, k3, k4, k5⟩ := Ic.fpOk (Nat.le_refl _) noC
      exact ⟨.ref Dd, He, Ig.turned (t' := sf.toks) (fun b o hb e => (sb'.2 b hb).trans e) k0 k1 k3 k4 k5, rfl, done⟩
    · refine thnF (Tn.item (X.blk sc Hc scope env2 fp) rfl rfl rfl calm i [] se _ He (fun _ _ => False) Ie (fpStay Ie ne) ste go) fun r sf ⟨u, hr, hf⟩ => ?_
      subst hr
      refine thnF hf fun _ sh ⟨x, Hh, Ih, rh, yh, sth, nh⟩ => ?_
      refine thnF (gT.run _ sh _ Hh x u _ (Ih.pinned (fpStay Ih nh) (Tn.obj _ _ sth)) rh (step x Hh yh)) fun _ si ⟨sg2, Hi, Ii, hw, qi⟩ => ?_
      refine thnF (gF.run _ si sg2 Hi _ Ii qi) fun b sj ⟨Hj, Ij, qj⟩ => ?_
      have close : ∀ {t : Shared} {H' : Hp}, Inv (X.blk sc Hc scope env2 fp) ([] ++ pinsAt fp sh.heap) sg2 H' t → Nx H' → ∃ m, m < n ∧ ∃ i H', Inv (X.blk sc Hc scope env2 fp) [] (wipe sg (own.map (·.2))) H' t ∧ tn i t.heap ∧ (∀ b ∈ fp, H' b = none) ∧ Wv i m H' := fun {t H'} I' nx => by
        obtain ⟨m', hm, w'⟩ := toNx H' nx
        have pinned : ∀ b ∈ fp, ∀ o, sh.heap.get? b = some o → t.heap.get? b = some o ∧ H' b = none := fun b hb o e =>
          let z := I'.pin (b, o) (List.mem_append_right _ (List.mem_append_right _ (mem_pinsAt hb e)))
          ⟨z.1, z.2.1⟩
        have hl : (wipe sg (own.map (·.2))).length = sg2.length := by rw [← hw, wipe_length]
        refine ⟨m', hm, i + 1, H', (I'.unpinned (pins := [])).weak hl (fun j v e => ?_), Tn.keep _ _ _ sth fun b hb o e => (pinned b hb o e).1, fun b hb => ?_, w'⟩
        · rw [← hw] at e; exact (wipe_some e).1
        · obtain ⟨o, e, _⟩ := Tn.obj _ _ sth b hb
          exact (pinned b hb o e).2
      cases b with
      | false => simp only [Bool.false_eq_true, if_false] at qj ⊢; exact close Ij qj
      | true =>
        simp only [if_true] at qj ⊢
        refine thnF (gK.run _ sj sg2 Hj _ Ij qj) fun z sk ⟨yk, Hk, Ik, rk, qk⟩ => ?_
        refine thnF (gV.run _ sk sg2 Hk _ Ik qk) fun z2 sl ⟨yv, Hl, Il, rl, Hn, put, nx⟩ => ?_
        exact dictSet_put (X := X.blk sc Hc scope env2 fp) hu Il put rk rl fun t I' => close I' nx
  exact codeAny_compStart_dict body (Tn.self X.A 0 _ _ _ std body)
end
end Pv
set_option Elab.async false
set_option linter.all false
set_option maxRecDepth 100000
set_option maxHeartbeats 1000000
namespace Pv
open PySem PySem.Spec L2
open PyProof.Rows hiding St

def dcL {κ : Type} [DecidableEq κ] (key : Pv.D → Option κ) (keep : Sto → Prop) [DecidablePred keep] (t : CT) (tt : MT) (tk tv : M) (sl : Sl) : List Pv.D → List (κ × Pv.D) → Sto → R (List (κ × Pv.D))
  | [], acc, st => if keep st then .ok acc st else .bad
  | d :: ds, acc, st => if keep st then (match ctSet t d sl with
    | none => .bad
    | some sl2 => match tt sl2 st with
      | .ok true st => (match tk sl2 st with
        | .ok yk st => (match tv sl2 st with
          | .ok yv st => (match key yk with
            | some k => if acc.length < sizeLine then dcL key keep t tt tk tv sl ds (putD acc k yv) st else .bad
            | none => .bad)
          | _ => .bad)
        | _ => .bad)
      | .ok false st => dcL key keep t tt tk tv sl ds acc st
      | _ => .bad) else .bad
theorem dcL_nx {κ : Type} [DecidableEq κ] {key : Pv.D → Option κ} {keep : Sto → Prop} [DecidablePred keep] {t : CT} {tt : MT} {tk tv : M} {sl : Sl} : ∀ (ds : List Pv.D) (acc : List (κ × Pv.D)) (st : Sto) (x : XV) (s2 : Sto), dcL key keep t tt tk tv sl ds acc st ≠ .exc x s2
  | [], acc, st, x, s2 => by unfold dcL; split <;> simp
  | d :: ds, acc, st, x, s2 => by
    unfold dcL
    split
    · split
      · simp
      · split
        · split
          · split
            · split
              · split
                · exact dcL_nx ds _ _ _ _
                · simp
              · simp
            · simp
          · simp
        · exact dcL_nx ds _ _ _ _
        · simp
    · simp
section
variable {κ : Type} [DecidableEq κ] {N : Nv} {W : Wd} {H : Hp} {st : Sto} {sh : L2.St} {sl : Sl} {Wx : WX}
theorem dc_loop {J : It} {s : Src} {t : CT} {tt : MT} {tk tv : M} {vs : List Nat} {Q : VK} {W1 : Wd} {H1 : Hp} {st1 st2 : Sto} {ys : List (κ × Pv.D)} {key : Pv.D → Option κ} {ho : List (κ × V) → HO} (hin : ctIn t vs = true) (h1 : HR N.K W1 H1 st1) (s1 : SR N.K W1 sh sl) (wk : WalkK N.K J W1 s)
    (hput : ∀ (W : Wd) (H : Hp) (st : Sto) (Dd : Addr) (y z : V) (yd : Pv.D) (k : κ) (ks : List (κ × V)), HR N.K W H st → rep N.K W y yd → key yd = some k → H Dd = some (ho ks) → ks.length < sizeLine → DPut H Dd y z (upd H Dd (ho (putK ks k z))))
    (hplain : ∀ ks, plainO (ho ks) = true) (e : dcL key s.keep t tt tk tv (wipeD sl vs) s.items [] st1 = .ok ys st2) {Dd : Addr} (hD : H1 Dd = none)
    (fin : ∀ W2 H2 xs, Bes W1 H1 Dd W2 H2 → HR N.K W2 H2 st2 → H2 Dd = some (ho xs) → repP N.K W2 xs ys → Q (.ref Dd) H2) :
    ∃ Wv : Nat → Nat → Hp → Prop, (∃ m, Wv 0 m (upd H1 Dd (ho []))) ∧ ∀ i m Hb, Wv i m Hb →
      (J.stop i Hb ∧ Q (.ref Dd) Hb) ∨ (J.go i Hb ∧ ∃ Nx : Hp → Prop, (∀ Hc, Nx Hc → ∃ m', m' < m ∧ Wv (i + 1) m' Hc) ∧ ∀ x Hc, J.yld i Hb x Hc → gct N.K t x (wipe sh vs) Hc fun sg2 H2 => wipe sg2 vs = wipe sh vs ∧ rdT N (fun _ _ _ _ => False) tt sg2 H2 fun b H3 =>
        if b = true then rd N (fun _ _ _ _ => False) tk sg2 H3 fun y H4 => rd N (fun _ _ _ _ => False) tv sg2 H4 fun z H5 => ∃ Hn, DPut H5 Dd y z Hn ∧ Nx Hn else Nx H3) := by
  let P : Nat → Hp → Prop := fun i H => ∃ (W2 : Wd) (st : Sto) (xs : List (κ × V)) (acc : List (κ × Pv.D)), Bes W1 H1 Dd W2 H ∧ HR N.K W2 H st ∧ H Dd = some (ho xs) ∧ repP N.K W2 xs acc ∧ dcL key s.keep t tt tk tv (wipeD sl vs) (s.items.drop i) acc st = .ok ys st2
  have hDr : Dd ∉ W1.rho := h1.free hD
  have b0 : Bes W1 H1 Dd W1 H1 := ⟨.refl, hDr, h1.freeF hD⟩
  obtain ⟨b1, h1'⟩ := b0.write (u := ho []) h1 hD (tabs_new h1.tab hD)
  refine ⟨fun i m H => i ≤ s.items.length ∧ m = s.items.length - i ∧ P i H, ⟨_, Nat.zero_le _, rfl, ⟨W1, st1, [], [], b1, h1', upd_same, .nil, by simpa using e⟩⟩, ?_⟩
  rintro i m H ⟨hi, hm, W2, st, xs, acc, b2, h2, hx, l, el⟩
  have hk : s.keep st := by
    cases q : s.items.drop i with
    | nil => rw [q] at el; unfold dcL at el; by_cases z : s.keep st; exact z; rw [if_neg z] at el; cases el
    | cons d r => rw [q] at el; unfold dcL at el; by_cases z : s.keep st; exact z; rw [if_neg z] at el; cases el
  obtain ⟨stp, go⟩ := wk W2 H st h2 b2.e.fr b2.e.at hk
  by_cases hlt : i < s.items.length
  · obtain ⟨gi, yi⟩ := go i _ (List.getElem?_eq_getElem hlt)
    refine .inr ⟨gi, P (i + 1), fun H' p' => ⟨s.items.length - (i + 1), by omega, hlt, rfl, p'⟩, fun x H3 y => ?_⟩
    obtain ⟨W3, x3, h3, rx⟩ := yi x H3 y
    obtain ⟨b3, hx3⟩ := b2.step x3 hx (hplain _)
    rw [List.drop_eq_getElem_cons hlt] at el
    unfold dcL at el
    rw [if_pos hk] at el
    cases e1 : ctSet t s.items[i] (wipeD sl vs) with
    | none => rw [e1] at el; cases el
    | some sl2 =>
      rw [e1] at el
      simp only at el
      have s3 : SR N.K W3 (wipe sh vs) (wipeD sl vs) := SR.wipes vs ⟨s1.len, fun j d q => let ⟨v, a, b⟩ := s1.at_ j d q; ⟨v, a, rep_mono b3.e.fr b3.e.at d b⟩⟩
      refine ct_run hin h3 s3 rx e1 _ fun sh2 s4 l4 w4 => ?_
      rw [wipe_wipe vs vs fun _ z => z] at w4
      refine ⟨w4, W3, sl2, st, h3, s4, ?_⟩
      cases e2 : tt sl2 st with
      | bad => rw [e2] at el; cases el
      | exc _ _ => rw [e2] at el; cases el
      | ok b st3 =>
        rw [e2] at el
        intro W4 H4 x4 h4
        obtain ⟨b4, hx4⟩ := b3.step x4 hx3 (hplain _)
        cases b with
        | false =>
          simp only [Bool.false_eq_true, if_false]
          exact ⟨W4, st3, xs, acc, b4, h4, hx4, repP_mono x4.fr x4.at (repP_mono x3.fr x3.at l), el⟩
        | true =>
          simp only [if_true]
          refine ⟨W4, sl2, st3, h4, s4.ext x4, ?_⟩
          simp only at el
          cases e3 : tk sl2 st3 with
          | bad => rw [e3] at el; cases el
          | exc _ _ => rw [e3] at el; cases el
          | ok yd st4 =>
            rw [e3] at el
            simp only at el
            intro W5 v5 H5 x5 h5 r5
            obtain ⟨b5, hx5⟩ := b4.step x5 hx4 (hplain _)
            refine ⟨W5, sl2, st4, h5, (s4.ext x4).ext x5, ?_⟩
            cases e4 : tv sl2 st4 with
            | bad => rw [e4] at el; cases el
            | exc _ _ => rw [e4] at el; cases el
            | ok zd st5 =>
              rw [e4] at el
              simp only at el
              intro W6 v6 H6 x6 h6 r6
              obtain ⟨b6, hx6⟩ := b5.step x6 hx5 (hplain _)
              split at el
              · rename_i k ek
                split at el
                · rename_i hz
                  have l6 : repP N.K W6 xs acc := repP_mono x6.fr x6.at (repP_mono x5.fr x5.at (repP_mono x4.fr x4.at (repP_mono x3.fr x3.at l)))
                  have hlen : xs.length < sizeLine := by rw [repP_length l6]; exact hz
                  obtain ⟨b7, h7⟩ := b6.write (u := ho (putK xs k v6)) h6 hD (tabs_set h6.tab hx6 (hplain _))
                  exact ⟨_, hput W6 H6 st5 Dd v5 v6 yd k xs h6 (x6.rep r5) ek hx6 hlen, W6, st5, putK xs k v6, putD acc k zd, b7, h7, upd_same, put_rep l6 k r6, el⟩
                · cases el
              · cases el
  · have ei : i = s.items.length := by omega
    subst ei
    rw [List.drop_length] at el
    unfold dcL at el
    rw [if_pos hk] at el
    cases el
    exact .inl ⟨stp, fin W2 H xs b2 h2 hx l⟩
end
def keyT : Pv.D → Option (List Key)
  | .tuple ds => keysOf ds
  | _ => none
def mDcK (mi : MI) (t : CT) (tt : MT) (tk tv : M) (vs : List Nat) : M := fun sl st => (mi sl st).bind fun s st => (dcL keyOf s.keep t tt tk tv (wipeD sl vs) s.items [] st).bind fun ys st => .ok (Rf st.length) (st ++ [.dct ys])
def mDcT (mi : MI) (t : CT) (tt : MT) (tk tv : M) (vs : List Nat) : M := fun sl st => (mi sl st).bind fun s st => (dcL keyT s.keep t tt tk tv (wipeD sl vs) s.items [] st).bind fun ys st => .ok (Rf st.length) (st ++ [.dctT ys])
section
variable {X : Cx} {Wx : WX} {W : Wd} {H : Hp} {st : Sto} {sh : L2.St} {sl : Sl} {kx vx tg iter : Expr} {ifs : List Expr} {scope : Scope} {pos : Pos} {mi : MI} {t : CT} {tt : MT} {tk tv : M}
theorem Bes.adopt {K : PySem.W.Frag} {W W1 : Wd} {H H1 : Hp} {st : Sto} {Dd : Addr} {m : MO} (b : Bes W H Dd W1 H1) (h : HR K W1 H1 st) (hD : Nn H Dd) (htb : noTb m = true) (hm : repO K ⟨W1.F, W1.rho ++ [Dd]⟩ H1 Dd m) :
    HR K ⟨W1.F, W1.rho ++ [Dd]⟩ H1 (st ++ [m]) ∧ Ext W H ⟨W1.F, W1.rho ++ [Dd]⟩ H1 ∧ rep K ⟨W1.F, W1.rho ++ [Dd]⟩ (.ref Dd) (Rf st.length) := by
  refine ⟨HR.keepM h b.n b.f hm htb, ⟨b.e.fr, ?_, b.e.out, b.e.non, b.e.nf⟩, ⟨st.length, Dd, rfl, rfl, by show (W1.rho ++ [Dd])[st.length]? = some Dd; rw [← h.len]; simp⟩⟩
  obtain ⟨r, e, hm⟩ := b.e.rh
  refine ⟨r ++ [Dd], by show W1.rho ++ [Dd] = _; rw [e, List.append_assoc], fun a ha => ?_⟩
  rcases List.mem_append.mp ha with z | z
  · exact hm a z
  · have : a = Dd := by simpa using z
    rw [this]; exact hD
theorem Bes.repP {κ : Type} {K : PySem.W.Frag} {W1 : Wd} {Dd : Addr} {xs : List (κ × V)} {ys : List (κ × Pv.D)} (h : Pv.repP K W1 xs ys) : Pv.repP K ⟨W1.F, W1.rho ++ [Dd]⟩ xs ys :=
  repP_mono (W := W1) (W' := ⟨W1.F, W1.rho ++ [Dd]⟩) (fun _ _ z => z) (fun r b z => by
    show (W1.rho ++ [Dd])[r]? = some b
    rw [List.getElem?_append_left (List.getElem?_eq_some_iff.mp z).1]; exact z) h
theorem dc_read {κ : Type} [DecidableEq κ] {key : Pv.D → Option κ} {ho : List (κ × V) → HO} {mo : List (κ × Pv.D) → MO} {vs : List Nat} {Q : VK} (hin : ctIn t vs = true)
    (hmo : ∀ (W : Wd) (H : Hp) (a : Addr) (xs : List (κ × V)) (ys : List (κ × Pv.D)), H a = some (ho xs) → repP X.K W xs ys → repO X.K W H a (mo ys))
    (hput : ∀ (W : Wd) (H : Hp) (st : Sto) (Dd : Addr) (y z : V) (yd : Pv.D) (k : κ) (ks : List (κ × V)), HR X.K W H st → rep X.K W y yd → key yd = some k → H Dd = some (ho ks) → ks.length < sizeLine → DPut H Dd y z (upd H Dd (ho (putK ks k z))))
    (hplain : ∀ ks, plainO (ho ks) = true) (htb : ∀ ys, noTb (mo ys) = true) (hr : HR X.K W H st) (hs : SR X.K W sh sl) (p : Post (nv X) W H Q (fun cls dd H' => Wx cls dd sh H') ((mi sl st).bind fun s st => (dcL key s.keep t tt tk tv (wipeD sl vs) s.items [] st).bind fun ys st => .ok (Rf st.length) (st ++ [mo ys]))) :
    tDcU (ho []) (fun sh H R => rdI (nv X) Wx mi sh H R) (gct X.K t) (rdT (nv X) WF tt) (rd (nv X) WF tk) (rd (nv X) WF tv) vs sh H Q := by
  refine ⟨W, sl, st, hr, hs, ?_⟩
  cases e : mi sl st with
  | bad => rw [e] at p; exact p
  | exc x s2 => rw [e] at p; exact p
  | ok s st1 =>
    rw [e] at p
    simp only [R.bind_ok] at p
    intro W1 H1 J x1 h1 wk Dd hD
    cases e2 : dcL key s.keep t tt tk tv (wipeD sl vs) s.items [] st1 with
    | bad => rw [e2] at p; exact p.elim
    | exc _ _ => exact absurd e2 (dcL_nx _ _ _ _ _)
    | ok ys st2 =>
      rw [e2] at p
      simp only [R.bind_ok] at p
      refine dc_loop hin h1 (hs.ext x1) wk hput hplain e2 hD fun W2 H2 xs b h2 hx l => ?_
      have b' : Bes W H Dd W2 H2 := ⟨x1.trans b.e, b.n, b.f⟩
      obtain ⟨q1, q2, q3⟩ := b'.adopt h2 (x1.non _ (.of hD)) (htb ys) (hmo _ H2 Dd xs ys hx (Bes.repP l))
      exact p _ (.ref Dd) H2 q2 q1 q3
theorem ge_dcK (own : List (Str × Nat)) (t : CT) (g : Gd X) (hi : GI X Wx tg iter mi) (ok : BlkOk X.N X.env.scope scope own)
    (hg : ∀ s H C cl fp, Gd (Bk X scope s H C cl fp) → PG (Bk X scope s H C cl fp) tg (gct X.K t)) (ht : ∀ s H C cl fp, Gd (Bk X scope s H C cl fp) → GTs (Bk X scope s H C cl fp) WF ifs tt)
    (hk : ∀ s H C cl fp, Gd (Bk X scope s H C cl fp) → GE (Bk X scope s H C cl fp) WF kx tk) (hv : ∀ s H C cl fp, Gd (Bk X scope s H C cl fp) → GE (Bk X scope s H C cl fp) WF vx tv) (hin : ctIn t (own.map (·.2)) = true := by rfl) (hs : ∀ x, foldedSetIterable iter X.env x = pure x := by intro _; rfl) :
    GE X Wx (.DictComp kx vx [⟨tg, iter, ifs, 0⟩] scope pos) (mDcK mi t tt tk tv (own.map (·.2))) := by
  refine PE.imp (pe_dcU (o0 := .dK []) (tt := rdT (nv X) WF tt) (tk := rd (nv X) WF tk) (tv := rd (nv X) WF tv) (fun P w H g hb => dk_empty g hb) (by have := g.un; omega) g.calm g.nd hi ok (fun s H C cl fp => hg s H C cl fp g.blk) (fun s H C cl fp => ht s H C cl fp g.blk) (fun s H C cl fp => hk s H C cl fp g.blk) (fun s H C cl fp => hv s H C cl fp g.blk) hs) fun sh H Q ⟨W, sl, st, hr, hs, p⟩ => ?_
  exact dc_read (ho := .dK) (mo := .dct) hin (fun W H a xs ys e l => ⟨xs, e, l⟩) (fun W H st Dd y z yd k ks h r e hD hl => by rw [keyOf_rep r e]; exact DPut.k hD hl) (fun _ => rfl) (fun _ => rfl) hr hs p
theorem ge_dcT (own : List (Str × Nat)) (t : CT) (g : Gd X) (hi : GI X Wx tg iter mi) (ok : BlkOk X.N X.env.scope scope own)
    (hg : ∀ s H C cl fp, Gd (Bk X scope s H C cl fp) → PG (Bk X scope s H C cl fp) tg (gct X.K t)) (ht : ∀ s H C cl fp, Gd (Bk X scope s H C cl fp) → GTs (Bk X scope s H C cl fp) WF ifs tt)
    (hk : ∀ s H C cl fp, Gd (Bk X scope s H C cl fp) → GE (Bk X scope s H C cl fp) WF kx tk) (hv : ∀ s H C cl fp, Gd (Bk X scope s H C cl fp) → GE (Bk X scope s H C cl fp) WF vx tv) (hin : ctIn t (own.map (·.2)) = true := by rfl) (hs : ∀ x, foldedSetIterable iter X.env x = pure x := by intro _; rfl) :
    GE X Wx (.DictComp kx vx [⟨tg, iter, ifs, 0⟩] scope pos) (mDcT mi t tt tk tv (own.map (·.2))) := by
  refine PE.imp (pe_dcU (o0 := .dT []) (tt := rdT (nv X) WF tt) (tk := rd (nv X) WF tk) (tv := rd (nv X) WF tv) (fun P w H g hb => dt_empty g hb) (by have := g.un; omega) g.calm g.nd hi ok (fun s H C cl fp => hg s H C cl fp g.blk) (fun s H C cl fp => ht s H C cl fp g.blk) (fun s H C cl fp => hk s H C cl fp g.blk) (fun s H C cl fp => hv s H C cl fp g.blk) hs) fun sh H Q ⟨W, sl, st, hr, hs, p⟩ => ?_
  refine dc_read (ho := .dT) (mo := .dctT) hin (fun W H a xs ys e l => ⟨xs, e, l⟩) (fun W H st Dd y z yd k ks h r e hD hl => ?_) (fun _ => rfl) (fun _ => rfl) hr hs p
  unfold keyT at e
  split at e
  · obtain ⟨b, xs, q1, q2, q3⟩ := r
    subst q1
    have := keysOf_rep q3 e
    subst this
    exact DPut.t hD (h.sub _ _ q2) hl
  · cases e
end
end Pv
set_option Elab.async false
set_option linter.all false
set_option maxRecDepth 100000
set_option maxHeartbeats 1000000
set_option pp.maxSteps 200
namespace Pv
open PySem PySem.Spec L2
open PyProof.Rows hiding St

/-! ### __init__ of an own exception: super().__init__(..), then stores -/
/-- the context of such an __init__ -/
def iCx (P : Program) (w : World) (K : PySem.W.Frag) (mg : Str → Option Value) (base : Heap) (N : List Str) (qual : Str) (scope : Scope) (f cc : Addr) (cdv : Value) (A : Around) (outer : List Env) (s : Shared) (H : Hp) : Cx where
  prog := P
  w := w
  K := K
  mg := mg
  base := base
  A := A.deeper (PySem.W.ksEnv qual scope s.heap.objs.size f cdv cc)
  N := N
  s_0 := s
  H_0 := H
  env := PySem.W.ksEnv qual scope s.heap.objs.size f cdv cc
  outer := outer
  stack := PySem.W.ksEnv qual scope s.heap.objs.size f cdv cc :: outer
  ex := []
  fn := fun _ => false
  calm := true
  pn := []
  xe := fun _ _ => False
/-- what the written part says of the def -/
structure InitAt (K : PySem.W.Frag) (mg : Str → Option Value) (prog : Program) (N : List Str) (qual : Str) (scope : Scope) (f cc : Addr) (fd : FuncData) (cdv : Value) (C : Addr) : Prop where
  lk : ∃ oc od osl, K.lookup f = some ⟨oc, od, .func fd, osl⟩
  fd_ : ∃ params body dV kV doc pm an ct, fd = PySem.W.ksFn "__init__" qual params body scope dV kV doc pm an cdv ct cc ∧ (∃ ar, (params.posonlyargs ++ params.args).head? = some ar ∧ some ar.arg = N[0]?)
  code : PySem.W.codeIn K cdv qual = true
  cda : ∃ cda ccl cdd vs ccs file tf, cdv = .ref cda ∧ K.lookup cda = some ⟨ccl, cdd, .fields vs, ccs⟩ ∧ vs[2]? = some (.str file tf) ∧ ((prog.main.file : Str) == file) = true
  cell : ∃ cl cld csl, K.lookup cc = some ⟨cl, cld, .cell (some (.ref C)), csl⟩
  nsuper : mg "super" = none
  kind : scope.kind = .function
  co : scope.isCoroutine = false
  gen : scope.isGenerator = false
  loc : ∀ x ∈ N, scope.names.lookup x = some .local
  nocell : ∀ y ∈ scope.names, y.2 ≠ .cell
  free : ∀ y ∈ scope.names, y.2 = .free → y.1 = "__class__"
  ks : scope.names.lookup ("super" : Str) = some .globalImplicit
  kc : scope.names.lookup ("__class__" : Str) = some .free
  nd : N.Nodup
  top : (prog.main.scope.names.lookup ("super" : Str)).isSome = false
theorem lookup_nodup {α β : Type} [BEq α] [LawfulBEq α] : ∀ {l : List (α × β)} {x : α} {y : β}, (l.map (·.1)).Nodup → (x, y) ∈ l → l.lookup x = some y
  | [], _, _, _, h => by cases h
  | (a, b) :: l, x, y, nd, h => by
    simp only [List.map_cons, List.nodup_cons] at nd
    rcases List.mem_cons.mp h with e | e
    · cases e; simp [List.lookup]
    · have : ¬ x = a := fun z => nd.1 (z ▸ List.mem_map.mpr ⟨(x, y), e, rfl⟩)
      have hb : (x == a) = false := beq_eq_false_iff_ne.mpr this
      simp only [List.lookup, hb]
      exact lookup_nodup nd.2 e
section
variable {P : Program} {w : World} {K : PySem.W.Frag} {mg : Str → Option Value} {base : Heap} {N : List Str} {qual : Str} {scope : Scope} {f cc C : Addr} {fd : FuncData} {cdv : Value}
theorem i_start {A : Around} {outer : List Env} {s : Shared} {H : Hp} {us : List Value} {vs : List V} {h₁ : Heap} {tk : Nat} (D : InitAt K mg P N qual scope f cc fd cdv C) (hd : A.handled = none) (e0 : Env0 P w K mg base A outer s H) (hl : vs.length = N.length) (r : Vals vs us)
    (hns : h₁.Ns s.heap.objs.size fun y => (N.zip us).reverse.lookup y) (kp : ∀ b o, s.heap.get? b = some o → h₁.get? b = some o) :
    Inv (iCx P w K mg base N qual scope f cc cdv A outer s H) [] (L2.start N vs) H { s with heap := h₁, toks := tk } := by
  obtain ⟨cl, cld, csl, hcell⟩ := D.cell
  have bcell : base.get? cc = some ⟨cl, cld, .cell (some (.ref C)), csl⟩ := e0.mod.kin _ _ hcell
  have cms : ∀ {y c}, ([("__class__", cc)] : List (Str × Addr)).lookup y = some c → y = "__class__" ∧ c = cc := fun {y c} e => by
    by_cases hy : y = "__class__"
    · subst hy
      rw [show ([("__class__", cc)] : List (Str × Addr)).lookup ("__class__" : Str) = some cc from by simp [List.lookup]] at e
      cases e; exact ⟨rfl, rfl⟩
    · rw [show ([("__class__", cc)] : List (Str × Addr)).lookup y = none from by simp [List.lookup, beq_eq_false_iff_ne.mpr hy]] at e
      cases e
  have noA : ∀ b : Addr, b ∉ (iCx P w K mg base N qual scope f cc cdv A outer s H).ex := fun b z => absurd (show b ∈ ([] : List Addr) from z) (by simp)
  have hus : us.length = N.length := r.length.symm.trans hl
  refine ⟨⟨e0.mod, D.kind, rfl, rfl, Nat.le_refl _, fun y z c e1 e2 => ?_, fun y hy => ?_, fun y c z _ => ?_, fun _ => hd, Around.frames_deeper e0.frames, .inr ⟨rfl, rfl⟩, fun b z => absurd z (noA b), e0.bs, e0.bsz, fun b _ _ => noA b,
      fun b z => absurd z (noA b), e0.funs, e0.frf⟩,
    rfl, e0.bare, Un.kept kp, ⟨_, hns, fun i y v e1 e2 e3 => ?_⟩, fun y c e => ?_, e0.hok.fresh (Nat.le_refl _), fun y c e => ?_, fun q hq => absurd (show q ∈ ([] : List (Addr × Obj)) ++ [] from hq) (by simp), e0.hok.kept kp, ?_⟩
  · exact (cms e1).1.trans (cms e2).1.symm
  · have hy : scope.names.lookup y = some .cell ∨ scope.names.lookup y = some .free := hy
    rcases hy with hy | hy
    · exact absurd rfl (D.nocell _ (PySem.mem_of_lookup hy))
    · have := D.free _ (PySem.mem_of_lookup hy) rfl
      have : y = "__class__" := this
      subst this
      exact ⟨cc, by show ([("__class__", cc)] : List (Str × Addr)).lookup ("__class__" : Str) = some cc; simp [List.lookup]⟩
  · have z : false = true := z
    cases z
  · have e1 : N[i]? = some y := e1
    have hi : i < N.length := (List.getElem?_eq_some_iff.mp e1).1
    have e2' : vs[i]? = some v := by
      unfold L2.start at e2
      rw [List.getElem?_append_left (by rw [List.length_map, hl]; exact hi), List.getElem?_map] at e2
      cases q : vs[i]? with
      | none => rw [q] at e2; cases e2
      | some a => rw [q] at e2; cases e2; rfl
    obtain ⟨u, hu, ru⟩ := r.get e2'
    refine ⟨u, ru, .inl ⟨D.loc y (List.mem_of_getElem? e1), ?_⟩⟩
    show (N.zip us).reverse.lookup y = some u
    have hz : (N.zip us)[i]? = some (y, u) := by rw [List.getElem?_zip_eq_some]; exact ⟨e1, hu⟩
    have nd : ((N.zip us).map (·.1)).Nodup := by
      rw [List.map_fst_zip (by omega)]; exact D.nd
    exact lookup_nodup (by rw [List.map_reverse]; exact List.pairwise_reverse.mpr (nd.imp fun h => Ne.symm h)) (List.mem_reverse.mpr (List.mem_of_getElem? hz))
  · obtain ⟨_, e⟩ := cms e
    rw [e]
    exact ⟨_, _, kp _ _ (e0.bs _ _ bcell).1, rfl⟩
  · obtain ⟨_, e⟩ := cms e
    rw [e]
    exact (e0.bs _ _ bcell).2
  · show (L2.start N vs).length = N.length
    unfold L2.start; simp [hl]
/-- super().__init__(e, ..) at the beginning, then what the rest asks -/
theorem i_run {A : Around} {outer : List Env} {s : Shared} {H : Hp} {args : Args} {us : List Value} {vs : List V} {CXg : CXT} {Q : VK} {E : XK} {k : Nat} {a : Addr} {ws : List V} {es : List Expr} {e : Expr} {rest : List Stmt} {p0 p1 p2 p3 p4 : Pos} {t : TS} (D : InitAt K mg P N qual scope f cc fd cdv C) (T : OexC K C)
    (hB : ∃ params dV kV doc pm an ct, fd = PySem.W.ksFn "__init__" qual params (.Expr (.Call (.Attribute (.Call (.Name "super" p0) [] [] p1) "__init__" p2) (e :: es) [] p3) p4 :: rest) scope dV kV doc pm an cdv ct cc ∧ (∃ ar, (params.posonlyargs ++ params.args).head? = some ar ∧ some ar.arg = N[0]?))
    (hopq : PySem.W.nsIn K PySem.cStatics "thirdparty.any" = some none) (hsup : PySem.W.ks_superIn K C C "__init__" = some (some (.builtin "ValueError.__init__"))) (hsub : PySem.W.subIn K (.ref C) (.type "ValueError") = some true) (hmro : PySem.W.mroIn K C (.ref C) = some true) (hcls : ∃ cd, PySem.W.clsIn K C = some cd)
    (hr : Room k A) (e0 : Env0 P w K mg base A outer s H) (hbn : BindsTo s fd args (N.zip us)) (rv : Vals vs us) (hl : vs.length = N.length) (ev : vs = .ref a :: ws) (ha : H a = some (exo a C none))
    (hargs : ∀ (s2 : Shared) (Q2 : List Value → Shared → Prop) (E2 : Value → Shared → Prop), L2.Inv (iCx P w K mg base N qual scope f cc cdv A outer s H) [] (L2.start N vs) H s2 → (∀ ws, ws.length ≤ sizeLine → Q2 ws s2) →
      wpAny (model P w) (A.deeper (PySem.W.ksEnv qual scope s.heap.objs.size f cdv cc)) (spliced (backTo p3 (starEach (e :: es) (PySem.W.ksEnv qual scope s.heap.objs.size f cdv cc)))) Q2 E2 s2)
    (hrest : ∀ X : Cx, X = iCx P w K mg base N qual scope f cc cdv A outer s H → PSs X rest t) (ht : t { nx := fun _ H' => Q .non H', rt := Q } (L2.start N vs) H) (hse : ∀ env : Env, swapsWith (.Call (.Attribute (.Call (.Name "super" p0) [] [] p1) "__init__" p2) (e :: es) [] p3) none p4.line env = pure false)
    (pl : Env → Sem Bool) (hcE : ∀ env : Env, eval (.Call (.Attribute (.Call (.Name "super" p0) [] [] p1) "__init__" p2) (e :: es) [] p3) env = (do
      let ov ← attributeBase (.Call (.Name "super" p0) [] [] p1) "__init__" env (eval (.Call (.Name "super" p0) [] [] p1) env)
      standAt p2.atName
      let (f, first) ← holding [ov] (getMethod ov "__init__" (pl env))
      callWith p3 f first (backTo p3 (starEach (e :: es) env)) []))
    (heE : ∀ env : Env, starEach (e :: es) env = (false, eval e env) :: starEach es env) (hpE : ∀ env : Env, (backTo p3 (starEach es env)).any (·.1) = false) :
    codeAny (model P w) A (.call (.ref f) args) (CR CXg outer P w H s Q E) s := by
  obtain ⟨oc, od, osl, lk⟩ := D.lk
  obtain ⟨params, dV, kV, doc, pm, an, ct, rfl, ar, har, hN0⟩ := hB
  have kin := e0.mod.kin.keeps fun b o e => (e0.bs b o e).1
  have nolim := e0.mod.nolimit.keeps fun b o e => (e0.bs b o e).1
  have hus : us.length = N.length := rv.length.symm.trans hl
  refine PySem.ks_codeAny_call_defAt hr.depth (kin _ _ lk) rfl nolim (PySem.W.codeRec_of kin D.code) rfl hbn (fun y hy => D.nocell y hy) (fun y hy => D.loc _ (List.of_mem_zip hy).1) (fun h₁ hns kp => ?_) D.co D.gen D.kind
  have I := i_start (tk := s.toks + (N.zip us).length) D hr.hd e0 hl rv hns kp
  generalize hs1 : ({ s with heap := h₁, toks := s.toks + (N.zip us).length } : Shared) = s1 at I ⊢
  generalize hX : iCx P w K mg base N qual scope f cc cdv A outer s H = X at I hrest hargs
  have eA : X.A = A.deeper (PySem.W.ksEnv qual scope s.heap.objs.size f cdv cc) := by rw [← hX]; rfl
  have eE : X.env = PySem.W.ksEnv qual scope s.heap.objs.size f cdv cc := by rw [← hX]; rfl
  have eP : X.prog = P := by rw [← hX]; rfl
  have eW : X.w = w := by rw [← hX]; rfl
  have eK : X.K = K := by rw [← hX]; rfl
  have exe : X.xe = fun _ _ => False := by rw [← hX]; rfl
  show _root_.PySem.wpAt (model P w) (A.deeper (PySem.W.ksEnv qual scope s.heap.objs.size f cdv cc)) (.func _ (PySem.W.ksEnv qual scope s.heap.objs.size f cdv cc)) (execs _ (PySem.W.ksEnv qual scope s.heap.objs.size f cdv cc)) _ _ s1
  -- the rest, once the first statement is through
  have fin : ∀ s2, Inv X [] (L2.start N vs) H s2 → _root_.PySem.wpAt (model P w) (A.deeper (PySem.W.ksEnv qual scope s.heap.objs.size f cdv cc)) (.func (.Expr (.Call (.Attribute (.Call (.Name "super" p0) [] [] p1) "__init__" p2) (e :: es) [] p3) p4 :: rest) (PySem.W.ksEnv qual scope s.heap.objs.size f cdv cc)) (execs rest (PySem.W.ksEnv qual scope s.heap.objs.size f cdv cc))
      (fun fl s' => CR CXg outer P w H s Q E (.ok (.ret (match fl with | .ret v => v | _ => .none))) s') (fun e s' => wpAny (model P w) (A.deeper (PySem.W.ksEnv qual scope s.heap.objs.size f cdv cc)) (leaving (PySem.W.ksEnv qual scope s.heap.objs.size f cdv cc) e) (fun _ s'' => CR CXg outer P w H s Q E (.error e) s'') (fun e' s'' => CR CXg outer P w H s Q E (.error e') s'') s') s2 := by
    intro s2 I2
    refine wpAt_of_wpAny ?_
    have J := (hrest X rfl).run [] s2 (L2.start N vs) H { nx := fun _ H' => Q .non H', rt := Q } I2 ht
    rw [eP, eW, eA, eE, exe] at J
    refine wpAny_mono J (fun fl s' z => ?_) fun e s' z => z.elim
    cases fl with
    | ret u => obtain ⟨v, σ', H', I', q1, q2⟩ := z; rw [← hX] at I'; exact ⟨v, H', I'.os, I'.bare, I'.base, I'.hok, q1, q2⟩
    | next => obtain ⟨σ', H', I', q2⟩ := z; rw [← hX] at I'; exact ⟨V.non, H', I'.os, I'.bare, I'.base, I'.hok, rfl, q2⟩
    | brk => obtain ⟨_, _, _, z⟩ := z; exact z.elim
    | cont => obtain ⟨_, _, _, z⟩ := z; exact z.elim
  refine PySem.ks_wpAt_execs_cons ?_
  refine PySem.ks_wpAt_Expr_any ?_ (by unfold interactive; simp [PySem.W.envX, D.kind]) (hse _)
  refine PySem.ks_wpAt_MethodCall ?_ (hcE _)
  obtain ⟨cda, ccl, cdd, cvs, ccs, file, tf, rfl, hcode, hvs, hfile⟩ := D.cda
  obtain ⟨cl, cld, csl, hcell⟩ := D.cell
  obtain ⟨cd, hcd⟩ := hcls
  have kin1 : K.In s1.heap := by have := I.kIn; rw [eK] at this; exact this
  obtain ⟨oD, hD1, hD2⟩ : ∃ oD, s1.heap.get? C = some oD ∧ oD.data = .cls cd := by
    unfold PySem.W.clsIn at hcd
    split at hcd
    · rename_i c d cd' sl ho
      cases hcd
      exact ⟨_, kin1 _ _ ho, rfl⟩
    · cases hcd
  obtain ⟨mb, hb1, hb2⟩ := e0.mod.blt
  have bk : ∀ b o, base.get? b = some o → s1.heap.get? b = some o := by
    have := I.bk
    rw [show X.base = base from by rw [← hX]; rfl] at this
    exact this
  have hN0' : N[0]? = some ar.arg := hN0.symm
  have hself : (N.zip us).reverse.lookup ar.arg = some (.ref a) := by
    have hu0 : us[0]? = some (.ref a) := by
      subst ev
      cases us with
      | nil => cases rv
      | cons u us => cases rv with | cons r1 r2 => cases r1; rfl
    have hz : (N.zip us)[0]? = some (ar.arg, .ref a) := by rw [List.getElem?_zip_eq_some]; exact ⟨hN0', hu0⟩
    have nd : ((N.zip us).map (·.1)).Nodup := by rw [List.map_fst_zip (by omega)]; exact D.nd
    exact lookup_nodup (by rw [List.map_reverse]; exact List.pairwise_reverse.mpr (nd.imp fun h => Ne.symm h)) (List.mem_reverse.mpr (List.mem_of_getElem? hz))
  obtain ⟨t1, het⟩ := exo_at I.hok ha
  have inst : PySem.W.InstAt s1.heap a ({ cls := .ref C, dict := none, data := .fields #[.ref t1, .none, .none, .none, .bool false, .none] } : Obj) C none := ⟨het, rfl, rfl, trivial⟩
  have hns1 : s1.heap.Ns s.heap.objs.size fun x => (N.zip us).reverse.lookup x := by rw [← hs1]; exact hns
  refine PySem.ks_wpAt_super_base (env := PySem.W.ksEnv qual scope s.heap.objs.size f (.ref cda) cc) D.ks D.kc (by decide +kernel) rfl (kin1 _ _ lk) rfl har rfl (kin1 _ _ hcode) rfl hvs hfile D.top ?_
  refine PySem.W.ks_loadName_global D.kind D.ks (PySem.Calls.loadGlobal_builtin (env := PySem.W.ksEnv qual scope s.heap.objs.size f (.ref cda) cc) (e0.mod.glob.keeps bk) D.nsuper (hb1.keeps bk) (hb2 _ (by decide +kernel)) ⟨rfl, ?_⟩)
  refine PySem.wpAny_loadName_free D.kind D.kc (by simp [PySem.W.envX, List.lookup]) ⟨_, kin1 _ _ hcell, rfl⟩ ?_
  refine wpAny_loadName_local D.kind (D.loc _ (List.mem_of_getElem? hN0')) hns1 hself ?_
  obtain ⟨hh, gg, dd, tt, oo⟩ := s1
  refine PySem.ks_wpAny_isType_cls hD1 hD2 ⟨rfl, ?_⟩
  refine PySem.ks_wpAny_call_super hD1 hD2 het rfl (fun c e => by cases e) (PySem.W.looks_mroIn kin1 hmro) (fun h2 hso k2 => ?_)
  have I2 : L2.Inv X [] (L2.start N vs) H ⟨h2, gg, dd, tt, oo⟩ := I.kept (t' := tt) k2
  have kin2 : K.In h2 := kin1.keeps k2
  have inst2 : PySem.W.InstAt h2 a ({ cls := .ref C, dict := none, data := .fields #[.ref t1, .none, .none, .none, .bool false, .none] } : Obj) C none := ⟨k2 _ _ het, rfl, rfl, trivial⟩
  have hxC : a ≠ C := fun z => by
    subst z
    rw [het] at hD1
    cases hD1
    cases hD2
  refine PySem.W.kxs_getMethod PySem.W.kxs_ValueError (l₀ := cd.mro) hso (PySem.W.looks_opaque kin2 hopq) (fun A Q E s k q => wpAny_bind ((PySem.W.looks_clsIn kin2 hcd) A _ E s k (wpAny_pure q))) rfl kin2 (by unfold PySem.W.ks_superIn at hsup; rw [hcd] at hsup; exact hsup) (inst2.type.andThen (PySem.W.looks_subIn kin2 hsub)) hxC (by decide +kernel) ?_
  -- the bound __init__, the arguments
  have k3 : ∀ b o, h2.get? b = some o → (h2.push (PySem.W.kxs_mw "ValueError.__init__" a)).get? b = some o := fun b o e => Heap.get?_push_of_some _ e
  have I3 : L2.Inv X [] (L2.start N vs) H ⟨h2.push (PySem.W.kxs_mw "ValueError.__init__" a), gg, dd, tt + 1, oo⟩ := I2.kept (t' := tt + 1) k3
  have hmw : (h2.push (PySem.W.kxs_mw "ValueError.__init__" a)).get? h2.objs.size = some (PySem.W.kxs_mw "ValueError.__init__" a) := Heap.get?_push_at rfl rfl
  refine PySem.W.kxs_callWith (i := "ValueError.__init__") (x := a) (by rw [heE]; show (false || (backTo p3 (starEach es _)).any (·.1)) = false; rw [hpE]; rfl) ?_
  rw [heE]
  refine PySem.Calls.evalArgs_plain ?_
  have J := hargs _ (fun ws s3 => PySem.W.KxsAt "ValueError.__init__" h2.objs.size a s3.heap ∧ wpAny (model P w) (A.deeper (PySem.W.ksEnv qual scope s.heap.objs.size f (.ref cda) cc)) (call (.ref h2.objs.size) ([] ++ ws) []) (fun _ s4 => _root_.PySem.wpAt (model P w) (A.deeper (PySem.W.ksEnv qual scope s.heap.objs.size f (.ref cda) cc)) (.func (.Expr (.Call (.Attribute (.Call (.Name "super" p0) [] [] p1) "__init__" p2) (e :: es) [] p3) p4 :: rest) (PySem.W.ksEnv qual scope s.heap.objs.size f (.ref cda) cc)) (execs rest (PySem.W.ksEnv qual scope s.heap.objs.size f (.ref cda) cc))
      (fun fl s' => CR CXg outer P w H s Q E (.ok (.ret (match fl with | .ret v => v | _ => .none))) s') (fun e s' => wpAny (model P w) (A.deeper (PySem.W.ksEnv qual scope s.heap.objs.size f (.ref cda) cc)) (leaving (PySem.W.ksEnv qual scope s.heap.objs.size f (.ref cda) cc) e) (fun _ s'' => CR CXg outer P w H s Q E (.error e) s'') (fun e' s'' => CR CXg outer P w H s Q E (.error e') s'') s') s4) (fun e s' => wpAny (model P w) (A.deeper (PySem.W.ksEnv qual scope s.heap.objs.size f (.ref cda) cc)) (leaving (PySem.W.ksEnv qual scope s.heap.objs.size f (.ref cda) cc) e) (fun _ s'' => CR CXg outer P w H s Q E (.error e) s'') (fun e' s'' => CR CXg outer P w H s Q E (.error e') s'') s') s3) (fun e s' => wpAny (model P w) (A.deeper (PySem.W.ksEnv qual scope s.heap.objs.size f (.ref cda) cc)) (leaving (PySem.W.ksEnv qual scope s.heap.objs.size f (.ref cda) cc) e) (fun _ s'' => CR CXg outer P w H s Q E (.error e) s'') (fun e' s'' => CR CXg outer P w H s Q E (.error e') s'') s') I3 fun ws hz => ⟨hmw, ?_⟩
  · rw [heE] at J; exact J
  -- ValueError.__init__
  obtain ⟨nm, q, Nn, bs, bm, sn, sub, ab, col, cdd', k0, k1, k2', k3', k5, hC, hbm⟩ := T.cls
  have hC3 : (h2.push (PySem.W.kxs_mw "ValueError.__init__" a)).get? C = some (excClassObj nm q C Nn bs bm true sn sub ab col cdd' k0 k1 k2' k3' k5 "ValueError.__new__") := k3 _ _ (kin2 _ _ hC)
  have het3 := k3 _ _ (k2 _ _ het)
  refine wpAny_call (codeAny_of_tree ?_)
  show wpAny _ (A.deeper (PySem.W.ksEnv qual scope s.heap.objs.size f (.ref cda) cc)).in1 (callAny (.ref h2.objs.size) ⟨[] ++ ws, []⟩) _ _ _
  simp only [callAny, List.nil_append]
  refine wpAny_bind (wpAny_load hmw ?_)
  simp only [PySem.W.kxs_mw, show (Value.type "method-wrapper" == Value.type "method" || Value.type "method-wrapper" == Value.type "builtin_function_or_method" || Value.type "method-wrapper" == Value.type "method-wrapper") = true by decide, if_true]
  refine PySem.W.KFB.if_so (by decide) ?_
  refine wpAny_bind (PySem.W.check_bound_init F.excBase_ValueError.toExcCallFacts hC3 het3 rfl ?_)
  refine wpAny_bind (wpAny_pure (wpAny_pure ?_))
  refine ⟨plainId_quiet F.excBase_ValueError.init.plain _, codeAny_builtin F.excBase_ValueError.initEntry ?_⟩
  refine PySem.W.exc_init_tree (cls := .ref C) (t0 := t1) (dv := none) (c2 := .none) (c3 := .none) (b4 := .bool false) het3 hz fun h4 k4 e4 t4 => fin _ ?_
  have I4 := I3.write (t' := tt + 1) (x := a) (e := a) (o := exo a C none) (by rw [ha]; exact True.intro) (.inl rfl) k4 ⟨_, e4⟩ (exo_ok e4)
  have eu : upd H a (exo a C none) = H := by
    funext b
    by_cases hb : b = a
    · rw [hb, upd_same, ha]
    · rw [upd_ne hb]
  rw [eu] at I4
  exact I4
end
end Pv
set_option Elab.async false
set_option linter.all false
set_option maxRecDepth 100000
set_option maxHeartbeats 1000000
set_option pp.maxSteps 400
namespace Pv
open PySem PySem.Spec L2
open PyProof.Rows hiding St

/-! ### own exceptions made and raised -/
/-- what the written part says of an own exception class whose __init__ hands its parameters on and keeps them -/
structure ExcAt (K : PySem.W.Frag) (mg : Str → Option Value) (prog : Program) (x : Str) (C : Addr) : Prop where
  mg : mg x = some (.ref C)
  T : OexC K C
  opq : PySem.W.nsIn K PySem.cStatics "thirdparty.any" = some none
  sup : PySem.W.ks_superIn K C C "__init__" = some (some (.builtin "ValueError.__init__"))
  sub : PySem.W.subIn K (.ref C) (.type "ValueError") = some true
  mro : PySem.W.mroIn K C (.ref C) = some true
  cls : ∃ cd, PySem.W.clsIn K C = some cd
/-- the heap behind an exception's making -/
def sp1 (C : Addr) (f1 : Str) : Sp := fun vs H Q _ => ∃ a v1, vs = [.ref a, v1] ∧ H a = some (exo a C none) ∧ ∀ dx, H dx = none → dx ≠ a → Q .non (upd (upd H dx (exd dx [(f1, v1)])) a (exo a C (some dx)))
def sp2 (C : Addr) (f1 f2 : Str) : Sp := fun vs H Q _ => ∃ a v1 v2, vs = [.ref a, v1, v2] ∧ H a = some (exo a C none) ∧ ∀ dx, H dx = none → dx ≠ a → Q .non (upd (upd (upd H dx (exd dx [(f1, v1)])) a (exo a C (some dx))) dx (exd dx [(f2, v2), (f1, v1)]))
section
variable {P : Program} {w : World} {K : PySem.W.Frag} {mg : Str → Option Value} {base : Heap} {qual : Str} {scope : Scope} {f cc C : Addr} {fd : FuncData} {cdv : Value} {x f1 f2 x1 x2 : Str} {N : List Str}
/-- the parameters' values, in turn -/
theorem i_names {A : Around} {outer : List Env} {s : Shared} {H : Hp} {vs : List V} {s2 : Shared} {E2 : Value → Shared → Prop} (D : InitAt K mg P N qual scope f cc fd cdv C) (I : L2.Inv (iCx P w K mg base N qual scope f cc cdv A outer s H) [] (L2.start N vs) H s2) (hl : vs.length = N.length)
    {y : Str} {i : Nat} {q : Pos} {Q2 : Value → Shared → Prop} (hy : N[i]? = some y) (hd : (y == ("__debug__" : Str)) = false) (h : ∀ u, Q2 u s2) : wpAny (model P w) (A.deeper (PySem.W.ksEnv qual scope s.heap.objs.size f cdv cc)) (eval (.Name y q) (PySem.W.ksEnv qual scope s.heap.objs.size f cdv cc)) Q2 E2 s2 := by
  obtain ⟨m, hn, hl2⟩ := I.loc
  have hlt : i < N.length := (List.getElem?_eq_some_iff.mp hy).1
  obtain ⟨v, hv⟩ : ∃ v, vs[i]? = some v := ⟨_, List.getElem?_eq_getElem (by omega)⟩
  have hs : (L2.start N vs)[i]? = some (some v) := by
    unfold L2.start
    rw [List.getElem?_append_left (by rw [List.length_map]; omega), List.getElem?_map, hv]; rfl
  have loc := D.loc y (List.mem_of_getElem? hy)
  obtain ⟨u, _, lk⟩ := hl2 i y v hy hs (.inl loc)
  have hm : m y = some u := by
    rcases lk with ⟨_, e⟩ | ⟨k, _⟩
    · exact e
    · rcases k with k | k <;> (have k' : scope.names.lookup y = _ := k; rw [loc] at k'; cases k')
  exact wpAny_Name (wpAny_loadName_local D.kind loc hn hm (h u)) hd
theorem fn_init2 {CXg : CXT} {params : Arguments} {dV kV doc pm ct : Value} {an : Option Addr} {p0 p1 p2 p3 p4 q1 q2 a1 a2 b1 b2 c1 c2 d1 d2 : Pos} (D : InitAt K mg P ["self", x1, x2] qual scope f cc fd cdv C) (X : ExcAt K mg P x C)
    (hB : fd = PySem.W.ksFn "__init__" qual params [.Expr (.Call (.Attribute (.Call (.Name "super" p0) [] [] p1) "__init__" p2) [.Name x1 q1, .Name x2 q2] [] p3) p4, .Assign [.Attribute (.Name "self" a1) f1 b1] (.Name x1 c1) d1, .Assign [.Attribute (.Name "self" a2) f2 b2] (.Name x2 c2) d2] scope dV kV doc pm an cdv ct cc)
    (hse : ∀ env : Env, swapsWith (.Call (.Attribute (.Call (.Name "super" p0) [] [] p1) "__init__" p2) [.Name x1 q1, .Name x2 q2] [] p3) none p4.line env = pure false)
    (pl : Env → Sem Bool) (hcE : ∀ env : Env, eval (.Call (.Attribute (.Call (.Name "super" p0) [] [] p1) "__init__" p2) [.Name x1 q1, .Name x2 q2] [] p3) env = (do
      let ov ← attributeBase (.Call (.Name "super" p0) [] [] p1) "__init__" env (eval (.Call (.Name "super" p0) [] [] p1) env)
      standAt p2.atName
      let (f, first) ← holding [ov] (getMethod ov "__init__" (pl env))
      callWith p3 f first (backTo p3 (starEach [.Name x1 q1, .Name x2 q2] env)) []))
    (har : ∃ ar, (params.posonlyargs ++ params.args).head? = some ar ∧ ar.arg = "self") (hf1 : PySem.W.findIn K (.ref C) f1 = some none) (hf2 : PySem.W.findIn K (.ref C) f2 = some none) (hx1 : (x1 == ("__debug__" : Str)) = false ∧ (x1 == ("__classdict__" : Str)) = false) (hx2 : (x2 == ("__debug__" : Str)) = false ∧ (x2 == ("__classdict__" : Str)) = false) :
    FnOk P w K mg base CXg 1 f fd ["self", x1, x2] (sp2 C f1 f2) := by
  refine ⟨fun vs H Q E ⟨a, v1, v2, e, _⟩ => by rw [e]; rfl, fun A outer s H args us vs Q E hr e0 hbn rv hsp => ?_⟩
  obtain ⟨a, v1, v2, ev, ha, hq⟩ := hsp
  obtain ⟨ar, har1, har2⟩ := har
  refine i_run (N := ["self", x1, x2]) (a := a) (ws := [v1, v2]) (pl := pl) D X.T ⟨params, dV, kV, doc, pm, an, ct, hB, ar, har1, by rw [har2]; rfl⟩ X.opq X.sup X.sub X.mro X.cls hr e0 hbn rv (by rw [ev]; rfl) ev ha (fun s2 Q2 E2 I h => ?args) (t := ?t) (fun Y hY => ?rest) ?q hse (hcE := hcE) (fun env => rfl) (fun env => rfl)
  case args =>
    have hl : vs.length = (["self", x1, x2] : List Str).length := by rw [ev]; rfl
    refine Calls.spliced_cons (i_names D I hl (i := 1) rfl hx1.1 fun u1 => ?_)
    refine Calls.spliced_cons (i_names D I hl (i := 2) rfl hx2.1 fun u2 => ?_)
    exact Calls.spliced_nil (h _ (by show 2 ≤ sizeLine; decide))
  case rest =>
    subst hY
    exact pss_cons (ps_ost (pe_var (x := "self") (i := 0) rfl (.inl (D.loc "self" (by simp))) (by decide +kernel) (by decide +kernel)) (pe_var (x := x1) (i := 1) rfl (.inl (D.loc x1 (by simp))) hx1.1 hx1.2))
      (pss_one (ps_ost (pe_var (x := "self") (i := 0) rfl (.inl (D.loc "self" (by simp))) (by decide +kernel) (by decide +kernel)) (pe_var (x := x2) (i := 2) rfl (.inl (show (iCx P w K mg base ["self", x1, x2] qual scope f cc cdv A outer s H).env.scope.names.lookup x2 = some .local from D.loc x2 (by simp))) hx2.1 hx2.2)))
  case q =>
    subst ev
    refine ⟨v1, rfl, .ref a, rfl, a, C, rfl, X.T, hf1, .inl ⟨ha, fun dx hd hne => ?_⟩⟩
    refine ⟨v2, rfl, .ref a, rfl, a, C, rfl, X.T, hf2, .inr ⟨dx, _, upd_same, ?_, by simp, hq dx hd hne⟩⟩
    rw [upd_ne hne]; exact upd_same
theorem fn_init1 {CXg : CXT} {params : Arguments} {dV kV doc pm ct : Value} {an : Option Addr} {p0 p1 p2 p3 p4 q1 a1 b1 c1 d1 : Pos} (D : InitAt K mg P ["self", x1] qual scope f cc fd cdv C) (X : ExcAt K mg P x C)
    (hB : fd = PySem.W.ksFn "__init__" qual params [.Expr (.Call (.Attribute (.Call (.Name "super" p0) [] [] p1) "__init__" p2) [.Name x1 q1] [] p3) p4, .Assign [.Attribute (.Name "self" a1) f1 b1] (.Name x1 c1) d1] scope dV kV doc pm an cdv ct cc)
    (hse : ∀ env : Env, swapsWith (.Call (.Attribute (.Call (.Name "super" p0) [] [] p1) "__init__" p2) [.Name x1 q1] [] p3) none p4.line env = pure false)
    (pl : Env → Sem Bool) (hcE : ∀ env : Env, eval (.Call (.Attribute (.Call (.Name "super" p0) [] [] p1) "__init__" p2) [.Name x1 q1] [] p3) env = (do
      let ov ← attributeBase (.Call (.Name "super" p0) [] [] p1) "__init__" env (eval (.Call (.Name "super" p0) [] [] p1) env)
      standAt p2.atName
      let (f, first) ← holding [ov] (getMethod ov "__init__" (pl env))
      callWith p3 f first (backTo p3 (starEach [.Name x1 q1] env)) []))
    (har : ∃ ar, (params.posonlyargs ++ params.args).head? = some ar ∧ ar.arg = "self") (hf1 : PySem.W.findIn K (.ref C) f1 = some none) (hx1 : (x1 == ("__debug__" : Str)) = false ∧ (x1 == ("__classdict__" : Str)) = false) :
    FnOk P w K mg base CXg 1 f fd ["self", x1] (sp1 C f1) := by
  refine ⟨fun vs H Q E ⟨a, v1, e, _⟩ => by rw [e]; rfl, fun A outer s H args us vs Q E hr e0 hbn rv hsp => ?_⟩
  obtain ⟨a, v1, ev, ha, hq⟩ := hsp
  obtain ⟨ar, har1, har2⟩ := har
  refine i_run (N := ["self", x1]) (a := a) (ws := [v1]) (pl := pl) D X.T ⟨params, dV, kV, doc, pm, an, ct, hB, ar, har1, by rw [har2]; rfl⟩ X.opq X.sup X.sub X.mro X.cls hr e0 hbn rv (by rw [ev]; rfl) ev ha (fun s2 Q2 E2 I h => ?args) (t := tOst K f1 (tVar 0) (tVar 1)) (fun Y hY => ?rest) ?q hse (hcE := hcE) (fun env => rfl) (fun env => rfl)
  case args =>
    have hl : vs.length = (["self", x1] : List Str).length := by rw [ev]; rfl
    refine Calls.spliced_cons (i_names D I hl (i := 1) rfl hx1.1 fun u1 => ?_)
    exact Calls.spliced_nil (h _ (by show 1 ≤ sizeLine; decide))
  case rest =>
    subst hY
    exact pss_one (ps_ost (p' := b1) (pos := d1) (f := f1) (pe_var (x := "self") (pos := a1) (i := 0) rfl (.inl (show (iCx P w K mg base ["self", x1] qual scope f cc cdv A outer s H).env.scope.names.lookup ("self" : Str) = some .local from D.loc "self" (by simp))) (by decide +kernel) (by decide +kernel)) (pe_var (x := x1) (pos := c1) (i := 1) rfl (.inl (show (iCx P w K mg base ["self", x1] qual scope f cc cdv A outer s H).env.scope.names.lookup x1 = some .local from D.loc x1 (by simp))) hx1.1 hx1.2))
  case q =>
    subst ev
    exact ⟨v1, rfl, .ref a, rfl, a, C, rfl, X.T, hf1, .inl ⟨ha, fun dx hd hne => hq dx hd hne⟩⟩
end
/-! ### raise -/
def excOf (cls : Str) (fs : List Str) (ds : List Pv.D) (st : Sto) : RS := if ds.length = fs.length ∧ ds.length ≤ 2 then .exc (cls, (fs.zip ds).reverse) st else .bad
def sRaise (cls : Str) (fs : List Str) (ms : Ms) : MS := fun sl st => (ms sl st).thenS fun ds st => excOf cls fs ds st
section
variable {X : Cx} {Wx : WX} {C : Addr} {x f1 f2 : Str} {fI : Addr} {fd : FuncData} {k : Nat} {e1 e2 : Expr} {ms : Ms} {p pos rpos : Pos} {ps : List Str} {W : Wd} {H : Hp} {st : Sto} {sh : L2.St} {sl : Sl}
/-- a class whose __init__ has been told -/
structure ExcDf (X : Cx) (x : Str) (C fI : Addr) (fd : FuncData) (ps : List Str) (sp : Sp) : Prop where
  at_ : ExcAt X.K X.mg X.prog x C
  ini : PySem.W.findIn X.K (.ref C) "__init__" = some (some (.ref fI))
  ty : PySem.W.typeIn X.K (.ref fI) = some (.type "function")
  fn : FnOk X.prog X.w X.K X.mg X.base C8.CX0 1 fI fd ps sp
  bd : Binds X.K fd ps []
theorem passes0 {Y : Cx} : Passes C8.CX0 Y fun _ _ _ => False := fun pins sg H s e s' I h => (show False from h).elim
theorem gs_raise2 (D : ExcDf X x C fI fd ps (sp2 C f1 f2)) (g : Gd X) (hr : Room 2 X.A) (tk : Takes X Wx) (ha : GA X Wx [e1, e2] ms) (hg : Gl X x := by rfl) (hdb : (x == ("__debug__" : Str)) = false := by decide +kernel)
    (he : starEach [e1, e2] X.env = (false, eval e1 X.env) :: starEach [e2] X.env := by rfl) (hpl : (backTo pos (starEach [e2] X.env)).any (·.1) = false := by rfl) : GS X Wx (.Raise (some (.Call (.Name x p) [e1, e2] [] pos)) none rpos) (sRaise x [f1, f2] ms) := by
  have M := pmk_oex (CX := C8.CX0) (x := x) (p := p) (pos := pos) (dvs := []) D.at_.T D.ini D.ty D.fn hr D.bd .nil passes0 hg D.at_.mg ha hdb he hpl
  refine PS.imp (ps_raise g.calm tk M) fun D' sh H ⟨W, sl, st, hr', hs, q⟩ => ?_
  refine rdL_bindS hr' hs q fun ds st1 W1 vs H1 e1' x1' h1 s1 l1 p1 => ?_
  unfold excOf at p1
  split at p1
  · rename_i hl
    obtain ⟨hl1, hl2⟩ := hl
    match ds, vs, hl1, l1 with
    | [d1, d2], vs, _, ⟨v1, us, q1, r1, v2, us2, q2, r2, q3⟩ =>
      subst q1; subst q2; subst q3
      refine ⟨by simp, fun a ha => ⟨a, v1, v2, by simp, upd_same, fun dx hd hne => ⟨rfl, dx, [(f2, v2), (f1, v1)], ?_, upd_same, ?_, ?_⟩⟩⟩
      · rw [upd_ne (Ne.symm hne)]; exact upd_same
      · rw [upd_ne hne] at hd; exact hd
      · have hd1 : H1 dx = none := by rw [upd_ne hne] at hd; exact hd
        have eH : upd (del (upd (upd (upd (upd H1 a (exo a C none)) dx (exd dx [(f1, v1)])) a (exo a C (some dx))) dx (exd dx [(f2, v2), (f1, v1)])) a) dx (.xd [(f2, v2), (f1, v1)]) = upd H1 dx (.xd [(f2, v2), (f1, v1)]) := by
          funext b
          by_cases hb : b = dx
          · subst hb; rw [upd_same, upd_same]
          · rw [upd_ne hb, upd_ne hb]
            by_cases hba : b = a
            · subst hba; rw [del_same, ha]
            · rw [del_ne hba, upd_ne hb, upd_ne hba, upd_ne hb, upd_ne hba]
        rw [eH]
        obtain ⟨h2, x2⟩ := h1.new (o := .xd [(f2, v2), (f1, v1)]) hd1
        exact p1 _ sh (.ref C) (some dx) _ rfl x2 h2 ⟨C, D.at_.mg, rfl, dx, _, rfl, upd_same, .cons ⟨rfl, x2.rep r2⟩ (.cons ⟨rfl, x2.rep r1⟩ .nil)⟩
  · exact p1.elim
theorem gs_raise1 (D : ExcDf X x C fI fd ps (sp1 C f1)) (g : Gd X) (hr : Room 2 X.A) (tk : Takes X Wx) (ha : GA X Wx [e1] ms) (hg : Gl X x := by rfl) (hdb : (x == ("__debug__" : Str)) = false := by decide +kernel)
    (he : starEach [e1] X.env = (false, eval e1 X.env) :: starEach [] X.env := by rfl) (hpl : (backTo pos (starEach [] X.env)).any (·.1) = false := by rfl) : GS X Wx (.Raise (some (.Call (.Name x p) [e1] [] pos)) none rpos) (sRaise x [f1] ms) := by
  have M := pmk_oex (CX := C8.CX0) (x := x) (p := p) (pos := pos) (dvs := []) D.at_.T D.ini D.ty D.fn hr D.bd .nil passes0 hg D.at_.mg ha hdb he hpl
  refine PS.imp (ps_raise g.calm tk M) fun D' sh H ⟨W, sl, st, hr', hs, q⟩ => ?_
  refine rdL_bindS hr' hs q fun ds st1 W1 vs H1 e1' x1' h1 s1 l1 p1 => ?_
  unfold excOf at p1
  split at p1
  · rename_i hl
    obtain ⟨hl1, hl2⟩ := hl
    match ds, vs, hl1, l1 with
    | [d1], vs, _, ⟨v1, us, q1, r1, q3⟩ =>
      subst q1; subst q3
      refine ⟨by simp, fun a ha => ⟨a, v1, by simp, upd_same, fun dx hd hne => ⟨rfl, dx, [(f1, v1)], upd_same, ?_, ?_, ?_⟩⟩⟩
      · rw [upd_ne hne]; exact upd_same
      · rw [upd_ne hne] at hd; exact hd
      · have hd1 : H1 dx = none := by rw [upd_ne hne] at hd; exact hd
        have eH : upd (del (upd (upd (upd H1 a (exo a C none)) dx (exd dx [(f1, v1)])) a (exo a C (some dx))) a) dx (.xd [(f1, v1)]) = upd H1 dx (.xd [(f1, v1)]) := by
          funext b
          by_cases hb : b = dx
          · subst hb; rw [upd_same, upd_same]
          · rw [upd_ne hb, upd_ne hb]
            by_cases hba : b = a
            · subst hba; rw [del_same, ha]
            · rw [del_ne hba, upd_ne hba, upd_ne hb, upd_ne hba]
        rw [eH]
        obtain ⟨h2, x2⟩ := h1.new (o := .xd [(f1, v1)]) hd1
        exact p1 _ sh (.ref C) (some dx) _ rfl x2 h2 ⟨C, D.at_.mg, rfl, dx, _, rfl, upd_same, .cons ⟨rfl, x2.rep r1⟩ .nil⟩
  · exact p1.elim
end
end Pv
set_option Elab.async false
set_option linter.all false
set_option maxRecDepth 100000
set_option maxHeartbeats 1000000
set_option pp.maxSteps 400
namespace Pv
open PySem PySem.Spec L2 LamX
open PyProof.Rows hiding St

/-! ### a lambda handed to a def, run there -/
section
variable {X : Cx} {pins : List (Addr × Obj)} {σ : L2.St} {H : Hp} {s : Shared}
/-- what a lambda needs of its making: where it stands -/
structure LamAt (X : Cx) (σ : L2.St) (H : Hp) (s : Shared) (params : Arguments) (body : Expr) (scope : Scope) (f c' : Addr) : Prop where
  obj : ∃ pm ctv : Value, s.heap.get? f = some (PySem.W.kla_obj "<lambda>" (X.env.qual ++ "<lambda>") params body scope (cloFrom X.env.cells scope.names []) pm c' ctv) ∧ bindArgs (PySem.W.kla_fn "<lambda>" (X.env.qual ++ "<lambda>") params body scope (cloFrom X.env.cells scope.names []) pm (.ref c') ctv) ⟨[], []⟩ = pure []
  free : H f = none
  nofr : f ∉ frs X.stack
/-- the frame of the def that got the lambda -/
abbrev EnvG (qg : Str) (sg : Scope) (s : Shared) (g : Addr) (cdg : Value) : Env := envOfC qg sg s.heap.objs.size g cdg
abbrev CxG (CXg : CXT) (X : Cx) (Ng : List Str) (qg : Str) (sg : Scope) (g : Addr) (cdg : Value) (s : Shared) (H : Hp) (Eg : XK) : Cx := cxOf CXg X.prog X.w X.K X.mg X.base Ng qg sg g cdg X.A X.stack s H Eg
theorem ask_run {CXg : CXT} {Eg : XK} {Ng : List Str} {qg : Str} {sg : Scope} {g f c' : Addr} {cdg : Value} {params : Arguments} {body : Expr} {scope : Scope} {k i : Nat} {a : Str} {pn : List (Addr × Obj)} {xe : Value → Shared → Prop} {Wz : WX} {E : XK} {tb : TE} {p1 p2 : Pos}
    (I : Inv X pins σ H s) (L : LamS X.env.scope scope) (at_ : LamAt X σ H s params body scope f c') (tk : Takes ((CxG CXg X Ng qg sg g cdg s H Eg).tr pn xe) Wz) (le : ∀ cls d σ' H', E cls d H' → Wz cls d σ' H') (room : Room (k + 1) (X.A.deeper (EnvG qg sg s g cdg)))
    (hbody : ∀ (s' : Shared) (H' : Hp), Room k ((X.A.deeper (EnvG qg sg s g cdg)).deeper (lamEnv X scope s'.heap.objs.size f c')) → PE (lamCx X (X.A.deeper (EnvG qg sg s g cdg)) (EnvG qg sg s g cdg :: X.stack) s' H' E scope f c') body tb)
    (hN : Ng[i]? = some a) (hv : Vis sg a) (hd : (a == ("__debug__" : Str)) = false) (hcd : (a == ("__classdict__" : Str)) = false) :
    PE ((CxG CXg X Ng qg sg g cdg s H Eg).tr pn xe) (.Call (.Name a p1) [] [] p2) (fun σz Hz Q => σz[i]? = some (some (.ref f)) ∧ Hz c' = some (CodeO c' (X.env.qual ++ "<lambda>")) ∧ tb σ Hz Q) := by
  obtain ⟨⟨pm, ctv, hob, hbind⟩, hfree, hnofr⟩ := at_
  constructor
  rintro pz sz σz Hz Q Iz ⟨hslot, hcode, hread⟩
  have slot := (pe_var (pos := p1) (i := i) hN hv hd hcd).run pz sz σz Hz (fun v H1 => v = .ref f ∧ H1 = Hz) Iz ⟨.ref f, hslot, rfl, rfl⟩
  apply wpAny_Call_Name_kw
  refine thn slot fun u s1 ⟨v, H1, I1, r1, e1, e2⟩ => ?_
  subst e1
  rw [e2] at I1
  cases (show u = Value.ref f from r1)
  have keepF := I1.base.keep f _ hob hfree hnofr (fun z => nomatch (show f ∈ ([] : List Addr) from z))
  apply PySem.W.callWith_F0 ⟨_, _, _, _, keepF⟩
  obtain ⟨⟨oc, vs, t, g1, g2, g3⟩, _, _⟩ := I1.hok c' _ hcode
  have deep : codeAny (model X.prog X.w) (X.A.deeper (EnvG qg sg s g cdg)) (.call (.ref f) ⟨[], []⟩) (CR (L2.CX X.prog X.w) (EnvG qg sg s g cdg :: X.stack) X.prog X.w Hz s1 Q E) s1 := by
    apply PySem.W.kla_callFunE room.depth keepF rfl L.co L.gen rfl ⟨c', oc, vs, t, rfl, g1, g2, g3⟩
    rw [hbind]
    apply wpAny_pure
    apply wpAny_newFunctionEnv (fun y hy => (L.own y hy).2) (fun y hy => (List.not_mem_nil hy).elim) (hk := L.kind)
    intro h₁ ns1 same
    refine ⟨I1.nolimit.fresh _ same, ?_⟩
    have old : ∀ b o, s1.heap.get? b = some o → h₁.get? b = some o := fun b o e => same.extBut b o (Nat.ne_of_lt (Heap.lt_size e)) (Heap.get?_push_of_some _ e)
    have J := lam_start2 (E := E) (f := f) (c' := c') (tk := s1.toks + 0) I L I1.env0 room.hd I1.base ns1 old
    apply PySem.W.kla_codeExpr
    refine wpAny_mono ((hbody s1 Hz (room.deeper _)).run [] _ _ Hz Q J hread) ?_ fun _ _ z => z
    rintro v2 s2 ⟨w2, H2, J2, r2, q2⟩
    exact ⟨w2, H2, J2.os, J2.bare, J2.base, J2.hok, r2, q2⟩
  refine wpAny_call (codeAny_mono deep ?_)
  rintro (_ | (_ | _ | _ | _)) s2 z
  all_goals first | exact z.elim | exact passes_call tk le pz σz Hz s1 _ s2 I1 z | exact I1.after z
end

/-! ### a caught exception as a datum -/
/-- only the exception's name is known at the suite's beginning -/
def slE (n i : Nat) (d : D) : Sl := (List.replicate n none).set i (some d)
def exD (a dd : Nat) (x : XV) : D := Ec a dd x.1 (x.2.map fun p => .str p.1) (x.2.map (·.2))
theorem nmD_map (l : List (Str × D)) : nmD (l.map fun p => .str p.1) = l.map (·.1) := by
  induction l with
  | nil => rfl
  | cons p l ih => simp [nmD, ih]
theorem rep_exD {K : PySem.W.Frag} {W : Wd} {a dd : Addr} {fs : List (Str × V)} {x : XV} (h : W.F dd = some (.xd fs)) (l : repP K W fs x.2) : rep K W (.ref a) (exD a dd x) := by
  have names : ∀ {fs : List (Str × V)} {es : List (Str × D)}, repP K W fs es → es.map (·.1) = fs.map (·.1) ∧ repL K W (fs.map (·.2)) (es.map (·.2)) := by
    intro fs es l
    induction l with
    | nil => exact ⟨rfl, rfl⟩
    | cons h _ ih => exact ⟨by simp [ih.1, h.1], ⟨_, _, rfl, h.2, ih.2⟩⟩
  obtain ⟨n1, n2⟩ := names l
  refine ⟨by simp, fs.map (·.2), ?_, n2⟩
  rw [Int.toNat_natCast, h, nmD_map, n1]
  congr 2
  clear h l n1 n2
  induction fs with
  | nil => rfl
  | cons p fs ih => exact congrArg (List.cons p) ih
theorem sr_slE {K : PySem.W.Frag} {W : Wd} {σ : L2.St} {n i : Nat} {a : Addr} {d : D} (hl : σ.length = n) (hi : i < n) (r : rep K W (.ref a) d) : SR K W (σ.set i (some (.ref a))) (slE n i d) := by
  unfold slE
  refine ⟨by simp [hl], fun j e hj => ?_⟩
  by_cases hij : j = i
  · subst hij
    rw [List.getElem?_set_self (by simpa using hi)] at hj
    cases hj
    exact ⟨_, List.getElem?_set_self (by rw [hl]; exact hi), r⟩
  · rw [List.getElem?_set_ne (Ne.symm hij), List.getElem?_replicate] at hj
    split at hj <;> cases hj
/-! ### try: return (w, a()) / except C as e: suite -/
/-- what a suite does with an exception -/
def handR (n i : Nat) (bh : Nat → Nat → Str → MS) (a dd : Nat) (x : XV) (st : Sto) : R D := finR st.length (endR (bh a dd x.1 (slE n i (exD a dd x)) st))
def saidR (u : Str) (cs : List Str) (n i : Nat) (bh : Nat → Nat → Str → MS) : R D → R D
  | .ok d st => .ok (.tuple [.str u, d]) st
  | .exc x st => if x.1 ∈ cs then handR n i bh 0 0 x st else .bad
  | .bad => .bad
/-- what is known in the suite that holds the exception at a, of class c, its dict at dd -/
structure Su (X : Cx) (a dd : Addr) (c : Str) (oe : Obj) : Prop where
  cls : ∃ C, X.mg c = some (.ref C) ∧ Zc (.ref C) (some dd) oe
  fld : ∃ vs, oe.data = .fields vs
/-- the reading of what the lambda does, told of the state in which it was made -/
def TSaid (N : Nv) (f : R D → R D) : (XK → Hp → VK → Prop) → Hp → VK → Prop := fun tl H Q =>
  ∃ (W : Wd) (st : Sto) (r : R D), HR N.K W H st ∧ (∀ E Q', Post N W H Q' E r → tl E H Q') ∧ Post N W H Q (fun _ _ _ => False) (f r)
theorem end_posts' {N : Nv} {W : Wd} {H : Hp} {Q : VK} {n i : Nat} {r : RS} (p : Post N W H Q (fun _ _ _ => False) (endR r)) :
    PostS N n (fun _ _ _ _ => False) W H { nx := fun σ' H' => ({ nx := fun _ H' => Q .non H', rt := Q } : Ends).nx (σ'.set i none) H', rt := Q, bk := fun σ' H' => ({ nx := fun _ H' => Q .non H', rt := Q } : Ends).bk (σ'.set i none) H', ct := fun σ' H' => ({ nx := fun _ H' => Q .non H', rt := Q } : Ends).ct (σ'.set i none) H' } r := by
  cases r with
  | nx sl st => exact fun W1 sh H1 l x h s => p W1 .non H1 x h rfl
  | rt d st => exact fun W1 v H1 x h r => p W1 v H1 x h r
  | exc x st => exact fun W1 sh c dd H1 l e h r => p W1 c dd H1 e h r
  | bk _ _ => exact p.elim
  | ct _ _ => exact p.elim
  | bad => exact p.elim
theorem said_gives {X : Cx} {Ng : List Str} {x a C n q u : Str} {sg : Scope} {g CS : Addr} {cdg : Value} {i j k1 : Nat} {cs : List Str} {bh : Nat → Nat → Str → MS} {b₀ : Stmt} {suite : List Stmt} {p1 p2 p3 p4 p5 p6 p7 p8 : Pos}
    (hge : sg.names.lookup C = some .globalImplicit) (hme : X.mg C = some (.ref CS)) (hde : (C == ("__debug__" : Str)) = false) (nd : Ng.Nodup) (hi : Ng[i]? = some n) (hln : sg.names.lookup n = some .local) (h0 : ∀ f : Addr, (L2.start Ng [V.ref f])[0]? = some (some (V.ref f))) (hN : 1 ≤ Ng.length)
    (hcs : ∀ c ∈ cs, ∀ D, X.mg c = some (.ref D) → PySem.W.exmOne X.K (.ref D) (.ref CS) = some true)
    (ind : ∀ a dd (x : XV) st, x.1 ∈ cs → handR Ng.length i bh a dd x st = handR Ng.length i bh 0 0 x st)
    (hsu : ∀ (s : Shared) (H : Hp) (b dd : Addr) (c : Str) (oe : Obj) (pn : List (Addr × Obj)), c ∈ cs → Su (CxG C8.CX0 X Ng x sg g cdg s H C8.E0) b dd c oe →
      GSs ((CxG C8.CX0 X Ng x sg g cdg s H C8.E0).nox.suite b ((b, oe) :: pn)) (fun _ _ _ _ => False) (b₀ :: suite) (bh b dd c)) :
    GivesTo X Ng x sg g cdg [.Try [.Return (some (.Tuple [.Constant (.str u) j p1, .Call (.Name a p2) [] [] p3] k1 p4)) p5] [.ExceptHandler (some (.Name C p6)) (some n) (b₀ :: suite) p7] [] [] p8] a q (TSaid (nv X) (saidR u cs Ng.length i bh)) := by
  intro f c' s H Q tl act hc ⟨W, st, r, hr, htl, hp⟩
  have hgl : Gl (CxG C8.CX0 X Ng x sg g cdg s H C8.E0).nox C := hge
  have ilt : i < Ng.length := (List.getElem?_eq_some_iff.mp hi).1
  let ts : Addr → Value → Option Addr → TS := fun b cls d D σ H => σ.length = Ng.length → ∃ dd c E, d = some dd ∧ cls = .ref E ∧ X.mg c = some (.ref E) ∧ c ∈ cs ∧ rdS (nv X) (fun _ _ _ _ => False) (bh b dd c) D σ H
  have body := ps_try_as (X := (CxG C8.CX0 X Ng x sg g cdg s H C8.E0).nox) (c := .ref CS) (np := p6) (pos := p8) (pos' := p7) (i := i) (n := n) (x := C) (b₀ := b₀) (suite := suite) (ts := ts) (body := [.Return (some (.Tuple [.Constant (.str u) j p1, .Call (.Name a p2) [] [] p3] k1 p4)) p5])
      (tb := fun Wt D σ H => ∃ Ech : XK, (∀ cls d σ' H', Ech cls d H' → Wt cls d σ' H') ∧ σ[0]? = some (some (.ref f)) ∧ H c' = some (CodeO c' q) ∧ tl Ech H fun v H2 => [V.str u, v].length ≤ sizeLine ∧ ∀ b, H2 b = none → D.rt (.ref b) (upd H2 b (.tup [.str u, v])))
      rfl rfl nd hi hln ⟨hgl, hde, .inl hme⟩ LamX.takes0 (fun Wt pn xe tk _ => ?_) fun b oe cls d pn hz hf => ?_
  · refine ⟨_, pss_one body, ?_⟩
    refine ⟨fun cls d H' => ∃ x st1 W', r = .exc x st1 ∧ Ext W H W' H' ∧ HR (nv X).K W' H' st1 ∧ repX (nv X) W' H' cls d x, fun cls d σ' H' ⟨x, st1, W', er, x1, h1, rx⟩ => ?_, h0 f, hc, htl _ _ ?_⟩
    · subst er
      unfold saidR at hp
      simp only at hp
      split at hp
      · rename_i hx
        obtain ⟨E, e1, e2, dd, fs, e3, e4, e5⟩ := rx
        subst e2; subst e3
        refine ⟨true, hcs _ hx _ e1, fun _ b hb hl => ⟨dd, x.1, E, rfl, rfl, e1, hx, W', slE Ng.length i (exD b dd x), st1, h1, sr_slE (by simpa using hl) ilt (rep_exD e4 e5), ?_⟩, fun z => by cases z⟩
        have p1 := Post.ext x1 hp
        rw [← ind b dd x st1 hx] at p1
        have p2 := fin_post h1 p1
        exact end_posts' p2
      · exact hp.elim
    · cases r with
      | bad => exact hp
      | exc x st1 => exact fun W' cls dd H' e1 h1 r1 => ⟨x, st1, W', rfl, e1, h1, r1⟩
      | ok d st1 =>
        intro W' v H' e1 h1 r1
        refine ⟨by show 2 ≤ sizeLine; decide, fun b hb => ?_⟩
        exact (Post.ext e1 hp).tup (xs := [.str u, v]) h1 ⟨_, _, rfl, rfl, _, _, rfl, r1, rfl⟩ b hb
  · refine ⟨fun pins s' σ H' D I ⟨Ech, hW, h1, h2, h3⟩ => ?_⟩
    have hp := act Wt pn xe Ech p2 p3 tk hW
    have hq := pss_one (ps_ret (pos := p5) (pe_tup (x1 := k1) (pos := p4) (pa_cons (pe_str (x := u) (j := j) (pos := p1)) (pa_cons hp pa_nil))))
    refine hq.run pins s' σ H' D I ?_
    exact ⟨h1, h2, h3⟩
  · refine ⟨fun pins s' σ H' D I h => ?_⟩
    obtain ⟨dd, c, E, e1, e2, e3, e4, e5⟩ := h I.len
    subst e1; subst e2
    exact (hsu s H b dd c oe pn e4 ⟨⟨E, e3, hz⟩, hf⟩).run pins s' σ H' D I e5

/-! ### x(lambda: e) -/
def tbOk (st : Sto) (P : Addr) (q : Str) : Bool := decide ((P, q) ∈ tbs st) && (tbs st).all fun p => !decide (p.1 = P) || decide (p.2 = q)
theorem tbOk_app {st : Sto} {m : MO} {P : Addr} {q : Str} (h : noTb m = true) : tbOk (st ++ [m]) P q = tbOk st P q := by unfold tbOk; rw [tbs_app st h]
/-- a def of that form, called from anywhere with a lambda -/
def Said (P : Program) (w : World) (K : PySem.W.Frag) (mg : Str → Option Value) (base : Heap) (x : Str) (f : R D → R D) : Prop :=
  ∃ (g : Addr) (a : Str) (Ng : List Str) (st : Stmt) (fd : FuncData), Fun K x x st g fd ∧ mg x = some (.ref g) ∧ Binds K fd [a] [] ∧ FnScope Ng [a] (defScope st) ∧ Ng[0]? = some a ∧ Vis (defScope st) a ∧ (a == ("__debug__" : Str)) = false ∧ (a == ("__classdict__" : Str)) = false ∧ (x == ("__debug__" : Str)) = false ∧
    ∀ (X : Cx) (cdv : Value) (q : Str), X.prog = P → X.w = w → X.K = K → X.mg = mg → X.base = base → Room 2 X.A → X.A.guards = some [] → GivesTo X Ng x (defScope st) g cdv (defBody st) a q (TSaid ⟨K, mg⟩ f)
def okOnly : R D → R D
  | .exc _ _ => .bad
  | r => r
theorem post_okOnly {N : Nv} {W : Wd} {H : Hp} {Q : VK} {E E' : XK} {r : R D} (h : Post N W H Q E (okOnly r)) : Post N W H Q E' r := by
  cases r with
  | exc _ _ => exact h.elim
  | ok d st => exact h
  | bad => exact h
def mSaid (P : Addr) (q : Str) (f : R D → R D) (m : M) : M := fun sl st => if tbOk st P q = true then okOnly (f (m sl st)) else .bad
section
variable {X : Cx} {Wx : WX}
theorem ge_said {x q : Str} {P : Addr} {k : Nat} {f : R D → R D} {mE : M} {params : Arguments} {body : Expr} {scope : Scope} {p lpos pos : Pos} (d : Said X.prog X.w X.K X.mg X.base x f) (room : Room (k + 2) X.A) (g : Gd X) (tb : ∃ c, TabB X.base X.mg c P ∧ X.env.code = .ref c)
    (hE : ∀ (s : Shared) (H : Hp) (E : XK) (A : Around) (outer : List Env) (h c' : Addr), Room k (A.deeper (lamEnv X scope s.heap.objs.size h c')) → Gd (lamCx X A outer s H E scope h c') → Takes (lamCx X A outer s H E scope h c') (Ew E) → GE (lamCx X A outer s H E scope h c') (Ew E) body mE)
    (L : LamS X.env.scope scope) (hg : Gl X x := by rfl) (hq : X.env.qual ++ "<lambda>" = q := by rfl) (hdef : defaultsOf params X.env = ([], []) := by rfl) (hbind : ∀ (q : Str) (cl : List (Str × Addr)) (pm cv ctv : Value), bindArgs (PySem.W.kla_fn "<lambda>" q params body scope cl pm cv ctv) ⟨[], []⟩ = pure [] := by intros; rfl) :
    GE X Wx (.Call (.Name x p) [.Lambda params body scope lpos] [] pos) (mSaid P q f mE) := by
  subst hq
  obtain ⟨gf, a, Ng, st, fd, F, hmg, hbd, S, hN, hv, d1, d2, d3, give⟩ := d
  obtain ⟨oc, od, kV, doc, pm0, an, cdv, ct, osl, efd, lk, hcd⟩ := F.ex
  obtain ⟨c, TB, hcode⟩ := tb
  constructor
  rintro pins s σ H Q I ⟨W, sl, st0, hr, hs, hp⟩
  unfold mSaid at hp
  split at hp
  rotate_left
  · exact hp.elim
  rename_i hok
  unfold tbOk at hok
  rw [Bool.and_eq_true, decide_eq_true_eq, List.all_eq_true] at hok
  obtain ⟨hmem, huniq⟩ := hok
  refine wpAny_Call_Name_kw (ld_glob I hg hmg ?_ d3)
  refine PySem.W.callWith_K (h₀ := X.base) I.ok.mod.kin F.kp ?_ (by rfl) (by rfl)
  show wpAny _ _ (spliced ((false, eval (.Lambda params body scope lpos) X.env) :: backTo pos (starEach [] X.env))) _ _ s
  refine Calls.spliced_cons (lam_make2 I TB hcode hmem (fun p hm hP => ?_) hr.tab hdef (L.has I.ok) fun h c' pm' ctv H1 s' I1 eN T1 hf hfn hfr hco => ?_)
  · have z := huniq p hm
    simpa [hP] using z
  refine Calls.spliced_nil ⟨I1.kIn, ?_⟩
  obtain ⟨hr1, x1⟩ := hr.extN eN T1
  have run : codeAny (model X.prog X.w) X.A (.call (.ref gf) ⟨[.ref h], []⟩) (CR C8.CX0 X.stack X.prog X.w H1 s' Q C8.E0) s' := by
    refine run_ofS (N := Ng) (ps := [a]) (us := [.ref h]) (vs := [.ref h]) (efd ▸ lk) hcd S room I1.env0 ?_ (.cons rfl .nil) rfl fun room' => ?_
    · have b := hbd s' [.ref h] I1.kIn rfl
      rw [efd] at b
      simpa using b
    · have G := give X cdv (X.env.qual ++ "<lambda>") rfl rfl rfl rfl rfl (room.mono (by omega)) g.gu h c' s' H1 Q (fun E H' Q' => rd (nv X) (Ew E) mE σ H' Q') (fun Wz pn xe E p1 p2 tk hW => ?_) hco ⟨W, st0, mE sl st0, hr1, fun E Q' hp' => ⟨W, sl, st0, hr1, hs, hp'⟩, Post.ext x1 (post_okOnly hp)⟩
      · obtain ⟨t', ht', hq'⟩ := G
        exact ⟨t', ht'.nox, hq'⟩
      · refine ask_run (k := k) I1 L ⟨⟨pm', ctv, hf, hbind _ _ _ _ _⟩, hfn, hfr⟩ tk hW room' (fun s2 H2 r2 => ?_) hN hv d1 d2
        refine hE s2 H2 E _ _ h c' r2 ⟨rfl, g.nd, Nat.lt_of_le_of_lt (Nat.add_le_add_right (Nat.le_add_right _ (16 * k)) 200) r2.un, g.gu⟩ (takes_of rfl rfl rfl rfl)
  refine wpAny_call (codeAny_mono run ?_)
  rintro (_ | (_ | _ | _ | _)) s2 z
  all_goals first | exact (show False from z).elim | exact I1.after z
end
end Pv
set_option Elab.async false
set_option linter.all false
set_option maxRecDepth 100000
set_option maxHeartbeats 1000000
set_option pp.maxSteps 400
namespace Pv
open PySem PySem.Spec L2 LamX
open PyProof.Rows hiding St

/-! ### in the suite that holds an exception -/
/-- isinstance's answer for the exception class c and the class y -/
def IsE (K : PySem.W.Frag) (mg : Str → Option Value) (c y : Str) (b : Bool) : Prop := ∃ C Y, mg c = some (.ref C) ∧ mg y = some (.ref Y) ∧ ExcC K C ∧ PySem.W.kitOne K (.ref C) (.ref Y) = some b
def IsEb (K : PySem.W.Frag) (mg : Str → Option Value) (c : Str) (T : String) (b : Bool) : Prop := ∃ C, mg c = some (.ref C) ∧ ExcC K C ∧ PySem.W.kitOne K (.ref C) (.type T) = some b
/-- a field of the exception class c -/
def FldE (K : PySem.W.Frag) (mg : Str → Option Value) (c f : Str) : Prop := ∃ C, mg c = some (.ref C) ∧ XfC K C ∧ PySem.W.findIn K (.ref C) f = some none
def onE (a dd : Nat) (c : Str) (f : List D → List D → Option D) : D → Option D
  | .dict [(.bool true, .tuple [.int a', .int dd', .str c', .tuple ns, .tuple fs])] => if a' = (a : Int) ∧ dd' = (dd : Int) ∧ c' = c then f ns fs else none
  | _ => none
theorem onE_inv {a dd : Nat} {c : Str} {f : List D → List D → Option D} {d e : D} (h : onE a dd c f d = some e) : ∃ ns fs, d = Ec a dd c ns fs ∧ f ns fs = some e := by
  unfold onE at h
  split at h
  · split at h
    · rename_i z
      obtain ⟨z1, z2, z3⟩ := z
      subst z1; subst z2; subst z3
      exact ⟨_, _, rfl, h⟩
    · cases h
  · cases h
def mOnE (a dd : Nat) (c : Str) (f : List D → List D → Option D) (m : M) : M := fun sl st => (m sl st).bind fun d st => lift (onE a dd c f d) st
abbrev mIsE (a dd : Nat) (c : Str) (b : Bool) (m : M) : M := mOnE a dd c (fun _ _ => some (.bool b)) m
abbrev mFld (a dd : Nat) (c f : Str) (m : M) : M := mOnE a dd c (fun ns fs => ((nmD ns).zip fs).lookup f) m
theorem rep_Ec {K : PySem.W.Frag} {W : Wd} {v : V} {a dd : Nat} {c : Str} {ns fs : List D} (h : rep K W v (Ec a dd c ns fs)) : v = .ref a ∧ ∃ xs, W.F dd = some (.xd ((nmD ns).zip xs)) ∧ repL K W xs fs := by
  obtain ⟨h1, xs, h2, h3⟩ := h
  rw [Int.toNat_natCast] at h1 h2
  exact ⟨h1, xs, h2, h3⟩
theorem lookup_zip {K : PySem.W.Frag} {W : Wd} {f : Str} {d : D} : ∀ {ns : List Str} {xs : List V} {fs : List D}, repL K W xs fs → (ns.zip fs).lookup f = some d → ∃ v, (ns.zip xs).lookup f = some v ∧ rep K W v d
  | [], _, _, _, h => by simp at h
  | n :: ns, xs, [], l, h => by simp at h
  | n :: ns, xs, e :: fs, ⟨v, us, q1, q2, q3⟩, h => by
    subst q1
    rw [List.zip_cons_cons, List.lookup_cons] at h ⊢
    split at h
    · rename_i z; cases h; exact ⟨v, rfl, q2⟩
    · exact lookup_zip q3 h
section
variable {X : Cx} {Wx : WX} {a dd : Addr} {c f y : Str} {oe : Obj} {pn : List (Addr × Obj)} {ea : Expr} {ma : M} {p p2 pos : Pos}
theorem call_isX {D : Addr} (C : ExcC X.K D) (hz : Zc (.ref D) (some dd) oe) (hf : ∃ vs, oe.data = .fields vs) : CallR (X.suite a ((a, oe) :: pn)) (.builtin "isinstance")
    (fun xs H Q => ∃ (c : V) (cv : Value) (b : Bool) (fs : List (Str × V)), xs = [.ref a, c] ∧ (∀ u, RelV c u → u = cv) ∧ PySem.W.kitOne X.K (.ref D) cv = some b ∧ H dd = some (.xd fs) ∧ Q (.bl b) H) := by
  rintro pins s σ H xs us Q I r ⟨c, cv, b, fs, rfl, hcv, hk, hx, q⟩
  obtain ⟨u1, us, rfl, r1, r⟩ : ∃ u1 us', us = u1 :: us' ∧ RelV (.ref a) u1 ∧ Vals [c] us' := by cases r with | cons r1 r2 => exact ⟨_, _, rfl, r1, r2⟩
  obtain ⟨u2, rfl, r2⟩ := vals1 r
  cases (show u1 = Value.ref a from r1)
  cases hcv _ r2
  have pin := (I.pin (a, oe) (List.mem_append_left _ List.mem_cons_self)).1
  obtain ⟨vs, hv⟩ := hf
  obtain ⟨mA, hns, hr⟩ := (show ObjOk X.prog X.w H s.heap dd (.xd fs) from I.hok dd _ hx)
  obtain ⟨od, ho, hl⟩ := lookIn_ns hns
  have at_ : PySem.W.InstAt s.heap a oe D (some od) := ⟨pin, hz.1, by unfold PySem.W.notCls; rw [hv] <;> rfl, by rw [hz.2]; exact ho⟩
  obtain ⟨cd, hcd, _⟩ := PySem.W.any_some C.hd
  exact PySem.W.kia_one (PySem.W.kitx_exc (by rw [hcd]; rfl) C.hg C.hk C.hs C.ha C.hn C.ht C.hm) I.kIn at_ hk (fun z => nomatch z) fun tk => ⟨.bl b, H, I.kept (t' := tk) fun _ _ z => z, rfl, q⟩
theorem ge_isE {b : Bool} (u : Su X a dd c oe) (h : IsE X.K X.mg c y b) (hm : X.mg "isinstance" = none) (ha : GE (X.suite a ((a, oe) :: pn)) Wx ea ma) (hg : Gl (X.suite a ((a, oe) :: pn)) "isinstance" := by rfl) (hgy : Gl (X.suite a ((a, oe) :: pn)) y := by rfl) (hd : (y == ("__debug__" : Str)) = false := by decide +kernel)
    (he : starEach [ea, .Name y p2] (X.suite a ((a, oe) :: pn)).env = (false, eval ea (X.suite a ((a, oe) :: pn)).env) :: starEach [.Name y p2] (X.suite a ((a, oe) :: pn)).env := by rfl) (he2 : starEach [.Name y p2] (X.suite a ((a, oe) :: pn)).env = (false, eval (.Name y p2) (X.suite a ((a, oe) :: pn)).env) :: starEach [] (X.suite a ((a, oe) :: pn)).env := by rfl) (hpl : (backTo pos (starEach [.Name y p2] (X.suite a ((a, oe) :: pn)).env)).any (·.1) = false := by rfl) :
    GE (X.suite a ((a, oe) :: pn)) Wx (.Call (.Name "isinstance" p) [ea, .Name y p2] [] pos) (mIsE a dd c b ma) := by
  obtain ⟨C, Y, m1, m2, EC, hk⟩ := h
  obtain ⟨⟨C', m3, hz⟩, hf⟩ := u
  rw [m1] at m3; cases m3
  have hy : PE (X.suite a ((a, oe) :: pn)) (.Name y p2) (tC (.ref Y)) := pe_glob hgy m2 rfl hd
  refine PE.imp (pe_callB (call_isX (pn := pn) EC hz hf) hg hm (by decide +kernel) (pa_cons ha (pa_cons hy pa_nil he2) he) (by decide +kernel) (by decide +kernel) he hpl) fun sh H Q ⟨W, sl, st, hr, hs, q⟩ => ?_
  refine rd_bind hr hs q fun d1 st1 W1 v1 H1 e1 x1 h1 s1 r1 p1 => ?_
  cases ht : onE a dd c (fun _ _ => some (.bool b)) d1 with
  | none => rw [ht] at p1; exact p1.elim
  | some t =>
    rw [ht] at p1
    obtain ⟨ns, fs, e1, e2⟩ := onE_inv ht
    cases e2
    subst e1
    obtain ⟨q1, xs, q2, _⟩ := rep_Ec r1
    subst q1
    exact ⟨.ref Y, .ref Y, b, _, rfl, fun _ z => z, hk, h1.sub _ _ q2, p1.val h1 rfl⟩
theorem ge_isEb {T : String} {b : Bool} (u : Su X a dd c oe) (h : IsEb X.K X.mg c T b) (hm : X.mg "isinstance" = none) (hmy : X.mg y = none) (ha : GE (X.suite a ((a, oe) :: pn)) Wx ea ma) (hv : bootBuiltins y = some (.type T) := by decide +kernel) (hg : Gl (X.suite a ((a, oe) :: pn)) "isinstance" := by rfl) (hgy : Gl (X.suite a ((a, oe) :: pn)) y := by rfl) (hn : y ≠ "__name__" := by decide +kernel) (hd : (y == ("__debug__" : Str)) = false := by decide +kernel)
    (he : starEach [ea, .Name y p2] (X.suite a ((a, oe) :: pn)).env = (false, eval ea (X.suite a ((a, oe) :: pn)).env) :: starEach [.Name y p2] (X.suite a ((a, oe) :: pn)).env := by rfl) (he2 : starEach [.Name y p2] (X.suite a ((a, oe) :: pn)).env = (false, eval (.Name y p2) (X.suite a ((a, oe) :: pn)).env) :: starEach [] (X.suite a ((a, oe) :: pn)).env := by rfl) (hpl : (backTo pos (starEach [.Name y p2] (X.suite a ((a, oe) :: pn)).env)).any (·.1) = false := by rfl) :
    GE (X.suite a ((a, oe) :: pn)) Wx (.Call (.Name "isinstance" p) [ea, .Name y p2] [] pos) (mIsE a dd c b ma) := by
  obtain ⟨C, m1, EC, hk⟩ := h
  obtain ⟨⟨C', m3, hz⟩, hf⟩ := u
  rw [m1] at m3; cases m3
  have hy : PE (X.suite a ((a, oe) :: pn)) (.Name y p2) (tC (.ty T)) := pe_bltn hgy hmy hv rfl hn hd
  refine PE.imp (pe_callB (call_isX (pn := pn) EC hz hf) hg hm (by decide +kernel) (pa_cons ha (pa_cons hy pa_nil he2) he) (by decide +kernel) (by decide +kernel) he hpl) fun sh H Q ⟨W, sl, st, hr, hs, q⟩ => ?_
  refine rd_bind hr hs q fun d1 st1 W1 v1 H1 e1 x1 h1 s1 r1 p1 => ?_
  cases ht : onE a dd c (fun _ _ => some (.bool b)) d1 with
  | none => rw [ht] at p1; exact p1.elim
  | some t =>
    rw [ht] at p1
    obtain ⟨ns, fs, e1, e2⟩ := onE_inv ht
    cases e2
    subst e1
    obtain ⟨q1, xs, q2, _⟩ := rep_Ec r1
    subst q1
    exact ⟨.ty T, .type T, b, _, rfl, fun _ z => z, hk, h1.sub _ _ q2, p1.val h1 rfl⟩
/-- e.f -/
theorem ge_fld (u : Su X a dd c oe) (h : FldE X.K X.mg c f) (ha : GE (X.suite a ((a, oe) :: pn)) Wx ea ma) (hb : attributeBase ea f X.env (eval ea X.env) = eval ea X.env := by rfl) : GE (X.suite a ((a, oe) :: pn)) Wx (.Attribute ea f pos) (mFld a dd c f ma) := by
  obtain ⟨C, m1, T, hno⟩ := h
  obtain ⟨⟨C', m3, hz⟩, hf⟩ := u
  rw [m1] at m3; cases m3
  refine PE.imp (pe_xf (pn := pn) T hno hz hf ha hb) fun sh H Q ⟨W, sl, st, hr, hs, q⟩ => ?_
  refine rd_bind hr hs q fun d1 st1 W1 v1 H1 e1 x1 h1 s1 r1 p1 => ?_
  cases ht : onE a dd c (fun ns fs => ((nmD ns).zip fs).lookup f) d1 with
  | none => rw [ht] at p1; exact p1.elim
  | some t =>
    rw [ht] at p1
    obtain ⟨ns, fs, e1, e2⟩ := onE_inv ht
    subst e1
    obtain ⟨q1, xs, q2, q3⟩ := rep_Ec r1
    obtain ⟨v, l1, l2⟩ := lookup_zip q3 e2
    exact ⟨q1, rfl, dd, _, v, rfl, h1.sub _ _ q2, l1, p1.val h1 l2⟩
end
/-- the def: try: return (u, a()) / except C as n: suite -/
theorem said_of {P : Program} {w : World} {K : PySem.W.Frag} {mg : Str → Option Value} {base : Heap} {x a C n u : Str} {st : Stmt} {g CS : Addr} {fd : FuncData} {Ng : List Str} {i j k1 : Nat} {cs : List Str} {bh : Nat → Nat → Str → MS} {b₀ : Stmt} {suite : List Stmt} {p1 p2 p3 p4 p5 p6 p7 p8 : Pos}
    (F : Fun K x x st g fd) (hm : mg x = some (.ref g)) (hb : Binds K fd [a] []) (S : FnScope Ng [a] (defScope st))
    (hbody : defBody st = [.Try [.Return (some (.Tuple [.Constant (.str u) j p1, .Call (.Name a p2) [] [] p3] k1 p4)) p5] [.ExceptHandler (some (.Name C p6)) (some n) (b₀ :: suite) p7] [] [] p8])
    (hme : mg C = some (.ref CS)) (hcs : ∀ c ∈ cs, ∀ D, mg c = some (.ref D) → PySem.W.exmOne K (.ref D) (.ref CS) = some true)
    (ind : ∀ a dd (x : XV) st, x.1 ∈ cs → handR Ng.length i bh a dd x st = handR Ng.length i bh 0 0 x st)
    (hsu : ∀ (cdv : Value) (A : Around) (outer : List Env) (s : Shared) (H : Hp) (b dd : Addr) (c : Str) (oe : Obj) (pn : List (Addr × Obj)), c ∈ cs → Su (cxOf C8.CX0 P w K mg base Ng x (defScope st) g cdv A outer s H C8.E0).nox b dd c oe → Gd0 ((cxOf C8.CX0 P w K mg base Ng x (defScope st) g cdv A outer s H C8.E0).nox.suite b ((b, oe) :: pn)) →
      GSs ((cxOf C8.CX0 P w K mg base Ng x (defScope st) g cdv A outer s H C8.E0).nox.suite b ((b, oe) :: pn)) (fun _ _ _ _ => False) (b₀ :: suite) (bh b dd c))
    (hge : (defScope st).names.lookup C = some .globalImplicit := by rfl) (hi : Ng[i]? = some n := by rfl) (hln : (defScope st).names.lookup n = some .local := by rfl) (h0 : ∀ f : Addr, (L2.start Ng [V.ref f])[0]? = some (some (V.ref f)) := by intro _; rfl)
    (hN0 : Ng[0]? = some a := by rfl) (hva : (defScope st).names.lookup a = some .local := by rfl) (d1 : (a == ("__debug__" : Str)) = false := by decide +kernel) (d2 : (a == ("__classdict__" : Str)) = false := by decide +kernel) (d3 : (x == ("__debug__" : Str)) = false := by decide +kernel) (hde : (C == ("__debug__" : Str)) = false := by decide +kernel) :
    Said P w K mg base x (saidR u cs Ng.length i bh) := by
  refine ⟨g, a, Ng, st, fd, F, hm, hb, S, hN0, .inl hva, d1, d2, d3, fun X cdv q e1 e2 e3 e4 e5 hun hgu => ?_⟩
  subst e1; subst e2; subst e3; subst e4; subst e5
  rw [hbody]
  refine said_gives hge hme hde S.nd hi hln h0 (by have := (List.getElem?_eq_some_iff.mp hN0).1; omega) hcs ind fun s H b dd c oe pn hc hu => hsu cdv X.A X.stack s H b dd c oe pn hc ⟨hu.cls, hu.fld⟩ ⟨S.nd, ?_, hgu⟩
  show X.A.units + 3 + 200 < cLine
  have := hun.un; omega
end Pv
set_option Elab.async false
set_option linter.all false
set_option maxRecDepth 100000
set_option maxHeartbeats 1000000
set_option pp.maxSteps 400
namespace Pv
open PySem PySem.Spec L2 LamX
open PyProof.Rows hiding St

/-! ### defs that make lambdas -/
/-- as DefAt, the def's code object named -/
def DefAtC (K : PySem.W.Frag) (mg : Str → Option Value) (x : Str) (st : Stmt) (ps : List Str) (c : Addr) : Prop := ∃ f fd, FunCd K x x st f fd (.ref c) ∧ PySem.W.keepIn K (.ref f) = true ∧ mg x = some (.ref f) ∧ Binds K fd ps []
theorem cd_of {K : PySem.W.Frag} {x : Str} {st : Stmt} {f : Addr} {oc : Value} {od an : Option Addr} {osl : Array (Option Value)} {kV doc pm cdv ct : Value} (l : K.lookup f = some ⟨oc, od, .func (PySem.W.fnOf x x (defArgs st) (defBody st) (defScope st) .none kV doc pm an cdv ct), osl⟩) (c : PySem.W.codeIn K cdv x = true) :
    FunCd K x x st f (PySem.W.fnOf x x (defArgs st) (defBody st) (defScope st) .none kV doc pm an cdv ct) cdv := ⟨oc, od, kV, doc, pm, an, ct, osl, rfl, l, c⟩
/-- one def's table: its code object, the table, the name of its lambdas -/
abbrev Tb3 := Addr × Addr × Str
def tabSto (cs : List Tb3) : Sto := cs.map fun p => .tb p.2.1 p.2.2
theorem tbs_tabSto : ∀ cs : List Tb3, tbs (tabSto cs) = cs.map (·.2)
  | [] => rfl
  | p :: cs => by show (p.2.1, p.2.2) :: tbs (tabSto cs) = p.2 :: cs.map (·.2); rw [tbs_tabSto cs]
section
variable {P : Program} {w : World} {K : PySem.W.Frag} {mg mb : Str → Option Value} {k : Nat} {fa a : Addr} {fd : FuncData} {x : Str} {F : Fn} {s₁ : Shared} {vs : List Value} {ns : List Int} {cs : List Tb3}
theorem repL_nums {W : Wd} : ∀ ns : List Int, repL K W (ns.map V.int) (ns.map .int)
  | [] => rfl
  | n :: ns => ⟨_, _, rfl, rfl, repL_nums ns⟩
/-- the store at the law's beginning: its tables -/
theorem hr_tabs {H : Hp} (nd : (cs.map (·.2.1)).Nodup) (hH : ∀ p ∈ cs, H p.2.1 = some (.tbl #[])) (only : ∀ b ps, H b = some (.tbl ps) → b ∈ cs.map (·.2.1)) :
    HR K ⟨fun b => if b ∈ cs.map (·.2.1) then none else H b, cs.map (·.2.1)⟩ H (tabSto cs) := by
  have notF : ∀ {b o}, (if b ∈ cs.map (·.2.1) then none else H b) = some o → b ∉ cs.map (·.2.1) ∧ H b = some o := fun {b o} e => by
    by_cases hb : b ∈ cs.map (·.2.1)
    · rw [if_pos hb] at e; cases e
    · rw [if_neg hb] at e; exact ⟨hb, e⟩
  refine ⟨by simp [tabSto], nd, fun b o e => (notF e).2, fun r b m e1 e2 => ?_, fun p hp => ?_, fun b ps e => ?_⟩
  · have hb : b ∈ cs.map (·.2.1) := List.mem_of_getElem? e1
    refine ⟨if_pos hb, ?_⟩
    unfold tabSto at e2
    have e1' : (cs.map (·.2.1))[r]? = some b := e1
    rw [List.getElem?_map] at e1' e2
    obtain ⟨p, q1, q2⟩ := Option.map_eq_some_iff.mp e1'
    rw [q1] at e2
    cases e2
    exact ⟨q2.symm, #[], by rw [← q2]; exact hH p (List.mem_of_getElem? q1)⟩
  · rw [tbs_tabSto] at hp
    obtain ⟨q, hq, e⟩ := List.mem_map.mp hp
    subst e
    exact TabS.nil (hH q hq)
  · obtain ⟨h1, h2⟩ := notF e
    exact h1 (only b ps h2)
theorem head_GT (KX : K.In s₁.heap) (hns : s₁.heap.Ns mainGlobals mg) (hb : s₁.heap.Ns builtinsNs mb) (hbb : ∀ x : Str, x ≠ "__name__" → mb x = bootBuiltins x) (hlim : s₁.heap.NoLimit) (hg : s₁.gens = #[])
    (hT : ∀ p ∈ cs, s₁.heap.get? p.2.1 = some (PySem.W.tabObj #[])) (nT : ∀ p ∈ cs, K.lookup p.2.1 = none) (C : ∀ p ∈ cs, PySem.W.CodeHd s₁.heap p.1 p.2.1) (nd : (cs.map (·.2.1)).Nodup)
    (hbm : ∃ (bm : Addr) (ob : Obj), mg "__builtins__" = some (.ref bm) ∧ bm ≠ builtinsNs ∧ s₁.heap.get? bm = some ob ∧ ob.cls = .type "module" ∧ ob.dict = some builtinsNs ∧ ob.data = .plain)
    (ha : s₁.heap.get? a = some { cls := .type "list", data := .seq vs.toArray }) (hi : IntsAre vs ns) (hl : ns.length ≤ sizeLine) (hr : Room k callerA)
    (hF : ∀ base : Heap, K.In base → base.Ns mainGlobals mg → (∀ p ∈ cs, TabB base mg p.1 p.2.1) → FnG P w K mg base k fa fd [x] F) (hbind : ∀ (s : Shared) (u : Value), BindsTo s fd ⟨[u], []⟩ [(x, u)])
    (law : ∃ st, F [Gs (ns.map .int)] (tabSto cs) = .ok (.bool true) st) :
    codeAny (model P w) callerA (.call (.ref fa) ⟨[.ref a], []⟩) (fun r s' => r = .ok (.ret (.bool true)) ∧ OldK s₁.heap s'.heap ∧ s'.os = s₁.os ∧ AllBare s'.gens) s₁ := by
  have lenV := hi.length
  have rels := vals_ints hi
  let ts := cs.map (·.2.1)
  have tabAt : ∀ b ∈ ts, s₁.heap.get? b = some (PySem.W.tabObj #[]) := fun b q => by
    obtain ⟨p, hp, e⟩ := List.mem_map.mp q
    subst e; exact hT p hp
  have notA : a ∉ ts := fun q => by
    have z := tabAt a q
    rw [ha] at z
    exact nomatch (show Data.seq vs.toArray _ = Data.fields #[] from congrArg Obj.data (Option.some.inj z))
  have isT : ∀ p ∈ cs, p.2.1 ∈ ts := fun p hp => List.mem_map.mpr ⟨p, hp, rfl⟩
  have go : ∀ H : Hp, (∀ p ∈ cs, H p.2.1 = some (.tbl #[])) → (∀ b, H b = none ∨ b ∈ ts ∨ ∃ o xs, H b = some (.frz o (.lst xs))) → SqL K H a (ns.map V.int) → HOk P w H s₁.heap → (∀ b, H b ≠ none → b = a ∨ b ∈ ts) → (H a ≠ none → K.lookup a = none) →
      codeAny (model P w) callerA (.call (.ref fa) ⟨[.ref a], []⟩) (fun r s' => r = .ok (.ret (.bool true)) ∧ OldK s₁.heap s'.heap ∧ s'.os = s₁.os ∧ AllBare s'.gens) s₁ := by
    intro H hH only sq ok one free
    have bare : ∀ {b : Addr} {o : Obj}, s₁.heap.get? b = some o → (∀ us n, o.data ≠ .seq us n) → o.data ≠ .fields #[] → H b = none := by
      intro b o e n1 n2
      cases hb : H b with
      | none => rfl
      | some u =>
        rcases one b (by rw [hb]; exact fun z => nomatch z) with q | q
        · subst q; rw [ha] at e; cases e; exact absurd rfl (n1 _ _)
        · rw [tabAt b q] at e; cases e; exact absurd rfl n2
    have nodict : ∀ {b : Addr} {o : Obj} {es : Array DictEntry} {ep : Nat}, s₁.heap.get? b = some o → o.data = .dict es ep → H b = none := fun e q =>
      bare e (fun us n z => by rw [q] at z; cases z) fun z => by rw [q] at z; cases z
    have nsB : ∀ {b : Addr} {m : Str → Option Value}, s₁.heap.Ns b m → (hidT s₁.heap H).Ns b m := by
      intro b m ⟨o, es, ep, e, q, r⟩
      exact ⟨o, es, ep, hidT_get e (nodict e q), q, r⟩
    have kB : K.In (hidT s₁.heap H) := by
      intro b o e
      refine hidT_get (KX b o e) ?_
      cases hb : H b with
      | none => rfl
      | some u =>
        rcases one b (by rw [hb]; exact fun z => nomatch z) with q | q
        · subst q
          rw [free (by rw [hb]; exact fun z => nomatch z)] at e
          cases e
        · obtain ⟨p, hp, ep⟩ := List.mem_map.mp q
          subst ep
          rw [nT p hp] at e
          cases e
    have limB : (hidT s₁.heap H).NoLimit := by
      obtain ⟨mc, h1, h2⟩ := hlim
      exact ⟨mc, nsB h1, h2⟩
    have tabsB : ∀ p ∈ cs, TabB (hidT s₁.heap H) mg p.1 p.2.1 := by
      intro p hp
      refine ⟨?_, ?_, ?_⟩
      · obtain ⟨o, us, file, tf, flags, tg, inF, text, tt, g1, r1, r2, r3, more⟩ := C p hp
        refine ⟨o, us, file, tf, flags, tg, inF, text, tt, hidT_get g1 (bare g1 (fun us' n z => ?_) fun z => ?_), r1, r2, r3, more⟩
        · rw [r2] at z; cases z
        · rw [r2] at z; cases z; simp at r3
      · obtain ⟨bm, ob, b1, b2, b3, b4, b5, b6⟩ := hbm
        refine ⟨bm, ob, b1, b2, fun q => ?_, fun q => ?_, hidT_get b3 (bare b3 (fun us' n z => ?_) fun z => ?_), b4, b5, b6⟩
        · obtain ⟨o, es, ep, e, hd, _⟩ := hns
          rw [q, e] at b3; cases b3; rw [hd] at b6; cases b6
        · rw [q, hT p hp] at b3; cases b3; cases b6
        · rw [b6] at z; cases z
        · rw [b6] at z; cases z
      · intro q
        obtain ⟨o, es, ep, e, hd, _⟩ := hns
        rw [q, hT p hp] at e; cases e; cases hd
    have env : Env0 P w K mg (hidT s₁.heap H) callerA [] s₁ H :=
      { frames := rfl, mod := ⟨kB, nsB hns, ⟨mb, nsB hb, hbb⟩, limB⟩, bs := fun b o e => of_hidT e, bsz := Nat.le_of_eq (hidT_size _ _), funs := trivial, frf := fun b hb => (absurd (show b ∈ ([] : List Addr) from hb) (by simp)), hok := ok, bare := .of_eq hg }
    obtain ⟨st, hlaw⟩ := law
    have base := hr_tabs (K := K) nd hH fun b ps e => by
      rcases only b with z | z | ⟨o, xs, z⟩
      · rw [e] at z; cases z
      · exact z
      · rw [e] at z; cases z
    have sq' : SqL K (fun b => if b ∈ ts then none else H b) a (ns.map V.int) := by
      rcases sq with (z | ⟨o, z⟩) | z
      · exact .inl (.inl ((if_neg notA).trans z))
      · exact .inl (.inr ⟨o, (if_neg notA).trans z⟩)
      · exact .inr z
    have prom : spF ⟨K, mg⟩ 1 F [.ref a] H (fun v _ => v = .bl true) fun _ _ _ => False :=
      ⟨_, [Gs (ns.map .int)], tabSto cs, base, ⟨_, _, rfl, ⟨a, _, rfl, sq', repL_nums ns⟩, rfl⟩, rfl, by rw [hlaw]; exact fun W' v H' _ _ r => r⟩
    refine codeAny_mono ((hF _ kB (nsB hns) tabsB).run callerA [] s₁ H ⟨[.ref a], []⟩ [.ref a] [.ref a] _ _ hr rfl env (hbind s₁ (.ref a)) (.cons rfl .nil) prom) ?_
    intro r s' z
    cases r with
    | error e => obtain ⟨_, _, _, _, _, _, _, _, _, _, _, _, q⟩ := z; exact q.elim
    | ok fl => cases fl with
      | ret u =>
        obtain ⟨v, H', os, bareG, un, ok', rv, q⟩ := z
        cases (show v = .bl true from q)
        cases (show u = Value.bool true from rv)
        have same : ∀ b o, b ∉ ts → s₁.heap.get? b = some o → s'.heap.get? b = some o := by
          intro b o nb e
          cases hb : H b with
          | none => exact un.keep b o e hb (fun z => nomatch z) (fun z => nomatch z)
          | some u =>
            rcases only b with z | z | ⟨ob, xs, z⟩
            · rw [hb] at z; cases z
            · exact absurd z nb
            · obtain ⟨e1, _⟩ := ok b _ z
              obtain ⟨e2, _⟩ := ok' b _ (un.frzs b ob _ z)
              rw [e] at e1
              cases e1
              exact e2
        have more : ∀ p ∈ cs, ∃ l : Array Value, s'.heap.get? p.2.1 = some { cls := .none, data := .fields l } := by
          intro p hp
          obtain ⟨l, z⟩ := un.tbls p.2.1 #[] (hH p hp)
          exact ⟨_, ok' p.2.1 _ z⟩
        refine ⟨rfl, ⟨fun b o e => ?_, fun b o e => ?_⟩, os, bareG⟩
        · by_cases nb : b ∈ ts
          · obtain ⟨p, hp, ep⟩ := List.mem_map.mp nb
            subst ep
            obtain ⟨l, hl2⟩ := more p hp
            have e0 := e
            rw [hT p hp] at e0
            cases e0
            exact .inr (.inl ⟨((C p hp).tab (hT p hp)).isCodeTable, rfl, #[], l, rfl, by simpa using hl2⟩)
          · exact .inl (same b o nb e)
        · by_cases nb : b ∈ ts
          · obtain ⟨p, hp, ep⟩ := List.mem_map.mp nb
            subst ep
            obtain ⟨l, hl2⟩ := more p hp
            exact ⟨_, hl2⟩
          · exact ⟨o, same b o nb e⟩
      | next => exact z.elim
      | brk => exact z.elim
      | cont => exact z.elim
  have iff_ts : ∀ {b : Addr} {u v : Option HO}, b ∈ ts → (if b ∈ ts then u else v) = u := fun h => if_pos h
  cases hk : K.lookup a with
  | some o =>
    have e := KX a o hk
    rw [ha] at e
    cases e
    refine go (fun b => if b ∈ ts then some (.tbl #[]) else none) (fun p hp => if_pos (isT p hp)) (fun b => ?_) (Or.inr ⟨_, vs.toArray, _, hk, rfl, rfl, rfl, ?_, ?_⟩) (fun b u z => ?_) (fun b z => ?_) (fun z => absurd (if_neg notA) z)
    · by_cases q : b ∈ ts
      · exact .inr (.inl q)
      · exact .inl (if_neg q)
    · rw [List.size_toArray, lenV]; exact hl
    · simpa using rels
    · by_cases q : b ∈ ts
      · have z2 := (if_pos q).symm.trans z
        cases z2; exact tabAt b q
      · have z2 := (if_neg q).symm.trans z
        cases z2
    · by_cases q : b ∈ ts
      · exact .inr q
      · exact absurd (if_neg q) z
  | none =>
    refine go (fun b => if b = a then some (.frz { cls := .type "list", data := .seq vs.toArray } (.lst (ns.map V.int))) else if b ∈ ts then some (.tbl #[]) else none) (fun p hp => ?_) (fun b => ?_) (Or.inl (Or.inr ⟨_, if_pos rfl⟩)) (fun b u z => ?_) (fun b z => ?_) (fun _ => hk)
    · have : p.2.1 ≠ a := fun z => notA (z ▸ isT p hp)
      exact (if_neg this).trans (if_pos (isT p hp))
    · by_cases q : b = a
      · exact Or.inr (.inr ⟨_, _, if_pos q⟩)
      · by_cases q2 : b ∈ ts
        · exact .inr (.inl q2)
        · exact Or.inl ((if_neg q).trans (if_neg q2))
    · by_cases q : b = a
      · have z2 := (if_pos q).symm.trans z
        cases z2
        subst q
        exact ⟨ha, by rw [List.length_map]; exact hl, vs, _, rels, ha⟩
      · have z2 := (if_neg q).symm.trans z
        by_cases q2 : b ∈ ts
        · have z3 := (if_pos q2).symm.trans z2
          cases z3; exact tabAt b q2
        · have z3 := (if_neg q2).symm.trans z2
          cases z3
    · by_cases q : b = a
      · exact .inl q
      · by_cases q2 : b ∈ ts
        · exact .inr q2
        · exact absurd ((if_neg q).trans (if_neg q2)) z
end
/-- the end theorem's walk, with tables -/
theorem walk_GT {l : PySem.W.OpenLaw} {n k : Nat} {q : Program} {loose : List Str} {XP : (Str → Option Value) → Heap → Prop} {YP : World → Heap → Prop} {d : DefRec} {K : Params → PySem.W.Frag} {x : Str} {F : Fn} (cs : List Tb3)
    (hn : l.most = some n) (hn2 : n ≤ sizeLine) (hdf : d.params.defaults = []) (hr : Room k callerA) (hY : ∀ (w : World) (h : Heap), YP w h → (K w.params).In h) (nd : (cs.map (·.2.1)).Nodup)
    (hC : ∀ (w : World) (h : Heap), YP w h → (∀ p ∈ cs, h.get? p.2.1 = some (PySem.W.tabObj #[])) ∧ (∀ p ∈ cs, (K w.params).lookup p.2.1 = none) ∧ ∀ p ∈ cs, PySem.W.codeHdIn (K w.params) p.1 p.2.1 = true)
    (hF : ∀ (w : World) (mg : Str → Option Value) (fa : Addr) (h : Heap), (K w.params).In h → h.Ns mainGlobals mg → mg d.name = some (.ref fa) →
      ∃ fd : FuncData, (∀ (s : Shared) (u : Value), BindsTo s fd ⟨[u], []⟩ [(x, u)]) ∧ ∀ base : Heap, (K w.params).In base → base.Ns mainGlobals mg → (∀ p ∈ cs, TabB base mg p.1 p.2.1) → FnG l.prog w (K w.params) mg base k fa fd [x] F)
    (law : ∀ ns : List Int, ns.length ≤ n → ∃ st, F [Gs (ns.map .int)] (tabSto cs) = .ok (.bool true) st) : PySem.W.WalkO q loose XP YP l.row.toRowW d [] (fun f vs => PySem.call f vs) := by
  refine Att.attach_call hn hdf ?_
  intro w s₀ s₁ mg mb fa o pm cd doc a vs ns G Y ho hd hcd hmg hobj hints hlen hg
  have KX := hY w _ Y
  obtain ⟨fd, b, f⟩ := hF w mg fa _ KX G.T.g hmg
  obtain ⟨c1, c2, c3⟩ := hC w _ Y
  exact head_GT KX G.T.g G.T.b G.T.builtins G.T.nolimit hg c1 c2 (fun p hp => PySem.W.codeHd_of_K KX (c3 p hp)) nd G.T.bmain hobj hints (Nat.le_trans hlen hn2) hr f b (law ns hlen)
end Pv
set_option Elab.async false
set_option linter.all false
set_option maxRecDepth 100000
set_option maxHeartbeats 1000000
set_option pp.maxSteps 400
namespace Pv
open PySem PySem.Spec L2 LamX
open PyProof.Rows hiding St

/-! ### what the written part says of an own exception class -/
def classBody : Stmt → List Stmt
  | .ClassDef _ _ _ body _ _ _ _ _ _ _ => body
  | _ => []
/-- the class's first def -/
def initOf (st : Stmt) : Stmt := ((classBody st).find? fun s => match s with | .FunctionDef .. => true | _ => false).getD (.Pass ⟨0, 0, 0, 0⟩)
/-- the raw facts: each by k_is -/
structure XRaw (K : PySem.W.Frag) (C : Addr) : Prop where
  xL : ∃ nm q N bs bm sn sub ab col dd k0 k1 k2 k3 k5, K.lookup C = some (excClassObj nm q C N bs bm true sn sub ab col dd k0 k1 k2 k3 k5 "ValueError.__new__") ∧ PySem.HandSPX.refsVE bm = true
  sa : PySem.W.findIn K (.ref C) "__setattr__" = some (some (.builtin "object.__setattr__"))
  ga : PySem.W.findIn K (.ref C) "__getattribute__" = some (some (.builtin "BaseException.__getattribute__"))
  gg : PySem.W.findIn K (.ref C) "__getattr__" = some none
  cl : PySem.W.findIn K (.ref C) "__class__" = some (some (.builtin "object.__class__"))
  eC : PySem.W.subIn K (.ref C) (.type "BaseException") = some true
  vC : PySem.W.subIn K (.ref C) (.type "ValueError") = some true
  tC : PySem.W.typeIn K (.ref C) = some (.type "type")
  kC : PySem.W.keepIn K (.ref C) = true
  hC : PySem.W.hasDictIn K C = true
  mC : PySem.W.mroIn K C (.ref C) = some true
  mO : PySem.W.mroIn K C (.type "object") = some true
  sup : PySem.W.ks_superIn K C C "__init__" = some (some (.builtin "ValueError.__init__"))
/-- facts of no class -/
structure XTop (K : PySem.W.Frag) : Prop where
  sg : PySem.W.specialIn K (.builtin "object.__class__") "__get__" = some (some (.builtin "getset_descriptor.__get__"))
  tk : PySem.W.takesIn K (.builtin "object.__class__") = some true
  any : PySem.W.nsIn K PySem.cStatics "thirdparty.any" = some none
theorem XRaw.oex {K : PySem.W.Frag} {C : Addr} (h : XRaw K C) : OexC K C := ⟨h.xL, h.sa, h.eC, h.tC, h.kC⟩
theorem XRaw.exc {K : PySem.W.Frag} {C : Addr} (h : XRaw K C) (t : XTop K) : ExcC K C := ⟨h.ga, h.gg, h.eC, h.hC, h.cl, t.sg, t.tk, h.mO⟩
theorem XRaw.xf {K : PySem.W.Frag} {C : Addr} (h : XRaw K C) : XfC K C := ⟨h.ga, h.gg, h.eC, h.hC⟩
theorem XRaw.at_ {K : PySem.W.Frag} {mg : Str → Option Value} {prog : Program} {x : Str} {C : Addr} (h : XRaw K C) (t : XTop K) (m : mg x = some (.ref C)) : ExcAt K mg prog x C :=
  ⟨m, h.oex, t.any, h.sup, h.vC, h.mC, let ⟨cd, hc, _⟩ := PySem.W.any_some h.hC; ⟨cd, hc⟩⟩
/-- a class of the program, plainer -/
structure YRaw (K : PySem.W.Frag) (Y : Addr) : Prop where
  eC : PySem.W.subIn K (.ref Y) (.type "BaseException") = some true
  tC : PySem.W.typeIn K (.ref Y) = some (.type "type")
  iC : PySem.W.isClsIn K Y = true
theorem YRaw.kit {K : PySem.W.Frag} {C Y : Addr} {b : Bool} (h : YRaw K Y) (s : PySem.W.subIn K (.ref C) (.ref Y) = some b) (hb : C = Y → b = true) : PySem.W.kitOne K (.ref C) (.ref Y) = some b := by
  have h2 : (PySem.W.clsIn K Y).isSome = true := h.iC
  unfold PySem.W.kitOne
  split
  · rename_i e
    have e' : C = Y := Value.ref.inj (beq_iff_eq.mp e)
    rw [hb e']
  · show (if _ then _ else _) = _
    rw [if_pos (by rw [h2, h.tC]; rfl)]; exact s
theorem YRaw.exm {K : PySem.W.Frag} {C Y : Addr} {b : Bool} (h : YRaw K Y) (s : PySem.W.subIn K (.ref C) (.ref Y) = some b) : PySem.W.exmOne K (.ref C) (.ref Y) = some b := by
  have h2 : (PySem.W.clsIn K Y).isSome = true := h.iC
  unfold PySem.W.exmOne
  rw [if_pos (by rw [h.eC]; rfl)]
  show (if _ then _ else _) = _
  rw [if_pos (by rw [h2, h.tC]; rfl)]; exact s
theorem kit_T {K : PySem.W.Frag} {C : Addr} {T : String} {b : Bool} (m : PySem.W.kitMeta T = true) (s : PySem.W.subIn K (.ref C) (.type T) = some b) : PySem.W.kitOne K (.ref C) (.type T) = some b := by
  unfold PySem.W.kitOne
  rw [if_neg (by intro z; cases (beq_iff_eq.mp z))]
  show (if _ then _ else _) = _
  rw [if_pos m]; exact s
/-- an own exception class of one field, of two -/
def Exc1 (P : Program) (w : World) (K : PySem.W.Frag) (mg : Str → Option Value) (x f1 : Str) : Prop :=
  ∃ C fI fd ps, ∀ X : Cx, X.prog = P → X.w = w → X.K = K → X.mg = mg → ExcDf X x C fI fd ps (sp1 C f1)
def Exc2 (P : Program) (w : World) (K : PySem.W.Frag) (mg : Str → Option Value) (x f1 f2 : Str) : Prop :=
  ∃ C fI fd ps, ∀ X : Cx, X.prog = P → X.w = w → X.K = K → X.mg = mg → ExcDf X x C fI fd ps (sp2 C f1 f2)
section
variable {P : Program} {w : World} {K : PySem.W.Frag} {mg : Str → Option Value} {x f1 f2 x1 x2 qual : Str} {C fI cc cda : Addr} {is : Stmt} {oc dc pm ct cl ccl : Value} {od an cld cdd : Option Addr} {osl csl ccs : Array (Option Value)} {vs : Array Value} {file : Str} {tf : Tok}
theorem exc2_mk (R : XRaw K C) (t : XTop K) (m : mg x = some (.ref C)) (ini : PySem.W.findIn K (.ref C) "__init__" = some (some (.ref fI))) (ty : PySem.W.typeIn K (.ref fI) = some (.type "function"))
    (lk : K.lookup fI = some ⟨oc, od, .func (PySem.W.ksFn "__init__" qual (defArgs is) (defBody is) (defScope is) .none .none dc pm an (.ref cda) ct cc), osl⟩) (code : PySem.W.codeIn K (.ref cda) qual = true)
    (lc : K.lookup cda = some ⟨ccl, cdd, .fields vs, ccs⟩) (hv : vs[2]? = some (.str file tf)) (hfile : ((P.main.file : Str) == file) = true) (cell : K.lookup cc = some ⟨cl, cld, .cell (some (.ref C)), csl⟩) (ns : mg "super" = none)
    (n1 : PySem.W.findIn K (.ref C) f1 = some none) (n2 : PySem.W.findIn K (.ref C) f2 = some none) (top : (P.main.scope.names.lookup ("super" : Str)).isSome = false)
    {p0 p1 p2 p3 p4 q1 q2 a1 a2 b1 b2 c1 c2 d1 d2 : Pos}
    (hB : defBody is = [.Expr (.Call (.Attribute (.Call (.Name "super" p0) [] [] p1) "__init__" p2) [.Name x1 q1, .Name x2 q2] [] p3) p4, .Assign [.Attribute (.Name "self" a1) f1 b1] (.Name x1 c1) d1, .Assign [.Attribute (.Name "self" a2) f2 b2] (.Name x2 c2) d2])
    (hse : ∀ env : Env, swapsWith (.Call (.Attribute (.Call (.Name "super" p0) [] [] p1) "__init__" p2) [.Name x1 q1, .Name x2 q2] [] p3) none p4.line env = pure false)
    (pl : Env → Sem Bool) (hcE : ∀ env : Env, eval (.Call (.Attribute (.Call (.Name "super" p0) [] [] p1) "__init__" p2) [.Name x1 q1, .Name x2 q2] [] p3) env = (do
      let ov ← attributeBase (.Call (.Name "super" p0) [] [] p1) "__init__" env (eval (.Call (.Name "super" p0) [] [] p1) env)
      standAt p2.atName
      let (f, first) ← holding [ov] (getMethod ov "__init__" (pl env))
      callWith p3 f first (backTo p3 (starEach [.Name x1 q1, .Name x2 q2] env)) []))
    (har : ∃ ar, ((defArgs is).posonlyargs ++ (defArgs is).args).head? = some ar ∧ ar.arg = "self")
    (bind : ∀ us : List Value, us.length = 3 → bindArgs (PySem.W.ksFn "__init__" qual (defArgs is) (defBody is) (defScope is) .none .none dc pm an (.ref cda) ct cc) ⟨us, []⟩ = pure ((["self", x1, x2] : List Str).zip us))
    (kind : (defScope is).kind = .function) (co : (defScope is).isCoroutine = false) (gen : (defScope is).isGenerator = false) (loc : ∀ y ∈ (["self", x1, x2] : List Str), (defScope is).names.lookup y = some .local) (nocell : ∀ y ∈ (defScope is).names, y.2 ≠ .cell) (free : ∀ y ∈ (defScope is).names, y.2 = .free → y.1 = "__class__")
    (ks : (defScope is).names.lookup ("super" : Str) = some .globalImplicit) (kc : (defScope is).names.lookup ("__class__" : Str) = some .free) (nd : (["self", x1, x2] : List Str).Nodup)
    (hx1 : (x1 == ("__debug__" : Str)) = false ∧ (x1 == ("__classdict__" : Str)) = false) (hx2 : (x2 == ("__debug__" : Str)) = false ∧ (x2 == ("__classdict__" : Str)) = false) : Exc2 P w K mg x f1 f2 := by
  refine ⟨C, fI, PySem.W.ksFn "__init__" qual (defArgs is) (defBody is) (defScope is) .none .none dc pm an (.ref cda) ct cc, ["self", x1, x2], fun X e1 e2 e3 e4 => ?_⟩
  subst e1; subst e2; subst e3; subst e4
  have D : InitAt X.K X.mg X.prog ["self", x1, x2] qual (defScope is) fI cc (PySem.W.ksFn "__init__" qual (defArgs is) (defBody is) (defScope is) .none .none dc pm an (.ref cda) ct cc) (.ref cda) C := by
    obtain ⟨ar, h1, h2⟩ := har
    exact ⟨⟨_, _, _, lk⟩, ⟨_, _, _, _, _, _, _, _, rfl, ar, h1, by rw [h2]; rfl⟩, code, ⟨cda, _, _, vs, _, file, tf, rfl, lc, hv, hfile⟩, ⟨_, _, _, cell⟩, ns, kind, co, gen, loc, nocell, free, ks, kc, nd, top⟩
  refine ⟨R.at_ t m, ini, ty, ?_, .all fun us h => bind us h⟩
  exact fn_init2 D (R.at_ t m) (by rw [hB]) hse pl hcE har n1 n2 hx1 hx2
theorem exc1_mk (R : XRaw K C) (t : XTop K) (m : mg x = some (.ref C)) (ini : PySem.W.findIn K (.ref C) "__init__" = some (some (.ref fI))) (ty : PySem.W.typeIn K (.ref fI) = some (.type "function"))
    (lk : K.lookup fI = some ⟨oc, od, .func (PySem.W.ksFn "__init__" qual (defArgs is) (defBody is) (defScope is) .none .none dc pm an (.ref cda) ct cc), osl⟩) (code : PySem.W.codeIn K (.ref cda) qual = true)
    (lc : K.lookup cda = some ⟨ccl, cdd, .fields vs, ccs⟩) (hv : vs[2]? = some (.str file tf)) (hfile : ((P.main.file : Str) == file) = true) (cell : K.lookup cc = some ⟨cl, cld, .cell (some (.ref C)), csl⟩) (ns : mg "super" = none)
    (n1 : PySem.W.findIn K (.ref C) f1 = some none) (top : (P.main.scope.names.lookup ("super" : Str)).isSome = false)
    {p0 p1 p2 p3 p4 q1 a1 b1 c1 d1 : Pos}
    (hB : defBody is = [.Expr (.Call (.Attribute (.Call (.Name "super" p0) [] [] p1) "__init__" p2) [.Name x1 q1] [] p3) p4, .Assign [.Attribute (.Name "self" a1) f1 b1] (.Name x1 c1) d1])
    (hse : ∀ env : Env, swapsWith (.Call (.Attribute (.Call (.Name "super" p0) [] [] p1) "__init__" p2) [.Name x1 q1] [] p3) none p4.line env = pure false)
    (pl : Env → Sem Bool) (hcE : ∀ env : Env, eval (.Call (.Attribute (.Call (.Name "super" p0) [] [] p1) "__init__" p2) [.Name x1 q1] [] p3) env = (do
      let ov ← attributeBase (.Call (.Name "super" p0) [] [] p1) "__init__" env (eval (.Call (.Name "super" p0) [] [] p1) env)
      standAt p2.atName
      let (f, first) ← holding [ov] (getMethod ov "__init__" (pl env))
      callWith p3 f first (backTo p3 (starEach [.Name x1 q1] env)) []))
    (har : ∃ ar, ((defArgs is).posonlyargs ++ (defArgs is).args).head? = some ar ∧ ar.arg = "self")
    (bind : ∀ us : List Value, us.length = 2 → bindArgs (PySem.W.ksFn "__init__" qual (defArgs is) (defBody is) (defScope is) .none .none dc pm an (.ref cda) ct cc) ⟨us, []⟩ = pure ((["self", x1] : List Str).zip us))
    (kind : (defScope is).kind = .function) (co : (defScope is).isCoroutine = false) (gen : (defScope is).isGenerator = false) (loc : ∀ y ∈ (["self", x1] : List Str), (defScope is).names.lookup y = some .local) (nocell : ∀ y ∈ (defScope is).names, y.2 ≠ .cell) (free : ∀ y ∈ (defScope is).names, y.2 = .free → y.1 = "__class__")
    (ks : (defScope is).names.lookup ("super" : Str) = some .globalImplicit) (kc : (defScope is).names.lookup ("__class__" : Str) = some .free) (nd : (["self", x1] : List Str).Nodup)
    (hx1 : (x1 == ("__debug__" : Str)) = false ∧ (x1 == ("__classdict__" : Str)) = false) : Exc1 P w K mg x f1 := by
  refine ⟨C, fI, PySem.W.ksFn "__init__" qual (defArgs is) (defBody is) (defScope is) .none .none dc pm an (.ref cda) ct cc, ["self", x1], fun X e1 e2 e3 e4 => ?_⟩
  subst e1; subst e2; subst e3; subst e4
  have D : InitAt X.K X.mg X.prog ["self", x1] qual (defScope is) fI cc (PySem.W.ksFn "__init__" qual (defArgs is) (defBody is) (defScope is) .none .none dc pm an (.ref cda) ct cc) (.ref cda) C := by
    obtain ⟨ar, h1, h2⟩ := har
    exact ⟨⟨_, _, _, lk⟩, ⟨_, _, _, _, _, _, _, _, rfl, ar, h1, by rw [h2]; rfl⟩, code, ⟨cda, _, _, vs, _, file, tf, rfl, lc, hv, hfile⟩, ⟨_, _, _, cell⟩, ns, kind, co, gen, loc, nocell, free, ks, kc, nd, top⟩
  refine ⟨R.at_ t m, ini, ty, ?_, .all fun us h => bind us h⟩
  exact fn_init1 D (R.at_ t m) (by rw [hB]) hse pl hcE har n1 hx1
end
end Pv
set_option Elab.async false
set_option linter.all false
set_option maxRecDepth 100000
set_option maxHeartbeats 1000000
set_option pp.maxSteps 400
namespace Pv
open PySem PySem.Spec L2 LamX
open PyProof.Rows hiding St

/-! ### keywords in another order -/
def perm (ix : List Nat) {α : Type} (l : List α) : List α := ix.filterMap fun i => l[i]?
theorem perm_len {α : Type} {n : Nat} (l : List α) (h : l.length = n) : ∀ ix : List Nat, (∀ i ∈ ix, i < n) → (perm ix l).length = ix.length
  | [], _ => rfl
  | i :: ix, hi => by
    have h1 : i < l.length := by rw [h]; exact hi i List.mem_cons_self
    have : perm (i :: ix) l = l[i] :: perm ix l := by unfold perm; rw [List.filterMap_cons, List.getElem?_eq_getElem h1]
    rw [this, List.length_cons, List.length_cons, perm_len l h ix fun j hj => hi j (List.mem_cons_of_mem _ hj)]
theorem perm_rep {K : PySem.W.Frag} {W : Wd} {vs : List V} {ds : List D} {n : Nat} (l : repL K W vs ds) (hl : vs.length = n) : ∀ ix : List Nat, (∀ i ∈ ix, i < n) → repL K W (perm ix vs) (perm ix ds)
  | [], _ => rfl
  | i :: ix, hi => by
    have h1 : i < vs.length := by rw [hl]; exact hi i List.mem_cons_self
    have h2 : i < ds.length := by rw [← repL_length l]; exact h1
    obtain ⟨v, a, b⟩ := repL_get i l (List.getElem?_eq_getElem h2)
    have e1 : perm (i :: ix) vs = v :: perm ix vs := by unfold perm; rw [List.filterMap_cons, a]
    have e2 : perm (i :: ix) ds = ds[i] :: perm ix ds := by unfold perm; rw [List.filterMap_cons, List.getElem?_eq_getElem h2]
    rw [e1, e2]
    exact ⟨v, _, rfl, b, perm_rep l hl ix fun j hj => hi j (List.mem_cons_of_mem _ hj)⟩
theorem vals_get : ∀ {vs : List V} {us : List Value} (i : Nat), Vals vs us → i < vs.length → ∃ v u, vs[i]? = some v ∧ us[i]? = some u ∧ RelV v u
  | _, _, i, .nil, h => by simp at h
  | _, _, 0, .cons r _, _ => ⟨_, _, rfl, rfl, r⟩
  | _, _, i + 1, .cons _ r, h => by
    obtain ⟨v, u, a, b, c⟩ := vals_get i r (by simpa using h)
    exact ⟨v, u, by simpa using a, by simpa using b, c⟩
theorem perm_rel {vs : List V} {us : List Value} {n : Nat} (r : Vals vs us) (hl : vs.length = n) : ∀ ix : List Nat, (∀ i ∈ ix, i < n) → Vals (perm ix vs) (perm ix us)
  | [], _ => .nil
  | i :: ix, hi => by
    obtain ⟨v, u, a, b, c⟩ := vals_get i r (by rw [hl]; exact hi i List.mem_cons_self)
    have e1 : perm (i :: ix) vs = v :: perm ix vs := by unfold perm; rw [List.filterMap_cons, a]
    have e2 : perm (i :: ix) us = u :: perm ix us := by unfold perm; rw [List.filterMap_cons, b]
    rw [e1, e2]
    exact .cons c (perm_rel r hl ix fun j hj => hi j (List.mem_cons_of_mem _ hj))
theorem bk_perm {K : PySem.W.Frag} {x qual : Str} {st : Stmt} {f : Addr} {fd : FuncData} {ps ks : List Str} (ix : List Nat) (F : Fun K x qual st f fd) (hp : ps.length = ix.length) (hi : ∀ i ∈ ix, i < ks.length)
    (h : ∀ (kV doc pm : Value) (an : Option Addr) (cdv ct : Value) (ws : List Value), ws.length = ks.length → bindArgs (PySem.W.fnOf x qual (defArgs st) (defBody st) (defScope st) .none kV doc pm an cdv ct) ⟨[], ks.zip ws⟩ = pure (ps.zip (perm ix ws))) : BindsK K fd ps ks (perm ix) := by
  obtain ⟨oc, od, kV, doc, pm, an, cdv, ct, osl, rfl, lk, hcd⟩ := F.ex
  exact ⟨fun s ws _ hl => .of_eq (h kV doc pm an cdv ct ws hl), fun l hl => perm_rep l hl ix hi, fun r hl => perm_rel r hl ix hi, fun l => (perm_len _ l ix hi).trans hp.symm⟩
/-! ### facts by names -/
/-- what an except clause of the class C takes -/
def ExmAt (K : PySem.W.Frag) (mg : Str → Option Value) (C : Str) (cs : List Str) : Prop := ∃ CS, mg C = some (.ref CS) ∧ ∀ c ∈ cs, ∀ D, mg c = some (.ref D) → PySem.W.exmOne K (.ref D) (.ref CS) = some true
def HasC (P : Program) (w : World) (K : PySem.W.Frag) (mg : Str → Option Value) (base : Heap) (k : Nat) (x : Str) (ps : List Str) (F : Fn) : Prop := Has P w K mg base k x ps F
theorem isE_mk {K : PySem.W.Frag} {mg : Str → Option Value} {c y : Str} {C Y : Addr} {b : Bool} (R : XRaw K C) (t : XTop K) (m : mg c = some (.ref C)) (m2 : mg y = some (.ref Y)) (h : YRaw K Y) (s : PySem.W.subIn K (.ref C) (.ref Y) = some b) (self : PySem.W.subIn K (.ref C) (.ref C) = some true) : IsE K mg c y b :=
  ⟨C, Y, m, m2, R.exc t, h.kit s fun e => by subst e; rw [self] at s; exact (Option.some.inj s).symm⟩
theorem isEb_mk {K : PySem.W.Frag} {mg : Str → Option Value} {c : Str} {T : String} {C : Addr} {b : Bool} (R : XRaw K C) (t : XTop K) (m : mg c = some (.ref C)) (k : PySem.W.kitMeta T = true) (s : PySem.W.subIn K (.ref C) (.type T) = some b) : IsEb K mg c T b := ⟨C, m, R.exc t, kit_T k s⟩
theorem fldE_mk {K : PySem.W.Frag} {mg : Str → Option Value} {c f : Str} {C : Addr} (R : XRaw K C) (m : mg c = some (.ref C)) (n : PySem.W.findIn K (.ref C) f = some none) : FldE K mg c f := ⟨C, m, R.xf, n⟩
end Pv
namespace Pv
open PySem PySem.Spec L2 LamX
open PyProof.Rows hiding St
/-! ### places and promises, what a call by keywords binds beside them -/
def DefB (K : PySem.W.Frag) (mg : Str → Option Value) (x : Str) (st : Stmt) (ps : List Str) (B : FuncData → Prop) : Prop := ∃ f fd, Fun K x x st f fd ∧ mg x = some (.ref f) ∧ Binds K fd ps [] ∧ B fd
def DefC (K : PySem.W.Frag) (mg : Str → Option Value) (x : Str) (st : Stmt) (ps : List Str) (c : Addr) (B : FuncData → Prop) : Prop := ∃ f fd, FunCd K x x st f fd (.ref c) ∧ PySem.W.keepIn K (.ref f) = true ∧ mg x = some (.ref f) ∧ Binds K fd ps [] ∧ B fd
def HasB (P : Program) (w : World) (K : PySem.W.Frag) (mg : Str → Option Value) (base : Heap) (k : Nat) (x : Str) (ps : List Str) (F : Fn) (B : FuncData → Prop) : Prop := ∃ f fd, Df P w K mg base k x f fd ps F ∧ B fd
def tbL (l : List Addr) (j : Nat) : Addr := l.getD j 0
end Pv
set_option Elab.async false
set_option linter.all false
set_option maxRecDepth 100000
set_option maxHeartbeats 1000000
set_option pp.maxSteps 400
namespace Pv
open PySem PySem.Spec L2 LamX
open PyProof.Rows hiding St
section
variable {sl : Sl} {st : Sto} {d x y : Pv.D} {i : Nat} {a b c : M} {t u : MT} {ms : Ms}
@[simp] theorem e_onE {p q : Nat} {z : Str} {f : List D → List D → Option D} : mOnE p q z f a sl st = (a sl st).bind fun d st => lift (onE p q z f d) st := rfl
@[simp] theorem e_cnt : mCnt a b sl st = (a sl st).bind fun o st => if isLstD st o = true then (b sl st).bind fun d st => fCnt o d st else .bad := rfl
@[simp] theorem e_max1 : mMax1 a sl st = (a sl st).bind fun x st => onD1 dMax1 x st := rfl
@[simp] theorem e_min1 : mMin1 a sl st = (a sl st).bind fun x st => onD1 dMin1 x st := rfl
@[simp] theorem e_sum1 : mSum1 a sl st = (a sl st).bind fun x st => onD1 dSum1 x st := rfl
@[simp] theorem e_maxDf : mMaxDf a b sl st = (a sl st).bind fun x st => (b sl st).bind fun y st => fMaxDf x y st := rfl
@[simp] theorem e_get1 : mGet1 a b sl st = (a sl st).bind fun o st => if isDct st o = true then (b sl st).bind fun y st => fGet o y .none st else .bad := rfl
@[simp] theorem e_get2 : mGet2 a b c sl st = (a sl st).bind fun o st => if isDct st o = true then (b sl st).bind fun y st => (c sl st).bind fun z st => fGet o y z st else .bad := rfl
@[simp] theorem e_newK : mNewK sl st = .ok (Rf st.length) (st ++ [.dct []]) := rfl
@[simp] theorem e_newT : mNewT sl st = .ok (Rf st.length) (st ++ [.dctT []]) := rfl
@[simp] theorem e_said {P : Addr} {q : Str} {f : R D → R D} : mSaid P q f a sl st = if tbOk st P q = true then okOnly (f (a sl st)) else .bad := rfl
@[simp] theorem e_raise {z : Str} {fs : List Str} : sRaise z fs ms sl st = (ms sl st).thenS fun ds st => excOf z fs ds st := rfl
@[simp] theorem okOnly_ok : okOnly (.ok d st) = .ok d st := rfl
@[simp] theorem onE_Ec {p q : Nat} {z : Str} {f : List D → List D → Option D} {ns fs : List D} : onE p q z f (Ec p q z ns fs) = f ns fs := by simp [onE, Ec]
end
theorem sz_le {n : Nat} (h : n ≤ 1000) : n ≤ sizeLine := Nat.le_trans h (by decide)
theorem sz_lt {n : Nat} (h : n ≤ 1000) : n < sizeLine := Nat.lt_of_le_of_lt h (by decide)
/-! ### a clean store -/
def StC (st : Sto) : Prop := ∀ g, fzS g st = some st
theorem StC.nil : StC [] := fun _ => rfl
theorem StC.cons {m : MO} {st : Sto} (h : ∀ g, fzO g m = some m) (t : StC st) : StC (m :: st) := fun g => by
  show (fzO g m).bind (fun e => (fzS g st).map (e :: ·)) = _
  rw [h g, t g]; rfl
theorem StC.tb {P : Addr} {q : Str} {st : Sto} (t : StC st) : StC (.tb P q :: st) := t.cons fun _ => rfl
theorem StC.fd {cs : List Pv.D} {sp lf dr : Int} {st : Sto} (h : IntsD cs) (t : StC st) : StC (fd cs sp lf dr :: st) := t.cons fun _ => fd_clean h
theorem fin_app {st more : Sto} {d : Pv.D} (h : StC st) (hd : d.canLay0 = true) : finR st.length (.ok d (st ++ more)) = .ok d st := by
  unfold finR
  by_cases hm : (st ++ more).length = st.length
  · have : more = [] := by
      rw [List.length_append] at hm
      exact List.length_eq_zero_iff.mp (by omega)
    subst this
    simp
  · simp only [if_neg hm]
    rw [fz_clean d hd, List.take_append_of_le_length (Nat.le_refl _), List.take_length, h]
end Pv
set_option Elab.async false
set_option linter.all false
set_option maxRecDepth 100000
set_option maxHeartbeats 1000000
set_option pp.maxSteps 400
namespace Pv
open PySem PySem.Spec L2 LamX
open PyProof.Rows hiding St signs cutD

/-! ### dict comprehensions that change nothing -/
theorem dcL_all {κ : Type} [DecidableEq κ] {key : Pv.D → Option κ} {keep : Sto → Prop} [DecidablePred keep] {t : CT} {tk tv : M} {sl : Sl} {st : Sto} (kf : Pv.D → κ) (vf : Pv.D → Pv.D) (hk : keep st) : ∀ {ds : List Pv.D} {acc : List (κ × Pv.D)}, acc.length + ds.length ≤ sizeLine →
    (∀ d ∈ ds, ∃ sl2 y, ctSet t d sl = some sl2 ∧ tk sl2 st = .ok y st ∧ key y = some (kf d) ∧ tv sl2 st = .ok (vf d) st) → dcL key keep t tYesM tk tv sl ds acc st = .ok (ds.foldl (fun a d => putD a (kf d) (vf d)) acc) st
  | [], _, _, _ => by unfold dcL; rw [if_pos hk]; rfl
  | d :: ds, acc, hz, h => by
    obtain ⟨sl2, y, h1, h2, h3, h4⟩ := h d List.mem_cons_self
    have hl : (putD acc (kf d) (vf d)).length ≤ acc.length + 1 := by
      unfold putD; split
      · rw [List.length_map]; exact Nat.le_succ _
      · simp
    have hz' : acc.length + (ds.length + 1) ≤ sizeLine := hz
    unfold dcL
    rw [if_pos hk, h1]
    simp only [e_tyes, h2, h3, h4]
    rw [if_pos (by omega)]
    exact dcL_all kf vf hk (by omega) fun x hx => h x (List.mem_cons_of_mem _ hx)
theorem mDcK_all {mi : MI} {t : CT} {tk tv : M} {vs : List Nat} {sl : Sl} {st : Sto} {ds : List Pv.D} {keep : Sto → Prop} [DecidablePred keep] (kf : Pv.D → Key) (vf : Pv.D → Pv.D) (hi : mi sl st = .ok ⟨ds, keep⟩ st) (hk : keep st) (hz : ds.length ≤ sizeLine)
    (h : ∀ d ∈ ds, ∃ sl2 y, ctSet t d (wipeD sl vs) = some sl2 ∧ tk sl2 st = .ok y st ∧ keyOf y = some (kf d) ∧ tv sl2 st = .ok (vf d) st) : mDcK mi t tYesM tk tv vs sl st = .ok (Rf st.length) (st ++ [.dct (ds.foldl (fun a d => putD a (kf d) (vf d)) [])]) := by
  unfold mDcK
  rw [hi]
  simp only [R.bind_ok]
  rw [dcL_all kf vf hk (by simpa using hz) h]; rfl
theorem mDcT_all {mi : MI} {t : CT} {tk tv : M} {vs : List Nat} {sl : Sl} {st : Sto} {ds : List Pv.D} {keep : Sto → Prop} [DecidablePred keep] (kf : Pv.D → List Key) (vf : Pv.D → Pv.D) (hi : mi sl st = .ok ⟨ds, keep⟩ st) (hk : keep st) (hz : ds.length ≤ sizeLine)
    (h : ∀ d ∈ ds, ∃ sl2 y, ctSet t d (wipeD sl vs) = some sl2 ∧ tk sl2 st = .ok y st ∧ keyT y = some (kf d) ∧ tv sl2 st = .ok (vf d) st) : mDcT mi t tYesM tk tv vs sl st = .ok (Rf st.length) (st ++ [.dctT (ds.foldl (fun a d => putD a (kf d) (vf d)) [])]) := by
  unfold mDcT
  rw [hi]
  simp only [R.bind_ok]
  rw [dcL_all kf vf hk (by simpa using hz) h]; rfl
theorem lookD_put {κ : Type} [DecidableEq κ] (a : List (κ × D)) (k x : κ) (d : D) : lookD (putD a k d) x = if k = x then some d else lookD a x := by
  unfold putD
  split
  · rename_i h
    unfold lookD
    induction a with
    | nil => simp at h
    | cons p a ih =>
      simp only [List.map_cons, List.find?_cons]
      by_cases hp : p.1 = k
      · rw [if_pos hp]
        by_cases hx : k = x
        · subst hx; simp [hp]
        · have : ¬ p.1 = x := fun z => hx (hp ▸ z)
          simp only [this, decide_false]
          have hmap : ∀ l : List (κ × D), ((l.map fun kv => if kv.1 = k then (kv.1, d) else kv).find? fun kv => decide (kv.1 = x)) = l.find? fun kv => decide (kv.1 = x) := by
            intro l
            induction l with
            | nil => rfl
            | cons q l ih2 =>
              simp only [List.map_cons, List.find?_cons]
              by_cases hq : q.1 = k
              · have : ¬ q.1 = x := fun z => hx (hq ▸ z)
                simp [hq, hx, this, ih2]
              · simp [hq, ih2]
          rw [hmap, if_neg hx]
      · rw [if_neg hp]
        by_cases hpx : p.1 = x
        · have : ¬ k = x := fun z => hp (hpx.trans z.symm)
          simp [hpx, this]
        · have h' : (a.any fun kv => decide (kv.1 = k)) = true := by simpa [hp] using h
          simp only [hpx, decide_false]
          exact ih h'
  · rename_i h
    unfold lookD
    rw [List.find?_append]
    by_cases hx : k = x
    · subst hx
      have : a.find? (fun kv => decide (kv.1 = k)) = none := by
        rw [List.find?_eq_none]
        intro p hp hk
        exact h (List.any_eq_true.mpr ⟨p, hp, hk⟩)
      rw [this]; simp
    · have : ([(k, d)] : List (κ × D)).find? (fun kv => decide (kv.1 = x)) = none := by simp [hx]
      rw [this]; simp [hx]
theorem lookD_fold {κ : Type} [DecidableEq κ] (kf : D → κ) (vf : D → D) (x : κ) : ∀ (ds : List D) (a : List (κ × D)), lookD (ds.foldl (fun a d => putD a (kf d) (vf d)) a) x = ((ds.reverse.find? fun d => decide (kf d = x)).map vf).or (lookD a x)
  | [], a => by simp
  | d :: ds, a => by
    rw [List.foldl_cons, lookD_fold kf vf x ds, lookD_put, List.reverse_cons, List.find?_append]
    cases ds.reverse.find? (fun d => decide (kf d = x)) with
    | some e => simp
    | none => by_cases h : kf d = x <;> simp [h]
/-! ### clean dicts -/
theorem fzP_clean {κ : Type} {g : Nat → Option D} : ∀ kvs : List (κ × D), (∀ p ∈ kvs, p.2.canLay0 = true) → fzP g kvs = some kvs
  | [], _ => rfl
  | p :: ps, h => by
    unfold fzP
    rw [fz_clean p.2 (h p List.mem_cons_self), fzP_clean ps fun q hq => h q (List.mem_cons_of_mem _ hq)]; rfl
theorem fzS_app {g : Nat → Option D} : ∀ {st : Sto} {m : MO}, fzS g st = some st → fzO g m = some m → fzS g (st ++ [m]) = some (st ++ [m])
  | [], m, _, h => by show (fzO g m).bind (fun e => (fzS g []).map (e :: ·)) = _; rw [h]; rfl
  | a :: st, m, hs, h => by
    have hs' : (fzO g a).bind (fun e => (fzS g st).map (e :: ·)) = some (a :: st) := hs
    obtain ⟨e, h1, h2⟩ := Option.bind_eq_some_iff.mp hs'
    obtain ⟨es, h3, h4⟩ := Option.map_eq_some_iff.mp h2
    cases h4
    show (fzO g a).bind (fun e => (fzS g (st ++ [m])).map (e :: ·)) = _
    rw [h1, fzS_app h3 h]; rfl
theorem StC.app {st : Sto} {m : MO} (t : StC st) (h : ∀ g, fzO g m = some m) : StC (st ++ [m]) := fun g => fzS_app (t g) (h g)
theorem put_all {κ : Type} [DecidableEq κ] {P : D → Prop} {a : List (κ × D)} {k : κ} {d : D} (ha : ∀ p ∈ a, P p.2) (hd : P d) : ∀ p ∈ putD a k d, P p.2 := by
  intro p hp
  unfold putD at hp
  split at hp
  · obtain ⟨q, hq, e⟩ := List.mem_map.mp hp
    split at e
    · subst e; exact hd
    · subst e; exact ha q hq
  · rcases List.mem_append.mp hp with h | h
    · exact ha p h
    · have : p = (k, d) := by simpa using h
      subst this; exact hd
theorem fold_all {κ : Type} [DecidableEq κ] {P : D → Prop} (kf : D → κ) (vf : D → D) : ∀ (ds : List D) (a : List (κ × D)), (∀ p ∈ a, P p.2) → (∀ d ∈ ds, P (vf d)) → ∀ p ∈ ds.foldl (fun a d => putD a (kf d) (vf d)) a, P p.2
  | [], _, ha, _ => ha
  | d :: ds, a, ha, h => fold_all kf vf ds _ (put_all ha (h d List.mem_cons_self)) fun x hx => h x (List.mem_cons_of_mem _ hx)
theorem StC.dct {st : Sto} {kvs : List (Key × D)} (t : StC st) (h : ∀ p ∈ kvs, p.2.canLay0 = true) : StC (st ++ [.dct kvs]) := t.app fun g => by
  show (fzP g kvs).map MO.dct = _
  rw [fzP_clean kvs h]; rfl
theorem StC.dctT {st : Sto} {kvs : List (List Key × D)} (t : StC st) (h : ∀ p ∈ kvs, p.2.canLay0 = true) : StC (st ++ [.dctT kvs]) := t.app fun g => by
  show (fzP g kvs).map MO.dctT = _
  rw [fzP_clean kvs h]; rfl
theorem StC.lst {st : Sto} {ds : List D} (t : StC st) (h : PyData.canLayAll0 ds = true) : StC (st ++ [.lst ds]) := t.app fun g => by
  show (fzL g ds).map MO.lst = _
  rw [fzL_clean ds h]; rfl
theorem fin_app2 {st m1 m2 : Sto} {d : D} (h : StC st) (hd : d.canLay0 = true) : finR st.length (.ok d ((st ++ m1) ++ m2)) = .ok d st := by
  rw [List.append_assoc]; exact fin_app h hd
theorem fin_exc {st more : Sto} {x : XV} (h : StC st) (hd : ∀ p ∈ x.2, p.2.canLay0 = true) : finR st.length (.exc x (st ++ more)) = .exc x st := by
  unfold finR
  by_cases hm : (st ++ more).length = st.length
  · have : more = [] := by
      rw [List.length_append] at hm
      exact List.length_eq_zero_iff.mp (by omega)
    subst this
    simp
  · simp only [if_neg hm]
    rw [fzP_clean x.2 hd, List.take_append_of_le_length (Nat.le_refl _), List.take_length, h]
theorem ix_last {ds : List D} {d : D} {st : Sto} (h : ds.getLast? = some d) : fIx (.tuple ds) (.int (-1)) st = .ok d st := by
  have hne : ds ≠ [] := by intro e; subst e; cases h
  have hp : 0 < ds.length := List.length_pos_iff.mpr hne
  have e : dIx (.tuple ds) (.int (-1)) = some d := by
    show atI ds (-1) = _
    unfold atI ixN
    rw [if_neg (by omega), if_pos (by omega)]
    rw [List.getLast?_eq_getElem?] at h
    simp only [Option.bind_some]
    rw [← h]
    congr 1
    omega
  unfold fIx dlook
  simp [e]
theorem get_K (st : Sto) (kvs : List (Key × D)) (a : Str) : fIx (Rf st.length) (.str a) (st ++ [.dct kvs]) = (match lookD kvs (.inr a) with | some d => .ok d (st ++ [.dct kvs]) | none => .bad) := by
  unfold fIx dlook
  simp only [Int.toNat_natCast, List.getElem?_append_right (Nat.le_refl _), Nat.sub_self, List.getElem?_cons_zero, keyOf, Option.map_some]
  cases lookD kvs (.inr a) <;> rfl
/-! ### parts of tuples -/
theorem cut_to {ds : List D} {j : Nat} : cutD ds none (some (j : Int)) = ds.take j := by
  unfold cutD
  rw [HT.sIx_none, HT.sIx_nat, List.drop_zero, Nat.sub_zero]
  by_cases h : j ≤ ds.length
  · rw [Nat.min_eq_left h]
  · rw [Nat.min_eq_right (by omega), List.take_length, List.take_of_length_le (by omega)]
theorem cut_from {ds : List D} {j : Nat} : cutD ds (some (j : Int)) none = ds.drop j := by
  unfold cutD
  rw [HT.sIx_none, HT.sIx_nat]
  by_cases h : j ≤ ds.length
  · rw [Nat.min_eq_left h, List.take_of_length_le (by rw [List.length_drop]; omega)]
  · rw [Nat.min_eq_right (by omega), Nat.sub_self, List.take_zero, List.drop_of_length_le (by omega)]
theorem cut_mid {ds : List D} {i j : Nat} (h : i ≤ ds.length) : cutD ds (some (i : Int)) (some (j : Int)) = (ds.drop i).take (j - i) := by
  unfold cutD
  rw [HT.sIx_nat, HT.sIx_nat, Nat.min_eq_left h]
  by_cases h2 : j ≤ ds.length
  · rw [Nat.min_eq_left h2]
  · rw [Nat.min_eq_right (by omega), List.take_of_length_le (by rw [List.length_drop]; omega), List.take_of_length_le (by rw [List.length_drop]; omega)]
theorem sl_to {ds : List D} {j : Nat} {st : Sto} : fSl none (some (j : Int)) (.tuple ds) st = .ok (.tuple (ds.take j)) st := by
  show R.ok (PyData.tuple (cutD ds none (some (j : Int)))) st = _
  rw [cut_to]
theorem sl_from {ds : List D} {j : Nat} {st : Sto} : fSl (some (j : Int)) none (.tuple ds) st = .ok (.tuple (ds.drop j)) st := by
  show R.ok (PyData.tuple (cutD ds (some (j : Int)) none)) st = _
  rw [cut_from]
end Pv
set_option Elab.async false
set_option linter.all false
set_option maxRecDepth 100000
set_option maxHeartbeats 1000000
set_option pp.maxSteps 400
namespace Pv
open PySem PySem.Spec L2 LamX
open PyProof.Rows hiding St signs

/-! ### runs, plainly -/
structure Host where
  n : Str
  s : Int
  f : Int
  r : Int
deriving DecidableEq
structure Net where
  hosts : List Host
  roads : List (Str × Str × Int)
  most : Option Int
  rule : Str
structure Ev where
  h : Str
  t : Int
  r : Int
  l : Option Nat
deriving DecidableEq
abbrev Stamp := Int × Int
def dHost (x : Host) : D := .tuple [.str x.n, .int x.s, .int x.f, .int x.r]
def dRoad (x : Str × Str × Int) : D := .tuple [.str x.1, .str x.2.1, .int x.2.2]
def dOpt : Option Int → D
  | none => .none
  | some i => .int i
def dNet (n : Net) : D := .tuple [.tuple (n.hosts.map dHost), .tuple (n.roads.map dRoad), dOpt n.most, .str n.rule]
def dLet : Option Nat → D
  | none => .none
  | some l => .int (l : Int)
def dEv (e : Ev) : D := .tuple [.str e.h, .int e.t, .int e.r, dLet e.l]
def dStamp (s : Stamp) : D := .tuple [.int s.1, .int s.2]
def dStampO : Option Stamp → D
  | none => .none
  | some s => dStamp s
def hasH (n : Net) (h : Str) : Bool := n.hosts.any fun x => x.n == h
/-- an event of the cluster, read -/
def evOf (n : Net) : D → Option Ev
  | .tuple [.str h, .int t, .int r, l] => if hasH n h = true then (match l with
    | .none => some ⟨h, t, r, none⟩
    | .int i => if 0 ≤ i then some ⟨h, t, r, some i.toNat⟩ else none
    | _ => none) else none
  | _ => none
theorem evOf_eq {n : Net} {d : D} {e : Ev} (h : evOf n d = some e) : d = dEv e ∧ hasH n e.h = true := by
  unfold evOf at h
  split at h
  · split at h
    · rename_i hh
      split at h
      · cases h; exact ⟨rfl, hh⟩
      · split at h
        · cases h
          rename_i hi
          exact ⟨by simp [dEv, dLet, Int.toNat_of_nonneg hi], hh⟩
        · cases h
      · cases h
    · cases h
  · cases h
def clk (n : Net) (h : Str) : Option Host := n.hosts.reverse.find? fun x => x.n == h
def leastOf (n : Net) (a b : Str) : Option Int := (n.roads.reverse.find? fun x => x.1 == a && x.2.1 == b).map (·.2.2)
def pl (n : Net) (run : List Ev) (e : Ev) (l : Nat) : Bool := match run[l]? with
  | none => false
  | some p => match leastOf n p.h e.h with
    | none => false
    | some k => decide (k ≤ e.t - p.t)
def late (run : List Ev) (e : Ev) : Bool := match run.getLast? with
  | some p => decide (e.t < p.t)
  | none => false
def same2 (e : Ev) (p : Ev) : Bool := p.h == e.h && decide (p.t = e.t)
/-- what is wrong with the next event -/
def ff (n : Net) (run : List Ev) (d : D) : Option Str := match evOf n d with
  | none => some "event"
  | some e => match clk n e.h with
    | none => some "event"
    | some c =>
      if late run e = true then some "order"
      else if c.r ≤ ((run.filter (same2 e)).length : Int) then some "rate"
      else if ¬ (e.t - c.s ≤ e.r ∧ e.r ≤ e.t + c.f) then some "reading"
      else match e.l with
        | none => none
        | some l => if pl n run e l = true then none else some "letter"
def mark (ks : List Stamp) (rd : Int) : Int := (maxI (ks.map (·.1))).getD (rd - 1)
def known (last heard : Option Stamp) : List Stamp := last.toList ++ heard.toList
/-- the next stamp -/
def nst (n : Net) (last heard : Option Stamp) (rd : Int) : Option Stamp :=
  let ks := known last heard
  let m := mark ks rd
  if m < rd then some (rd, 0) else
    let c := 1 + (maxI ((ks.filter fun s => decide (s.1 = m)).map (·.2))).getD 0
    if (match n.most with | none => true | some k => decide (c ≤ k)) = true then some (m, c) else if n.rule == "more" then some (m + 1, 0) else none
/-- the first thing wrong with a run -/
def rfL (n : Net) : List D → List Ev → (Str → Option Stamp) → List Stamp → Option (Str × Nat)
  | [], _, _, _ => none
  | d :: ds, run, lat, sts => match ff n run d, evOf n d with
    | some w, _ => some (w, run.length)
    | none, none => some ("event", run.length)
    | none, some e => match nst n (lat e.h) (e.l.bind fun l => sts[l]?) e.r with
      | none => some ("full", run.length)
      | some s => rfL n ds (run ++ [e]) (fun x => if x = e.h then some s else lat x) (sts ++ [s])
def rf (n : Net) (ds : List D) : Option (Str × Nat) := rfL n ds [] (fun _ => none) []

/-! ### the words of a cluster are short, its numbers small -/
def Small (i : Int) : Prop := i.natAbs < 2 ^ 40
structure NetOk (n : Net) : Prop where
  hl : n.hosts.length ≤ 1000
  rl : n.roads.length ≤ 1000
  hn : ∀ x ∈ n.hosts, x.n.length ≤ 1000 ∧ (PyData.str x.n).canLay0 = true
  rn : ∀ x ∈ n.roads, (PyData.str x.1).canLay0 = true ∧ (PyData.str x.2.1).canLay0 = true
theorem clk_some {n : Net} {h : Str} (hh : hasH n h = true) : ∃ c, clk n h = some c ∧ c.n = h ∧ c ∈ n.hosts := by
  unfold clk
  cases e : n.hosts.reverse.find? (fun x => x.n == h) with
  | none =>
    rw [List.find?_eq_none] at e
    obtain ⟨x, hx, hq⟩ := List.any_eq_true.mp hh
    exact absurd hq (e x (List.mem_reverse.mpr hx))
  | some c =>
    have h1 := List.find?_some e
    have h2 := List.mem_of_find?_eq_some e
    exact ⟨c, rfl, by simpa using h1, List.mem_reverse.mp h2⟩
end Pv
set_option Elab.async false
set_option linter.all false
set_option maxRecDepth 100000
set_option maxHeartbeats 1000000
set_option pp.maxSteps 1500
namespace Pv
open PySem PySem.Spec L2
open PyProof.Rows hiding St signs cutD
section
variable {st : Sto}
theorem at_last (st : Sto) (m : MO) : (st ++ [m])[st.length]? = some m := by simp
theorem get_T (st : Sto) (kvs : List (List Key × Pv.D)) (a b : Str) (z : Pv.D) : fGet (Rf st.length) (.tuple [.str a, .str b]) z (st ++ [.dctT kvs]) = .ok ((lookD kvs [.inr a, .inr b]).getD z) (st ++ [.dctT kvs]) := by
  unfold fGet dlook
  simp only [Int.toNat_natCast, at_last]
  simp only [keysOf, keyOf, Option.map_some]
  cases lookD kvs [.inr a, .inr b] <;> rfl
theorem isDct_T (st : Sto) (kvs : List (List Key × Pv.D)) : isDct (st ++ [.dctT kvs]) (Rf st.length) = true := by
  unfold isDct
  simp only [Int.toNat_natCast, at_last]
theorem deref_last (st : Sto) (xs : List Pv.D) : deref (st ++ [.lst xs]) (Rf st.length) = .list xs := by
  rw [deref_ref]; simp
theorem isLst_last (st : Sto) (xs : List Pv.D) : isLst (st ++ [.lst xs]) (Rf st.length) = true := by
  unfold isLst; simp
theorem app_last (st : Sto) (xs : List Pv.D) (d : Pv.D) (h : xs.length ≤ 1000) : fApp (Rf st.length) d (st ++ [.lst xs]) = .ok .none (st ++ [.lst (xs ++ [d])]) := by
  unfold fApp
  simp only [Int.toNat_natCast]
  rw [List.getElem?_append_right (Nat.le_refl _)]
  simp only [Nat.sub_self, List.getElem?_cons_zero]
  rw [if_pos (sz_lt h), List.set_append_right _ _ (Nat.le_refl _)]
  simp
theorem repr_last (st : Sto) (xs : List Pv.D) : reprD (st ++ [.lst xs]) (Rf st.length) = reprD (st ++ [.lst xs]) (.list xs) := by
  unfold reprD; rw [deref_last]; rfl
theorem forL_nil {tg : MG} {body : MS} {fg : List Nat} {sl : Sl} : forL always tg body fg [] sl st = .nx sl st := by unfold forL; rw [if_pos (by trivial)]
theorem forL_cons {tg : MG} {body : MS} {fg : List Nat} {sl : Sl} {d : Pv.D} {ds : List Pv.D} : forL always tg body fg (d :: ds) sl st = (match (tg d sl st).thenS body with
    | .nx sl st => forL always tg body fg ds (wipeD sl fg) st
    | .ct sl st => forL always tg body fg ds (wipeD sl fg) st
    | .bk sl st => .nx (wipeD sl fg) st
    | r => r) := by
  conv => lhs; unfold forL; rw [if_pos (show always st from trivial)]
  try rfl
theorem add_rl {xs ys : List Pv.D} (h : xs.length + ys.length ≤ 1000) : fAdd (Rf st.length) (.list ys) (st ++ [.lst xs]) = .ok (.list (xs ++ ys)) (st ++ [.lst xs]) := by
  show onD2 dAdd (Rf st.length) (.list ys) _ = _
  unfold onD2
  rw [deref_last]
  simp [dAdd, sz_le h]
theorem loop_all {tg : MG} {body : MS} {fg : List Nat} {sl : Sl} {ds : List Pv.D} (h : ∀ d ∈ ds, ∃ sl', (tg d sl st).thenS body = .nx sl' st ∧ wipeD sl' fg = sl) : forL always tg body fg ds sl st = .nx sl st := by
  have := forL_find (keep := always) (tg := tg) (body := body) (fg := fg) (sl := sl) (st := st) (fun _ => none) trivial (ds := ds) fun k d hd _ => .inl ⟨rfl, h d (List.mem_of_getElem? hd)⟩
  rw [this]
  have e : ds.findSome? (fun _ => (none : Option Pv.D)) = none := by induction ds <;> simp_all
  rw [e]
theorem wtL_le {ds : List Pv.D} {m : Nat} (h : ∀ d ∈ ds, wt d ≤ m) : wtL ds ≤ (m + 4) * ds.length := by
  induction ds with
  | nil => exact Nat.zero_le _
  | cons d ds ih =>
    have h1 := h d List.mem_cons_self
    have h2 := ih fun x hx => h x (List.mem_cons_of_mem _ hx)
    unfold wtL
    rw [List.length_cons, Nat.mul_succ]
    omega
theorem Ok.two {x y : Pv.D} {a b k : Nat} (hx : Ok x a k) (hy : Ok y b k) : Ok (.list [x, y]) (a + b + 16) (k + 1) := by
  refine ⟨?_, ?_, ?_⟩
  · show (x.canLay0 && (y.canLay0 && true)) = true
    rw [hx.lay, hy.lay]; rfl
  · unfold Pv.wt wtL wtL wtL; have := hx.wt; have := hy.wt; omega
  · show max x.depth (max y.depth 0) + 1 ≤ k + 1
    have := hx.dp; have := hy.dp; omega
theorem ints_stD (ks : List Stamp) (f : Stamp → Int) : intsOfD (ks.map fun s => PyData.int (f s)) = some (ks.map f) := by
  induction ks with
  | nil => rfl
  | cons a ks ih => simp only [List.map_cons, intsOfD, ih]; rfl
theorem maxI_some {ks : List Int} {m : Int} (h : maxI ks = some m) : m ∈ ks := by
  cases ks with
  | nil => cases h
  | cons a ks =>
    have e : ks.foldl max a = m := Option.some.inj h
    subst e
    have : ∀ (l : List Int) (a : Int), l.foldl max a ∈ a :: l := by
      intro l
      induction l with
      | nil => intro a; simp
      | cons b l ih =>
        intro a
        have := ih (max a b)
        rw [List.foldl_cons]
        rcases List.mem_cons.mp this with e | e
        · rw [e]
          rcases Int.le_total a b with h | h
          · rw [Int.max_eq_right h]; simp
          · rw [Int.max_eq_left h]; simp
        · exact List.mem_cons_of_mem _ (List.mem_cons_of_mem _ e)
    exact this ks a
theorem eqv_two (a b : Str) (i j : Int) : PyData.eqv (.tuple [.str a, .int i]) (.tuple [.str b, .int j]) = (a == b && decide (i = j)) := by
  simp [PyData.eqv, PyData.eqvAll]; rfl
theorem cmp_two {a b : Str} {i j : Int} (ha : (PyData.str a).canLay0 = true) (hb : (PyData.str b).canLay0 = true) : dCmp .Eq (.tuple [.str a, .int i]) (.tuple [.str b, .int j]) = some (.bool (a == b && decide (i = j))) := by
  rw [cmp_eq (lay_of (by simpa [PyData.canLay0, PyData.canLayAll0] using ha) (by simpa [PyData.canLay0, PyData.canLayAll0] using hb) (by simp [PyData.depth, PyData.depthAll])), eqv_two]
end
section
variable {α : Type} {keep : Sto → Prop} [DecidablePred keep] {t : CT} {tt : MT} {te : M} {mi : MI} {vs : List Nat} {sl : Sl} {st : Sto}
theorem lcL_at (g f : α → Pv.D) (p : α → Bool) (hk : keep st) : ∀ {xs : List α},
    (∀ x ∈ xs, ∃ sl2, ctSet t (g x) sl = some sl2 ∧ tt sl2 st = .ok (p x) st ∧ (p x = true → te sl2 st = .ok (f x) st)) → lcL keep t tt te sl (xs.map g) st = .ok ((xs.filter p).map f) st
  | [], _ => by rw [List.map_nil]; unfold lcL; rw [if_pos hk]; rfl
  | x :: xs, h => by
    obtain ⟨sl2, h1, h2, h3⟩ := h x List.mem_cons_self
    have ih := lcL_at g f p hk (xs := xs) fun y hy => h y (List.mem_cons_of_mem _ hy)
    rw [List.map_cons]
    unfold lcL
    rw [if_pos hk, h1]
    simp only [h2]
    cases hp : p x with
    | true => simp only [h3 hp, ih, List.filter_cons, hp, if_true, List.map_cons]
    | false => simp [ih, List.filter_cons, hp]
/-- a comprehension over told things, with a test -/
theorem mLc_if (xs : List α) (g f : α → Pv.D) (p : α → Bool) (hi : mi sl st = .ok ⟨xs.map g, keep⟩ st) (hk : keep st) (hz : xs.length ≤ 1000)
    (h : ∀ x ∈ xs, ∃ sl2, ctSet t (g x) (wipeD sl vs) = some sl2 ∧ tt sl2 st = .ok (p x) st ∧ (p x = true → te sl2 st = .ok (f x) st)) : mLc mi t tt te vs sl st = .ok (.list ((xs.filter p).map f)) st := by
  unfold mLc lcR
  rw [hi]
  simp only [R.bind_ok, lcL_at g f p hk h]
  rw [if_pos]
  · rfl
  · rw [List.length_map]; exact Nat.le_trans (List.length_filter_le _ _) (sz_le hz)
/-- a comprehension over told things -/
theorem mLc_at (xs : List α) (g f : α → Pv.D) (hi : mi sl st = .ok ⟨xs.map g, keep⟩ st) (hk : keep st) (hz : xs.length ≤ 1000)
    (h : ∀ x ∈ xs, ∃ sl2, ctSet t (g x) (wipeD sl vs) = some sl2 ∧ te sl2 st = .ok (f x) st) : mLc mi t tYesM te vs sl st = .ok (.list (xs.map f)) st := by
  have := mLc_if (tt := tYesM) xs g f (fun _ => true) hi hk hz fun x hx => let ⟨a, b, c⟩ := h x hx; ⟨a, b, rfl, fun _ => c⟩
  rw [this, List.filter_eq_self.mpr fun _ _ => rfl]
/-- a loop over told things that never ends early -/
theorem loop_at {fg : List Nat} {tg : MG} {body : MS} (xs : List α) (g : α → Pv.D) (h : ∀ x ∈ xs, ∃ sl', (tg (g x) sl st).thenS body = .nx sl' st ∧ wipeD sl' fg = sl) : forL always tg body fg (xs.map g) sl st = .nx sl st :=
  loop_all fun d hd => by obtain ⟨x, hx, rfl⟩ := List.mem_map.mp hd; exact h x hx
end
end Pv
set_option Elab.async false
set_option linter.all false
set_option maxRecDepth 100000
set_option maxHeartbeats 1000000
set_option pp.maxSteps 1500
namespace Pv
open PySem PySem.Spec L2
open PyProof.Rows hiding St signs cutD
section
variable {st : Sto} {n : Net}
abbrev Cl (x : Pv.D) : Prop := Ok x (2 ^ 24) 60
def isIntD : Pv.D → Bool | .int _ => true | _ => false
def isNumD : Pv.D → Bool | .int i => decide (0 ≤ i) | _ => false
theorem known_len (a b : Option Stamp) : (known a b).length ≤ 2 := by cases a <;> cases b <;> simp [known]
theorem dSO (s : Stamp) : dStampO (some s) = .tuple [.int s.1, .int s.2] := rfl
theorem dSN : dStampO none = .none := rfl
theorem names_lay {n : Net} (hn : NetOk n) : PyData.canLayAll0 (n.hosts.map fun y => PyData.str y.n) = true ∧ PyData.depthAll (n.hosts.map fun y => PyData.str y.n) ≤ 60 := by
  refine ⟨(layAll_iff _).mpr fun z hz => ?_, (depthAll_le _ _).mpr fun z hz => ?_⟩
  · obtain ⟨y, hy, e⟩ := List.mem_map.mp hz
    subst e; exact (hn.hn y hy).2
  · obtain ⟨y, hy, e⟩ := List.mem_map.mp hz
    subst e; exact Nat.zero_le _
theorem any_names (hs : List Host) (h : Str) : (hs.map fun y => PyData.str y.n).any (fun z => PyData.eqv z (.str h)) = hs.any fun y => y.n == h := by
  rw [List.any_map]; rfl
theorem any_hasH (n : Net) (h : Str) : (n.hosts.map fun y => PyData.str y.n).any (fun z => PyData.eqv z (.str h)) = hasH n h := any_names _ _
def isHost (n : Net) : Pv.D → Bool | .str z => hasH n z | _ => false
theorem evOf_noH {n : Net} {z : Str} {b c d : Pv.D} (hz : hasH n z = false) : evOf n (.tuple [.str z, b, c, d]) = none := by
  unfold evOf
  split
  · rename_i e; simp only [PyData.tuple.injEq, List.cons.injEq, PyData.str.injEq] at e
    obtain ⟨e1, _⟩ := e
    subst e1
    rw [if_neg (by rw [hz]; decide)]
  · rfl
def ckKey : D → Key | .tuple (.str y :: _) => .inr y | _ => .inl 0
def ckVal : D → D | .tuple (_ :: r) => .tuple r | d => d
def lsKey : D → List Key | .tuple [.str x, .str y, _] => [.inr x, .inr y] | _ => []
def lsVal : D → D | .tuple [_, _, z] => z | d => d
/-- the clocks, by name -/
def ckD (n : Net) : List (Key × Pv.D) := (n.hosts.map dHost).foldl (fun a d => putD a (ckKey d) (ckVal d)) []
theorem clk_look {h : Str} : lookD (ckD n) (.inr h) = (clk n h).map fun c => .tuple [.int c.s, .int c.f, .int c.r] := by
  unfold ckD clk
  rw [lookD_fold]
  have : ∀ l : List Host, ((l.map dHost).find? fun d => decide (ckKey d = .inr h)) = (l.find? fun x => x.n == h).map dHost := by
    intro l
    induction l with
    | nil => rfl
    | cons a l ih =>
      simp only [List.map_cons, List.find?_cons, dHost, ckKey]
      by_cases e : a.n = h
      · simp [e, dHost]
      · simp only [Sum.inr.injEq, e, decide_false, beq_eq_false_iff_ne.mpr e]
        exact ih
  rw [← List.map_reverse, this]
  cases (n.hosts.reverse.find? fun x => x.n == h) <;> simp [dHost, lookD, ckVal]
def lsD (n : Net) : List (List Key × Pv.D) := (n.roads.map dRoad).foldl (fun a d => putD a (lsKey d) (lsVal d)) []
theorem lst_look {a b : Str} : lookD (lsD n) [.inr a, .inr b] = (leastOf n a b).map .int := by
  unfold lsD leastOf
  rw [lookD_fold]
  have : ∀ l : List (Str × Str × Int), ((l.map dRoad).find? fun d => decide (lsKey d = [.inr a, .inr b])) = (l.find? fun x => x.1 == a && x.2.1 == b).map dRoad := by
    intro l
    induction l with
    | nil => rfl
    | cons x l ih =>
      simp only [List.map_cons, List.find?_cons, dRoad, lsKey]
      by_cases e1 : x.1 = a
      · by_cases e2 : x.2.1 = b
        · simp [e1, e2, dRoad]
        · simp only [List.cons.injEq, Sum.inr.injEq, e1, e2, false_and, and_false, decide_false, beq_eq_false_iff_ne.mpr e2, Bool.and_false]
          exact ih
      · simp only [List.cons.injEq, Sum.inr.injEq, e1, false_and, decide_false, beq_eq_false_iff_ne.mpr e1, Bool.false_and]
        exact ih
  rw [← List.map_reverse, this]
  cases (n.roads.reverse.find? fun x => x.1 == a && x.2.1 == b) <;> simp [dRoad, lookD, lsVal]
theorem run_ix {run : List Ev} {l : Nat} {p : Ev} (h : run[l]? = some p) : fIx (.tuple (run.map dEv)) (.int (l : Int)) st = .ok (dEv p) st := ix_t (by rw [List.getElem?_map, h]; rfl)
/-- the run's events are the cluster's -/
def Own (n : Net) (run : List Ev) : Prop := ∀ p ∈ run, hasH n p.h = true
theorem own_lay (hn : NetOk n) {h : Str} (hh : hasH n h = true) : (PyData.str h).canLay0 = true := by
  obtain ⟨c, _, e, hc⟩ := clk_some hh
  rw [← e]; exact (hn.hn c hc).2
theorem ck_clean (n : Net) : ∀ p ∈ ckD n, p.2.canLay0 = true := by
  unfold ckD
  refine fold_all (P := fun d => d.canLay0 = true) _ _ _ [] (fun p hp => by cases hp) fun d hd => ?_
  obtain ⟨y, hy, rfl⟩ := List.mem_map.mp hd
  rfl
theorem late_eq (run : List Ev) : (run.map dEv).getLast? = run.getLast?.map dEv := by rw [List.getLast?_map]
/-- the store while the run is read: the latest stamps by host, all stamps -/
def rS (st : Sto) (lat : List (Key × Pv.D)) (sts : List Stamp) : Sto := (st ++ [.dct lat]) ++ [.lst (sts.map dStamp)]
theorem rS_clean {lat : List (Key × Pv.D)} {sts : List Stamp} (hs : StC st) (hl : ∀ p ∈ lat, p.2.canLay0 = true) : StC (rS st lat sts) :=
  (hs.dct hl).lst ((layAll_iff _).mpr fun d hd => by obtain ⟨s, _, rfl⟩ := List.mem_map.mp hd; rfl)
theorem rS_len (lat : List (Key × Pv.D)) (sts : List Stamp) : (st ++ [MO.dct lat]).length = st.length + 1 := by simp
theorem rS_0 (lat : List (Key × Pv.D)) (sts : List Stamp) : (rS st lat sts)[st.length]? = some (.dct lat) := by
  unfold rS; rw [List.getElem?_append_left (by simp), List.getElem?_append_right (Nat.le_refl _)]; simp
theorem rS_1 (lat : List (Key × Pv.D)) (sts : List Stamp) : (rS st lat sts)[st.length + 1]? = some (.lst (sts.map dStamp)) := by
  unfold rS; rw [List.getElem?_append_right (by simp)]; simp
theorem rS_put (lat : List (Key × Pv.D)) (sts : List Stamp) (h : Str) (d : Pv.D) (hz : lat.length < sizeLine) : setO (rS st lat sts) (Rf st.length) (.str h) d = some (rS st (putD lat (.inr h) d) sts) := by
  unfold setO
  simp only [Int.toNat_natCast, rS_0]
  simp [keyOf, hz, rS]
theorem rS_get (lat : List (Key × Pv.D)) (sts : List Stamp) (h : Str) (z : Pv.D) : fGet (Rf st.length) (.str h) z (rS st lat sts) = .ok ((lookD lat (.inr h)).getD z) (rS st lat sts) := by
  unfold fGet dlook
  simp only [Int.toNat_natCast, rS_0, keyOf, Option.map_some]
  cases lookD lat (.inr h) <;> rfl
theorem rS_isD (lat : List (Key × Pv.D)) (sts : List Stamp) : isDct (rS st lat sts) (Rf st.length) = true := by
  unfold isDct; simp only [Int.toNat_natCast, rS_0]
theorem rS_isL (lat : List (Key × Pv.D)) (sts : List Stamp) : isLst (rS st lat sts) (Rf (st.length + 1)) = true := by
  unfold isLst; simp only [Int.toNat_natCast, rS_1]
theorem rS_ix (lat : List (Key × Pv.D)) (sts : List Stamp) {l : Nat} {s : Stamp} (h : sts[l]? = some s) : fIx (Rf (st.length + 1)) (.int (l : Int)) (rS st lat sts) = .ok (dStamp s) (rS st lat sts) := by
  have e : deref (rS st lat sts) (Rf (st.length + 1)) = .list (sts.map dStamp) := by unfold deref; simp only [Int.toNat_natCast, rS_1]
  have i := ix_l (ds := sts.map dStamp) (j := l) (d := dStamp s) (st := rS st lat sts) (by rw [List.getElem?_map, h]; rfl)
  unfold fIx dlook at i ⊢
  simp only [Int.toNat_natCast, rS_1]
  simp only [on2] at i ⊢
  rw [e]
  exact i
theorem rS_app (lat : List (Key × Pv.D)) (sts : List Stamp) (s : Stamp) (hz : sts.length < sizeLine) : fApp (Rf (st.length + 1)) (dStamp s) (rS st lat sts) = .ok .none (rS st lat (sts ++ [s])) := by
  unfold fApp
  simp only [Int.toNat_natCast, rS_1]
  rw [if_pos (by rw [List.length_map]; exact hz)]
  congr 1
  unfold rS
  rw [List.set_append_right _ _ (by simp)]
  simp
/-- the slots while the run is read -/
def sl0 (n : Net) (all : List Pv.D) (st : Sto) : Sl := [some (dNet n), some (.tuple all), some (Rf st.length), some (Rf (st.length + 1)), none, none, none, none, none, none, none, none, none]
structure Inv (n : Net) (run : List Ev) (latF : Str → Option Stamp) (sts : List Stamp) (lat : List (Key × Pv.D)) : Prop where
  own : Own n run
  look : ∀ h, lookD lat (.inr h) = (latF h).map dStamp
  clean : ∀ p ∈ lat, p.2.canLay0 = true
  len : sts.length = run.length
  size : lat.length ≤ run.length
theorem ff_ev {n : Net} {run : List Ev} {d : Pv.D} (h : evOf n d = none) : ff n run d = some (Str.ofString "event") := by
  unfold ff; rw [h]
theorem Inv.next {run : List Ev} {latF : Str → Option Stamp} {sts : List Stamp} {lat : List (Key × Pv.D)} {e : Ev} {s : Stamp} (I : Inv n run latF sts lat) (he : hasH n e.h = true) :
    Inv n (run ++ [e]) (fun x => if x = e.h then some s else latF x) (sts ++ [s]) (putD lat (.inr e.h) (dStamp s)) := by
  refine ⟨fun p hp => ?_, fun h => ?_, put_all (P := fun d => d.canLay0 = true) I.clean rfl, by simp [I.len], ?_⟩
  · rcases List.mem_append.mp hp with q | q
    · exact I.own p q
    · have : p = e := by simpa using q
      subst this; exact he
  · rw [lookD_put]
    by_cases hx : h = e.h
    · subst hx; simp
    · have : ¬ ((.inr e.h : Key) = .inr h) := fun z => hx (Sum.inr.inj z).symm
      rw [if_neg this, if_neg hx, I.look]
  · have : (putD lat (.inr e.h) (dStamp s)).length ≤ lat.length + 1 := by
      unfold putD; split
      · rw [List.length_map]; exact Nat.le_succ _
      · simp
    have := I.size
    simp only [List.length_append, List.length_cons, List.length_nil]
    omega
def faultD : Option (Str × Nat) → Pv.D
  | none => .none
  | some (w, k) => .tuple [.str w, .int (k : Int)]
theorem ff_word {n : Net} {run : List Ev} {d : Pv.D} {w : Str} (h : ff n run d = some w) : w ∈ ([Str.ofString "event", Str.ofString "order", Str.ofString "rate", Str.ofString "reading", Str.ofString "letter"] : List Str) := by
  unfold ff at h
  split at h
  · cases h; simp
  · split at h
    · cases h; simp
    · split at h
      · cases h; simp
      · split at h
        · cases h; simp
        · split at h
          · cases h; simp
          · split at h
            · cases h
            · split at h
              · cases h
              · cases h; simp
theorem rfL_word {n : Net} : ∀ {ds : List Pv.D} {run : List Ev} {lat : Str → Option Stamp} {sts : List Stamp} {w : Str} {k : Nat}, rfL n ds run lat sts = some (w, k) → w ∈ ([Str.ofString "event", Str.ofString "order", Str.ofString "rate", Str.ofString "reading", Str.ofString "letter", Str.ofString "full"] : List Str)
  | [], _, _, _, _, _, h => by cases h
  | d :: ds, run, lat, sts, w, k, h => by
    unfold rfL at h
    split at h
    · rename_i h1
      cases h
      have := ff_word h1
      simp only [List.mem_cons, List.not_mem_nil, or_false] at this ⊢
      rcases this with q | q | q | q | q <;> simp [q]
    · cases h; simp
    · split at h
      · cases h; simp
      · exact rfL_word h
theorem word_lay {w : Str} (h : w ∈ ([Str.ofString "event", Str.ofString "order", Str.ofString "rate", Str.ofString "reading", Str.ofString "letter", Str.ofString "full"] : List Str)) : (PyData.str w).canLay0 = true := by
  simp only [List.mem_cons, List.not_mem_nil, or_false] at h
  rcases h with q | q | q | q | q | q <;> subst q <;> decide +kernel
def saidD (r : Option (Str × Nat)) (m : Nat) : Pv.D := match r with
  | none => .tuple [.str "told", .int (m : Int)]
  | some (w, k) => .tuple [.str "paper", .str w, .int (k : Int)]
/-! ### events, a time later -/
abbrev Sc := Str × Int × Int × Pv.D
def dSc (b : Int) (e : Sc) : Pv.D := .tuple [.str e.1, .int (e.2.1 + b), .int (e.2.2.1 + b), e.2.2.2]
def shE (b : Int) (e : Ev) : Ev := ⟨e.h, e.t + b, e.r + b, e.l⟩
def shS (b : Int) (s : Stamp) : Stamp := (s.1 + b, s.2)
theorem evOf_sh (b : Int) (e : Sc) : evOf n (dSc b e) = (evOf n (dSc 0 e)).map (shE b) := by
  obtain ⟨h, t, r, l⟩ := e
  unfold dSc evOf
  simp only [Int.add_zero]
  by_cases hh : hasH n h = true
  · rw [if_pos hh, if_pos hh]
    cases l with
    | int i => by_cases hi : 0 ≤ i <;> simp [hi, shE]
    | _ => rfl
  · rw [if_neg hh, if_neg hh]; rfl
theorem late_sh (b : Int) (run : List Ev) (e : Ev) : late (run.map (shE b)) (shE b e) = late run e := by
  unfold late
  rw [List.getLast?_map]
  cases run.getLast? with
  | none => rfl
  | some p =>
    show decide (e.t + b < p.t + b) = decide (e.t < p.t)
    congr 1; apply propext; omega
theorem same2_sh (b : Int) (run : List Ev) (e : Ev) : ((run.map (shE b)).filter (same2 (shE b e))).length = (run.filter (same2 e)).length := by
  rw [List.filter_map, List.length_map]
  congr 2
  funext p
  unfold same2 shE
  simp only [Function.comp]
  congr 2; apply propext; omega
theorem pl_sh (b : Int) (run : List Ev) (e : Ev) (l : Nat) : pl n (run.map (shE b)) (shE b e) l = pl n run e l := by
  unfold pl
  rw [List.getElem?_map]
  cases run[l]? with
  | none => rfl
  | some p =>
    show (match leastOf n p.h e.h with | none => false | some k => decide (k ≤ e.t + b - (p.t + b))) = (match leastOf n p.h e.h with | none => false | some k => decide (k ≤ e.t - p.t))
    cases leastOf n p.h e.h with
    | none => rfl
    | some k => simp only; congr 1; apply propext; omega
theorem ff_sh (b : Int) (run : List Ev) (e : Sc) : ff n (run.map (shE b)) (dSc b e) = ff n run (dSc 0 e) := by
  unfold ff
  rw [evOf_sh]
  cases evOf n (dSc 0 e) with
  | none => rfl
  | some e =>
    simp only [Option.map_some]
    show (match clk n e.h with | none => _ | some c => _) = _
    cases clk n e.h with
    | none => rfl
    | some c =>
      simp only
      rw [late_sh, same2_sh]
      have h1 : (shE b e).t - c.s ≤ (shE b e).r ∧ (shE b e).r ≤ (shE b e).t + c.f ↔ e.t - c.s ≤ e.r ∧ e.r ≤ e.t + c.f := by
        unfold shE; simp only; omega
      simp only [h1]
      have h2 : (shE b e).l = e.l := rfl
      rw [h2]
      cases e.l with
      | none => rfl
      | some l => simp only [pl_sh]
theorem known_sh (b : Int) (a h : Option Stamp) : known (a.map (shS b)) (h.map (shS b)) = (known a h).map (shS b) := by cases a <;> cases h <;> rfl
theorem maxI_sh (b : Int) (ks : List Int) : maxI (ks.map (· + b)) = (maxI ks).map (· + b) := by
  cases ks with
  | nil => rfl
  | cons a ks =>
    show some ((ks.map (· + b)).foldl max (a + b)) = some (ks.foldl max a + b)
    congr 1
    induction ks generalizing a with
    | nil => rfl
    | cons c ks ih =>
      simp only [List.map_cons, List.foldl_cons]
      rw [show max (a + b) (c + b) = max a c + b by omega]
      exact ih _
theorem mark_sh (b : Int) (ks : List Stamp) (r : Int) : mark (ks.map (shS b)) (r + b) = mark ks r + b := by
  unfold mark
  rw [List.map_map, show ((fun s : Stamp => s.1) ∘ shS b) = (fun s => s.1 + b) from rfl, show (ks.map fun s : Stamp => s.1 + b) = (ks.map (·.1)).map (· + b) by rw [List.map_map]; rfl, maxI_sh]
  cases maxI (ks.map (·.1)) with
  | none => simp only [Option.map_none, Option.getD_none]; omega
  | some m => rfl
theorem nst_sh (b : Int) (a h : Option Stamp) (r : Int) : nst n (a.map (shS b)) (h.map (shS b)) (r + b) = (nst n a h r).map (shS b) := by
  unfold nst
  simp only [known_sh, mark_sh]
  have hf : ((known a h).map (shS b)).filter (fun s => decide (s.1 = mark (known a h) r + b)) = ((known a h).filter fun s => decide (s.1 = mark (known a h) r)).map (shS b) := by
    rw [List.filter_map]
    congr 2
    funext s
    show decide (s.1 + b = _) = decide (s.1 = _)
    congr 1; apply propext; omega
  rw [hf, List.map_map, show ((fun s : Stamp => s.2) ∘ shS b) = (fun s => s.2) from rfl]
  have h1 : (mark (known a h) r + b < r + b) = (mark (known a h) r < r) := by apply propext; omega
  simp only [h1]
  have key : ∀ (c m : Int) (A P Q : Prop) [Decidable A] [Decidable P] [Decidable Q], (if A then some ((r + b, 0) : Stamp) else if P then some (m + b, c) else if Q then some (m + b + 1, 0) else none) = (if A then some ((r, 0) : Stamp) else if P then some (m, c) else if Q then some (m + 1, 0) else none).map (shS b) := by
    intro c m A P Q _ _ _
    have : m + b + 1 = m + 1 + b := by omega
    by_cases hA : A <;> by_cases hP : P <;> by_cases hQ : Q <;> simp [hA, hP, hQ, shS, this]
  exact key _ _ _ _ _
theorem rfL_sh (b : Int) : ∀ (es : List Sc) (run : List Ev) (lat : Str → Option Stamp) (sts : List Stamp),
    rfL n (es.map (dSc b)) (run.map (shE b)) (fun x => (lat x).map (shS b)) (sts.map (shS b)) = rfL n (es.map (dSc 0)) run lat sts
  | [], _, _, _ => rfl
  | e :: es, run, lat, sts => by
    simp only [List.map_cons]
    unfold rfL
    rw [ff_sh, evOf_sh]
    cases ff n run (dSc 0 e) with
    | some w => simp only [List.length_map]
    | none =>
      cases evOf n (dSc 0 e) with
      | none => simp only [Option.map_none, List.length_map]
      | some v =>
        simp only [Option.map_some]
        have hl : ((shE b v).l.bind fun l => (sts.map (shS b))[l]?) = (v.l.bind fun l => sts[l]?).map (shS b) := by
          show (v.l.bind fun l => (sts.map (shS b))[l]?) = _
          cases v.l with
          | none => rfl
          | some l => simp
        rw [hl, show (shE b v).h = v.h from rfl, show (shE b v).r = v.r + b from rfl, nst_sh]
        cases nst n (lat v.h) (v.l.bind fun l => sts[l]?) v.r with
        | none => simp only [Option.map_none, List.length_map]
        | some s =>
          simp only [Option.map_some]
          have ih := rfL_sh b es (run ++ [v]) (fun x => if x = v.h then some s else lat x) (sts ++ [s])
          simp only [List.map_append, List.map_cons, List.map_nil] at ih
          rw [← ih]
          congr 1
          funext x
          by_cases hx : x = v.h
          · simp [hx, shE]
          · simp [hx, shE]
theorem rf_sh (b : Int) (es : List Sc) : rf n (es.map (dSc b)) = rf n (es.map (dSc 0)) := rfL_sh b es [] (fun _ => none) []
end
end Pv
set_option Elab.async false
set_option linter.all false
set_option maxRecDepth 100000
set_option maxHeartbeats 1000000
set_option pp.maxSteps 1500
namespace Pv
open PySem PySem.Spec L2
open PyProof.Rows hiding St signs cutD
section
variable {st : Sto} {n : Net}
/-- a def that returns a list of its own -/
theorem fin_list {st more : Sto} {r : Nat} {ds : List D} (h : StC st) (hr : st.length ≤ r) (e : (st ++ more)[r]? = some (.lst ds)) (hd : PyData.canLayAll0 ds = true) : finR st.length (.ok (Rf r) (st ++ more)) = .ok (.list ds) st := by
  have hlt := (List.getElem?_eq_some_iff.mp e).1
  unfold finR
  have hm : ¬ (st ++ more).length = st.length := by omega
  simp only [if_neg hm]
  have hz : fz (lookF 6 st.length (st ++ more)) (Rf r) = some (.list ds) := by
    show lookF 6 st.length (st ++ more) ((r : Int).toNat) = _
    rw [Int.toNat_natCast]
    unfold lookF
    rw [if_neg (by omega)]
    simp only [e]
    rw [fzL_clean ds hd]; rfl
  rw [hz, List.take_append_of_le_length (Nat.le_refl _), List.take_length, h]
/-! ### stamps, plainly -/
def stL (n : Net) : List Ev → (Str → Option Stamp) → List Stamp → List (Option Stamp)
  | [], _, acc => acc.map some
  | e :: es, lat, acc => match nst n (lat e.h) (e.l.bind fun l => acc[l]?) e.r with
    | none => acc.map some ++ [none]
    | some s => stL n es (fun x => if x = e.h then some s else lat x) (acc ++ [s])
/-- the stamps of a run -/
def stp (n : Net) (run : List Ev) : List (Option Stamp) := stL n run (fun _ => none) []
/-- letters come of former events -/
def letB : Nat → List Ev → Bool
  | _, [] => true
  | k, e :: es => (match e.l with | none => true | some l => decide (l < k)) && letB (k + 1) es
theorem stL_len (n : Net) : ∀ (es : List Ev) (lat : Str → Option Stamp) (acc : List Stamp), (stL n es lat acc).length ≤ acc.length + es.length
  | [], _, acc => by simp [stL]
  | e :: es, lat, acc => by
    unfold stL
    split
    · simp
    · have := stL_len n es (fun x => if x = e.h then some ‹Stamp› else lat x) (acc ++ [‹Stamp›])
      simp only [List.length_append, List.length_cons, List.length_nil] at this ⊢
      omega
theorem stO_lay (s : Option Stamp) : (dStampO s).canLay0 = true := by cases s <;> rfl
theorem stOs_lay (ss : List (Option Stamp)) : PyData.canLayAll0 (ss.map dStampO) = true := (layAll_iff _).mpr fun d hd => by
  obtain ⟨s, _, rfl⟩ := List.mem_map.mp hd; exact stO_lay s
theorem rS_appD (lat : List (Key × Pv.D)) (sts : List Stamp) (d : D) (hz : sts.length < sizeLine) : fApp (Rf (st.length + 1)) d (rS st lat sts) = .ok .none ((st ++ [.dct lat]) ++ [.lst (sts.map dStamp ++ [d])]) := by
  unfold fApp
  simp only [Int.toNat_natCast, rS_1]
  rw [if_pos (by rw [List.length_map]; exact hz)]
  congr 1
  unfold rS
  rw [List.set_append_right _ _ (by simp)]
  simp
/-! ### stamps of a run that is let -/
theorem stL_sh (b : Int) : ∀ (es : List Ev) (lat : Str → Option Stamp) (acc : List Stamp),
    stL n (es.map (shE b)) (fun x => (lat x).map (shS b)) (acc.map (shS b)) = (stL n es lat acc).map (·.map (shS b))
  | [], _, acc => by unfold stL; simp
  | e :: es, lat, acc => by
    simp only [List.map_cons]
    unfold stL
    have hl : ((shE b e).l.bind fun l => (acc.map (shS b))[l]?) = (e.l.bind fun l => acc[l]?).map (shS b) := by
      show (e.l.bind fun l => (acc.map (shS b))[l]?) = _
      cases e.l with
      | none => rfl
      | some l => simp
    rw [hl, show (shE b e).h = e.h from rfl, show (shE b e).r = e.r + b from rfl, nst_sh]
    cases nst n (lat e.h) (e.l.bind fun l => acc[l]?) e.r with
    | none => simp
    | some s =>
      simp only [Option.map_some]
      have ih := stL_sh b es (fun x => if x = e.h then some s else lat x) (acc ++ [s])
      simp only [List.map_append, List.map_cons, List.map_nil] at ih
      rw [← ih]
      congr 1
      funext x
      by_cases hx : x = e.h
      · simp [hx, shE]
      · simp [hx, shE]
theorem stp_sh (b : Int) (es : List Ev) : stp n (es.map (shE b)) = (stp n es).map (·.map (shS b)) := stL_sh b es (fun _ => none) []
theorem letB_sh (b : Int) : ∀ (es : List Ev) (k : Nat), letB k (es.map (shE b)) = letB k es
  | [], _ => rfl
  | e :: es, k => by
    simp only [List.map_cons, letB]
    rw [letB_sh b es]; rfl
@[simp] theorem fin_excN {x : XV} {st : Sto} : finR st.length (.exc x st) = .exc x st := by unfold finR; simp
theorem cl_int {i : Int} (h : i.natAbs < 10 ^ 62) : Cl (.int i) := ⟨rfl, by unfold Pv.wt; rw [if_pos h]; decide, Nat.zero_le _⟩
theorem mul_kr {i k : Int} (h : k.natAbs < 2 ^ 63) : dMulS (.int i) (.int k) = some (.int (i * k)) := if_pos (.inr (by omega))
theorem mul_kl {i k : Int} (h : k.natAbs < 2 ^ 63) : dMulS (.int k) (.int i) = some (.int (k * i)) := if_pos (.inl (by omega))
def usesN (n : Net) : Bool := isNumD (dOpt n.most) && n.rule == "more"
theorem usesN_some {n : Net} (h : usesN n = true) : ∃ k, n.most = some k ∧ 0 ≤ k := by
  unfold usesN at h
  rw [Bool.and_eq_true] at h
  cases hm : n.most with
  | none => rw [hm] at h; cases h.1
  | some k => rw [hm] at h; exact ⟨k, rfl, by simpa [dOpt, isNumD] using h.1⟩
theorem src_zip {xs ys : List D} {st : Sto} : zipOf (.tuple xs) (.tuple ys) st = .ok ⟨List.zipWith pairD xs ys, fun st => always st ∧ always st⟩ st := rfl
/-- the number of a stamp -/
def numST (w : Int) (s : Stamp) : Int := s.1 * w + s.2
end
end Pv
namespace Pv
open PySem PySem.Spec L2
open PyProof.Rows hiding St signs cutD
theorem stL_all (n : Net) : ∀ (es : List Ev) (lat : Str → Option Stamp) (acc ss : List Stamp), stL n es lat acc = ss.map some → ss.length = acc.length + es.length
  | [], _, acc, ss, h => by
    unfold stL at h
    have := congrArg List.length h
    simpa using this.symm
  | e :: es, lat, acc, ss, h => by
    unfold stL at h
    split at h
    · have : (none : Option Stamp) ∈ ss.map some := by rw [← h]; simp
      simp at this
    · have := stL_all n es _ _ ss h
      simp only [List.length_append, List.length_cons, List.length_nil] at this ⊢
      omega
theorem stp_len {n : Net} {es : List Ev} {ss : List Stamp} (h : stp n es = ss.map some) : ss.length = es.length := by
  have := stL_all n es _ _ ss h
  simpa using this
theorem inR_nat {k : Nat} (h : k ≤ 100000) : inR62 (k : Int) = true := decide_eq_true ⟨by omega, by omega⟩
theorem mrng1_f {a : M} {sl : Sl} {st st1 : Sto} {x : D} (h1 : a sl st = .ok x st1) : mRng1 a sl st = fRng1 x st1 := by unfold mRng1; rw [h1]; rfl
theorem frng1_n {k : Nat} (hk : k ≤ 100000) (st : Sto) : fRng1 (.int (k : Int)) st = .ok ⟨rngD 0 k, always⟩ st := by
  have e := inR_nat hk
  show (if inR62 (k : Int) = true then R.ok (Src.mk (rngD 0 (k : Int).toNat) always) st else .bad) = _
  rw [if_pos e]
  rfl
theorem rng1_eq {a : M} {sl : Sl} {st st' : Sto} {k : Nat} (h : a sl st = .ok (.int (k : Int)) st') (hk : k ≤ 100000) : mRng1 a sl st = .ok ⟨rngD 0 k, always⟩ st' := (mrng1_f h).trans (frng1_n hk st')
theorem mul_lst {ds : List D} {k : Nat} (hk : k ≤ 1000) (hl : ds.length * k ≤ 1000) : dMulS (.list ds) (.int (k : Int)) = some (.list (List.replicate k ds).flatten) := by
  have h3 : ds.length * (k : Int).toNat ≤ sizeLine := sz_le hl
  unfold dMulS
  dsimp only
  rw [if_pos ⟨by omega, by omega, h3⟩, Int.toNat_natCast]
theorem rngD_mem {k : Nat} {d : D} (h : d ∈ rngD 0 k) : ∃ j : Nat, j < k ∧ d = .int (j : Int) := by
  unfold rngD at h
  obtain ⟨j, hj, rfl⟩ := List.mem_map.mp h
  exact ⟨j, List.mem_range.mp hj, by rw [Int.zero_add]⟩
theorem rngD_map {α : Type} (k : Nat) (f : D → α) : (rngD 0 k).map f = (List.range k).map fun (j : Nat) => f (.int (j : Int)) := by
  unfold rngD
  rw [List.map_map]
  congr 1
  funext j
  simp [Function.comp]
end Pv
set_option Elab.async false
set_option linter.all false
set_option maxRecDepth 100000
set_option maxHeartbeats 1000000
set_option pp.maxSteps 1500
namespace Pv
open PySem PySem.Spec L2
open PyProof.Rows hiding St signs cutD pairD
/-! ### sizes of runs -/
theorem Ok.tup {ds : List D} {m k c : Nat} (h : ∀ d ∈ ds, Ok d m k) (hc : ds.length ≤ c) : Ok (.tuple ds) ((m + 4) * c + 4) (k + 1) := by
  refine ⟨(layAll_iff _).mpr fun d hd => (h d hd).lay, ?_, ?_⟩
  · have h1 : wtL ds ≤ (m + 4) * ds.length := wtL_le fun d hd => (h d hd).wt
    have h2 : (m + 4) * ds.length ≤ (m + 4) * c := Nat.mul_le_mul_left _ hc
    show wtL ds + 4 ≤ _
    omega
  · show PyData.depthAll ds + 1 ≤ k + 1
    have := (depthAll_le ds k).mpr fun d hd => (h d hd).dp
    omega
theorem Ok.lst {ds : List D} {m k c : Nat} (h : ∀ d ∈ ds, Ok d m k) (hc : ds.length ≤ c) : Ok (.list ds) ((m + 4) * c + 4) (k + 1) := by
  refine ⟨(layAll_iff _).mpr fun d hd => (h d hd).lay, ?_, ?_⟩
  · have h1 : wtL ds ≤ (m + 4) * ds.length := wtL_le fun d hd => (h d hd).wt
    have h2 : (m + 4) * ds.length ≤ (m + 4) * c := Nat.mul_le_mul_left _ hc
    show wtL ds + 4 ≤ _
    omega
  · show PyData.depthAll ds + 1 ≤ k + 1
    have := (depthAll_le ds k).mpr fun d hd => (h d hd).dp
    omega
theorem ok_int {i : Int} (h : i.natAbs < 10 ^ 62) : Ok (.int i) 64 0 := ⟨rfl, by unfold Pv.wt; rw [if_pos h]; exact Nat.le_refl _, Nat.le_refl _⟩
theorem ok_str {z : Str} {c : Nat} (h : (PyData.str z).canLay0 = true) (hz : z.length ≤ c) : Ok (.str z) (10 * c + 4) 0 := ⟨h, by show 10 * z.length + 4 ≤ _; omega, Nat.le_refl _⟩
theorem ok_none : Ok .none 64 0 := ⟨rfl, by decide, Nat.le_refl _⟩
structure EvS (e : Ev) : Prop where
  lay : (PyData.str e.h).canLay0 = true
  hl : e.h.length ≤ 20
  t : e.t.natAbs < 10 ^ 60
  r : e.r.natAbs < 10 ^ 60
  l : ∀ l, e.l = some l → l < 10 ^ 60
def evSB (e : Ev) : Bool := (PyData.str e.h).canLay0 && (decide (e.h.length ≤ 20) && (decide (e.t.natAbs < 10 ^ 59) && (decide (e.r.natAbs < 10 ^ 59) && (match e.l with | none => true | some l => decide (l < 10 ^ 60)))))
theorem evS_of {e : Ev} (h : evSB e = true) {b : Int} (hb : b.natAbs < 10 ^ 59) : EvS (shE b e) := by
  unfold evSB at h
  simp only [Bool.and_eq_true, decide_eq_true_eq] at h
  obtain ⟨h1, h2, h3, h4, h5⟩ := h
  refine ⟨h1, h2, ?_, ?_, fun l hl => ?_⟩
  · show (e.t + b).natAbs < _; omega
  · show (e.r + b).natAbs < _; omega
  · have hl' : e.l = some l := hl
    rw [hl'] at h5
    simpa using h5
theorem EvS.ok {e : Ev} (h : EvS e) : Ok (dEv e) 600 1 := by
  have hl : Ok (dLet e.l) 64 0 := by
    cases hq : e.l with
    | none => exact ok_none
    | some l => have := h.l l hq; exact ok_int (by omega)
  have h1 := ok_str h.lay h.hl
  have := Ok.tup (ds := [.str e.h, .int e.t, .int e.r, dLet e.l]) (m := 140 + 64) (k := 0) (c := 4) (fun d hd => by
    simp only [List.mem_cons, List.not_mem_nil, or_false] at hd
    rcases hd with rfl | rfl | rfl | rfl
    · exact h1.mono (by decide) (Nat.le_refl _)
    · exact (ok_int (by have := h.t; omega)).mono (by decide) (Nat.le_refl _)
    · exact (ok_int (by have := h.r; omega)).mono (by decide) (Nat.le_refl _)
    · exact hl.mono (by decide) (Nat.le_refl _)) (Nat.le_refl _)
  refine ⟨this.lay, ?_, this.dp⟩
  show wtL [.str e.h, .int e.t, .int e.r, dLet e.l] + 4 ≤ 600
  have a1 := h1.wt
  have a2 := (ok_int (i := e.t) (by have := h.t; omega)).wt
  have a3 := (ok_int (i := e.r) (by have := h.r; omega)).wt
  have a4 := hl.wt
  simp only [wtL]
  omega
theorem run_ok {es : List Ev} (h : ∀ e ∈ es, EvS e) {c : Nat} (hc : es.length ≤ c) : Ok (.tuple (es.map dEv)) (604 * c + 4) 2 :=
  Ok.tup (fun d hd => by obtain ⟨e, he, rfl⟩ := List.mem_map.mp hd; exact (h e he).ok) (by rw [List.length_map]; exact hc)
theorem ok_stamp {s : Stamp} (h1 : s.1.natAbs < 10 ^ 62) (h2 : s.2.natAbs < 10 ^ 62) : Ok (dStamp s) 140 1 := by
  have := Ok.tup (ds := [.int s.1, .int s.2]) (m := 64) (k := 0) (c := 2) (fun d hd => by
    simp only [List.mem_cons, List.not_mem_nil, or_false] at hd
    rcases hd with rfl | rfl
    · exact ok_int h1
    · exact ok_int h2) (Nat.le_refl _)
  exact this
theorem stamps_ok {ss : List Stamp} (h : ∀ s ∈ ss, s.1.natAbs < 10 ^ 62 ∧ s.2.natAbs < 10 ^ 62) {c : Nat} (hc : ss.length ≤ c) : Ok (.tuple (ss.map dStamp)) (144 * c + 4) 2 :=
  Ok.tup (fun d hd => by obtain ⟨s, hs, rfl⟩ := List.mem_map.mp hd; exact ok_stamp (h s hs).1 (h s hs).2) (by rw [List.length_map]; exact hc)
theorem ints_ok {is : List Int} (h : ∀ i ∈ is, i.natAbs < 10 ^ 62) {c : Nat} (hc : is.length ≤ c) : Ok (.tuple (is.map .int)) (68 * c + 4) 1 :=
  Ok.tup (fun d hd => by obtain ⟨i, hi, rfl⟩ := List.mem_map.mp hd; exact ok_int (h i hi)) (by rw [List.length_map]; exact hc)
theorem dStampO_some (ss : List Stamp) : (ss.map some).map dStampO = ss.map dStamp := by rw [List.map_map]; rfl
end Pv
set_option Elab.async false
set_option linter.all false
set_option maxRecDepth 100000
set_option maxHeartbeats 1000000
set_option pp.maxSteps 1500
namespace Pv
open PySem PySem.Spec L2
open PyProof.Rows hiding St signs cutD pairD
/-! ### ranges -/
theorem rngD_eq (k : Nat) : rngD 0 k = (List.range k).map fun (j : Nat) => PyData.int (j : Int) := by
  unfold rngD
  apply List.map_congr_left
  intro j _
  rw [Int.zero_add]
theorem rngD_from (a n : Nat) : rngD (a : Int) n = (List.range' a n).map fun (j : Nat) => PyData.int (j : Int) := by
  unfold rngD
  rw [List.range'_eq_map_range, List.map_map]
  apply List.map_congr_left
  intro j _
  show PyData.int ((a : Int) + (j : Int)) = PyData.int ((a + j : Nat) : Int)
  rw [Int.natCast_add]
theorem mrng2_f {a b : M} {sl : Sl} {st st1 st2 : Sto} {x y : D} (h1 : a sl st = .ok x st1) (h2 : b sl st1 = .ok y st2) : mRng2 a b sl st = fRng2 x y st2 := by
  unfold mRng2; rw [h1]; show (b sl st1).bind _ = _; rw [h2]; rfl
theorem frng2_n {i j : Nat} (hi : i ≤ 100000) (hj : j ≤ 100000) (st : Sto) : fRng2 (.int (i : Int)) (.int (j : Int)) st = .ok ⟨rngD (i : Int) (j - i), always⟩ st := by
  have e1 := inR_nat hi
  have e2 := inR_nat hj
  show (if inR62 (i : Int) = true ∧ inR62 (j : Int) = true then R.ok (Src.mk (rngD (i : Int) ((j : Int) - (i : Int)).toNat) always) st else .bad) = _
  rw [if_pos ⟨e1, e2⟩, show ((j : Int) - (i : Int)).toNat = j - i by omega]
/-- range(a, b), as numbers -/
theorem rng2_at {a b : M} {sl : Sl} {st st1 st2 : Sto} {i j : Nat} (h1 : a sl st = .ok (.int (i : Int)) st1) (h2 : b sl st1 = .ok (.int (j : Int)) st2) (hi : i ≤ 100000) (hj : j ≤ 100000) : mRng2 a b sl st = .ok ⟨(List.range' i (j - i)).map fun (k : Nat) => PyData.int (k : Int), always⟩ st2 := by
  rw [mrng2_f h1 h2, frng2_n hi hj, rngD_from]
theorem rng1_at {a : M} {sl : Sl} {st st' : Sto} {k : Nat} (h : a sl st = .ok (.int (k : Int)) st') (hk : k ≤ 100000) : mRng1 a sl st = .ok ⟨(List.range k).map fun (j : Nat) => PyData.int (j : Int), always⟩ st' := by
  rw [rng1_eq h hk, rngD_eq]
theorem ix_lastL {ds : List D} {d : D} {st : Sto} (h : ds.getLast? = some d) : fIx (.list ds) (.int (-1)) st = .ok d st := by
  have hne : ds ≠ [] := by intro e; subst e; cases h
  have hp : 0 < ds.length := List.length_pos_iff.mpr hne
  have e : dIx (.list ds) (.int (-1)) = some d := by
    show atI ds (-1) = _
    unfold atI ixN
    rw [if_neg (by omega), if_pos (by omega)]
    rw [List.getLast?_eq_getElem?] at h
    simp only [Option.bind_some]
    rw [← h]
    congr 1
    omega
  unfold fIx dlook
  simp [e]
theorem ints_layD (l : List Nat) : PyData.canLayAll0 (l.map fun (j : Nat) => PyData.int (j : Int)) = true := (layAll_iff _).mpr fun d hd => by obtain ⟨j, _, rfl⟩ := List.mem_map.mp hd; rfl
theorem ints_depth (l : List Nat) : PyData.depthAll (l.map fun (j : Nat) => PyData.int (j : Int)) ≤ 0 := (depthAll_le _ _).mpr fun d hd => by obtain ⟨j, _, rfl⟩ := List.mem_map.mp hd; exact Nat.le_refl _
theorem eqv_int (i j : Int) : PyData.eqv (.int i) (.int j) = decide (i = j) := rfl
def memN (f : List Nat) (j : Nat) : Bool := f.contains j
theorem any_ints (l : List Nat) (j : Nat) : ((l.map fun (i : Nat) => PyData.int (i : Int)).any fun z => PyData.eqv z (.int (j : Int))) = memN l j := by
  unfold memN
  rw [List.any_map]
  induction l with
  | nil => rfl
  | cons a l ih =>
    rw [List.any_cons, ih, List.contains_cons]
    congr 1
    show decide ((a : Int) = (j : Int)) = (j == a)
    by_cases h : j = a
    · subst h; simp
    · have : ¬ ((a : Int) = (j : Int)) := by omega
      simp [h, this]
/-- in, of a list of whole numbers -/
theorem in_ints (l : List Nat) (j : Nat) : dCmp .In (.int (j : Int)) (.list (l.map fun (i : Nat) => PyData.int (i : Int))) = some (.bool (memN l j)) := by
  rw [in_lst rfl (ints_layD l) (by have := ints_depth l; show min _ 0 ≤ 64; omega), any_ints]
theorem sl_fromL {ds : List D} {j : Nat} {st : Sto} : fSl (some (j : Int)) none (.list ds) st = .ok (.list (ds.drop j)) st := by
  show R.ok (PyData.list (cutD ds (some (j : Int)) none)) st = _
  rw [cut_from]
theorem sl_fromR {ds : List D} {j : Nat} {st : Sto} : fSl (some (j : Int)) none (Rf st.length) (st ++ [.lst ds]) = .ok (.list (ds.drop j)) (st ++ [.lst ds]) := by
  unfold fSl
  simp only [Int.toNat_natCast]
  rw [List.getElem?_append_right (Nat.le_refl _)]
  simp only [Nat.sub_self, List.getElem?_cons_zero]
  rw [cut_from]
/-! ### what comes of an event -/
def sameH (es : List Ev) (j k : Nat) : Bool := match es[j]?, es[k]? with | some p, some e => p.h == e.h | _, _ => false
def lastBy (es : List Ev) (k : Nat) : Option Nat := ((List.range k).filter fun j => sameH es j k).getLast?
def causes (es : List Ev) (k : Nat) : List Nat := (lastBy es k).toList ++ (match es[k]? with | some e => e.l.toList | none => [])
def bhL (es : List Ev) : List Nat → List Nat → List Nat
  | [], f => f
  | l :: ls, f => bhL es ls (if (causes es l).any (memN f) = true then f ++ [l] else f)
def behind (es : List Ev) (k : Nat) : List Nat := (bhL es (List.range' (k + 1) (es.length - (k + 1))) [k]).drop 1
theorem sameH_sh (b : Int) (es : List Ev) (j k : Nat) : sameH (es.map (shE b)) j k = sameH es j k := by
  unfold sameH
  rw [List.getElem?_map, List.getElem?_map]
  cases es[j]? <;> cases es[k]? <;> rfl
theorem lastBy_sh (b : Int) (es : List Ev) (k : Nat) : lastBy (es.map (shE b)) k = lastBy es k := by
  unfold lastBy
  simp only [sameH_sh]
theorem causes_sh (b : Int) (es : List Ev) (k : Nat) : causes (es.map (shE b)) k = causes es k := by
  unfold causes
  rw [lastBy_sh, List.getElem?_map]
  cases es[k]? <;> rfl
theorem bhL_sh (b : Int) (es : List Ev) : ∀ (ls f : List Nat), bhL (es.map (shE b)) ls f = bhL es ls f
  | [], _ => rfl
  | l :: ls, f => by unfold bhL; rw [causes_sh, bhL_sh b es ls]
theorem behind_sh (b : Int) (es : List Ev) (k : Nat) : behind (es.map (shE b)) k = behind es k := by
  unfold behind
  rw [bhL_sh, List.length_map]
theorem bhL_len (es : List Ev) : ∀ (ls f : List Nat), (bhL es ls f).length ≤ f.length + ls.length
  | [], f => Nat.le_refl _
  | l :: ls, f => by
    unfold bhL
    have h1 := bhL_len es ls f
    have h2 := bhL_len es ls (f ++ [l])
    simp only [List.length_append, List.length_cons, List.length_nil] at h2 ⊢
    split <;> omega
end Pv
namespace Pv
open PySem PySem.Spec L2
open PyProof.Rows hiding St signs cutD pairD
/-- the thing is an index of a list of that length -/
def isIdx (n : Nat) : D → Bool
  | .int i => decide (0 ≤ i) && decide (i < (n : Int))
  | _ => false
theorem idx_no {n : Nat} {i : Int} (h : i < 0 ∨ (n : Int) ≤ i) : isIdx n (.int i) = false := by
  show (decide (0 ≤ i) && decide (i < (n : Int))) = false
  rcases h with h | h
  · rw [decide_eq_false (by omega)]; rfl
  · rw [decide_eq_false (p := i < (n : Int)) (by omega), Bool.and_false]
/-! ### sorting that can be reckoned -/
section
variable {α : Type} {le : α → α → Bool}
def insB (le : α → α → Bool) (a : α) : List α → List α
  | [] => [a]
  | b :: l => if le a b = true then a :: b :: l else b :: insB le a l
def isortB (le : α → α → Bool) : List α → List α
  | [] => []
  | a :: l => insB le a (isortB le l)
theorem insB_mem (a x : α) : ∀ l : List α, x ∈ insB le a l ↔ x = a ∨ x ∈ l
  | [] => by simp [insB]
  | b :: l => by
    unfold insB
    split
    · simp
    · simp only [List.mem_cons, insB_mem a x l]
      constructor
      · rintro (h | h | h)
        · exact .inr (.inl h)
        · exact .inl h
        · exact .inr (.inr h)
      · rintro (h | h | h)
        · exact .inr (.inl h)
        · exact .inl h
        · exact .inr (.inr h)
theorem insB_sorted (h : PySem.W.TotalLe le) (a : α) : ∀ l : List α, l.Pairwise (fun a b => le a b = true) → (insB le a l).Pairwise (fun a b => le a b = true)
  | [], _ => by simp [insB]
  | b :: l, hp => by
    obtain ⟨h1, h2⟩ := List.pairwise_cons.mp hp
    unfold insB
    split
    · rename_i hab
      refine List.pairwise_cons.mpr ⟨fun x hx => ?_, hp⟩
      rcases List.mem_cons.mp hx with e | e
      · subst e; exact hab
      · exact h.trans _ _ _ hab (h1 x e)
    · rename_i hab
      refine List.pairwise_cons.mpr ⟨fun x hx => ?_, insB_sorted h a l h2⟩
      rcases (insB_mem a x l).mp hx with e | e
      · subst e; exact (h.total b x).resolve_right hab
      · exact h1 x e
theorem isortB_sorted (h : PySem.W.TotalLe le) : ∀ l : List α, (isortB le l).Pairwise (fun a b => le a b = true)
  | [] => List.Pairwise.nil
  | a :: l => insB_sorted h a _ (isortB_sorted h l)
theorem insB_rank (h : PySem.W.TotalLe le) (c a : α) : ∀ l : List α, (insB le a l).filter (PySem.W.sameRank le c) = (a :: l).filter (PySem.W.sameRank le c)
  | [] => rfl
  | b :: l => by
    unfold insB
    split
    · rfl
    · rename_i hab
      have ih := insB_rank h c a l
      by_cases hb : PySem.W.sameRank le c b = true
      · have ha : ¬ PySem.W.sameRank le c a = true := fun ha => by
          unfold PySem.W.sameRank at ha hb
          rw [Bool.and_eq_true] at ha hb
          exact hab (h.trans _ _ _ ha.2 hb.1)
        rw [List.filter_cons_of_pos hb, ih, List.filter_cons_of_neg ha, List.filter_cons_of_neg ha, List.filter_cons_of_pos hb]
      · rw [List.filter_cons_of_neg hb, ih]
        by_cases ha : PySem.W.sameRank le c a = true
        · rw [List.filter_cons_of_pos ha, List.filter_cons_of_pos ha, List.filter_cons_of_neg hb]
        · rw [List.filter_cons_of_neg ha, List.filter_cons_of_neg ha, List.filter_cons_of_neg hb]
theorem isortB_rank (h : PySem.W.TotalLe le) (c : α) : ∀ l : List α, (isortB le l).filter (PySem.W.sameRank le c) = l.filter (PySem.W.sameRank le c)
  | [] => rfl
  | a :: l => by
    unfold isortB
    rw [insB_rank h c a]
    by_cases ha : PySem.W.sameRank le c a = true
    · rw [List.filter_cons_of_pos ha, List.filter_cons_of_pos ha, isortB_rank h c l]
    · rw [List.filter_cons_of_neg ha, List.filter_cons_of_neg ha, isortB_rank h c l]
theorem isortB_eq (h : PySem.W.TotalLe le) (l : List α) : isortB le l = l.mergeSort le := PySem.W.sort_unique h (isortB_sorted h l) fun c => isortB_rank h c l
theorem TotalLe.on {β : Type} {le : β → β → Bool} (h : PySem.W.TotalLe le) (f : α → β) : PySem.W.TotalLe fun a b => le (f a) (f b) := ⟨fun a b c => h.trans _ _ _, fun a b => h.total _ _⟩
end
theorem dLe_total : PySem.W.TotalLe dLe := PySem.W.sortLe_total (PyProof.Rows.listOrd PyProof.Rows.itemOrd) false fun b => PySem.W.keyToks (id b)
/-! ### the told order -/
def rowK (ss : List Stamp) (es : List Ev) (k : Nat) : D := .tuple [dStamp (ss.getD k (0, 0)), .str (match es[k]? with | some e => e.h | none => ""), .int (k : Int)]
def ordOf (ss : List Stamp) (es : List Ev) : List Nat := (List.range es.length).mergeSort fun i j => dLe (rowK ss es i) (rowK ss es j)
def ordI (ss : List Stamp) (es : List Ev) : List Nat := isortB (fun i j => dLe (rowK ss es i) (rowK ss es j)) (List.range es.length)
theorem ordI_eq (ss : List Stamp) (es : List Ev) : ordI ss es = ordOf ss es := isortB_eq (TotalLe.on dLe_total _) _
theorem sort_rows (ss : List Stamp) (es : List Ev) : sortD ((List.range es.length).map (rowK ss es)) = (ordOf ss es).map (rowK ss es) := (PySem.W.sort_maps (rowK ss es) fun _ _ _ _ => rfl).symm
theorem row_srt (ss : List Stamp) (es : List Ev) (hl : es.length ≤ 1000) (hc : ∀ e ∈ es, (PyData.str e.h).canLay0 = true) : srtOk ((List.range es.length).map (rowK ss es)) = true := by
  unfold srtOk
  rw [Bool.and_eq_true, Bool.and_eq_true, Bool.and_eq_true, Bool.and_eq_true]
  refine ⟨List.all_eq_true.mpr fun d hd => List.all_eq_true.mpr fun e he => ?_, ?_, (layAll_iff _).mpr fun d hd => ?_, decide_eq_true ((depthAll_le _ _).mpr fun d hd => ?_), decide_eq_true (sz_le (by rw [List.length_map, List.length_range]; exact hl))⟩
  · obtain ⟨i, _, rfl⟩ := List.mem_map.mp hd
    obtain ⟨j, _, rfl⟩ := List.mem_map.mp he
    rfl
  · rw [Bool.or_eq_true]
    refine .inl (List.all_eq_true.mpr fun d hd => ?_)
    obtain ⟨i, _, rfl⟩ := List.mem_map.mp hd
    rfl
  · obtain ⟨i, hi, rfl⟩ := List.mem_map.mp hd
    have hi' := List.mem_range.mp hi
    show (true && ((PyData.str (match es[i]? with | some e => e.h | none => "")).canLay0 && true)) = true
    rw [List.getElem?_eq_getElem hi']
    simp only
    rw [hc _ (List.getElem_mem hi')]; rfl
  · obtain ⟨i, _, rfl⟩ := List.mem_map.mp hd
    show max 1 (max 0 (max 0 0)) + 1 ≤ 64
    decide
theorem ord_mem {ss : List Stamp} {es : List Ev} {k : Nat} (h : k ∈ ordOf ss es) : k < es.length := List.mem_range.mp ((List.mergeSort_perm _ _).mem_iff.mp h)
theorem ord_len (ss : List Stamp) (es : List Ev) : (ordOf ss es).length = es.length := by unfold ordOf; rw [List.length_mergeSort, List.length_range]
theorem dLe_row (b : Int) (m c m' c' k k' : Int) (h h' : Str) : dLe (.tuple [.tuple [.int (m + b), .int c], .str h, .int k]) (.tuple [.tuple [.int (m' + b), .int c'], .str h', .int k']) = dLe (.tuple [.tuple [.int m, .int c], .str h, .int k]) (.tuple [.tuple [.int m', .int c'], .str h', .int k']) := by
  have key : ∀ r t : List (Int ⊕ List Nat), PyProof.Rows.lexLt PyProof.Rows.itemOrd (.inl 1 :: .inl 1 :: .inl (m' + b) :: r) (.inl 1 :: .inl 1 :: .inl (m + b) :: t) = PyProof.Rows.lexLt PyProof.Rows.itemOrd (.inl 1 :: .inl 1 :: .inl m' :: r) (.inl 1 :: .inl 1 :: .inl m :: t) := by
    intro r t
    rw [PyProof.Rows.lex_self, PyProof.Rows.lex_self, PyProof.Rows.lex_self, PyProof.Rows.lex_self, PyProof.Rows.lex_cons, PyProof.Rows.lex_cons]
    have h1 : PyProof.Rows.itemOrd.blt (.inl (m' + b)) (.inl (m + b)) = PyProof.Rows.itemOrd.blt (.inl m') (.inl m) := by
      show decide (m' + b < m + b) = decide (m' < m)
      congr 1; apply propext; omega
    have h2 : PyProof.Rows.itemOrd.blt (.inl (m + b)) (.inl (m' + b)) = PyProof.Rows.itemOrd.blt (.inl m) (.inl m') := by
      show decide (m + b < m' + b) = decide (m < m')
      congr 1; apply propext; omega
    rw [h1, h2]
  show (!PyProof.Rows.lexLt PyProof.Rows.itemOrd _ _) = (!PyProof.Rows.lexLt PyProof.Rows.itemOrd _ _)
  congr 1
  exact key _ _
theorem ordOf_sh (b : Int) (ss : List Stamp) (es : List Ev) (hl : ss.length = es.length) : ordOf (ss.map (shS b)) (es.map (shE b)) = ordOf ss es := by
  unfold ordOf
  rw [List.length_map]
  refine PySem.W.sort_congr fun i hi j hj => ?_
  have hi' := List.mem_range.mp hi
  have hj' := List.mem_range.mp hj
  have e : ∀ k, k < es.length → rowK (ss.map (shS b)) (es.map (shE b)) k = .tuple [.tuple [.int ((ss.getD k (0, 0)).1 + b), .int (ss.getD k (0, 0)).2], .str (match es[k]? with | some e => e.h | none => ""), .int (k : Int)] := by
    intro k hk
    unfold rowK
    rw [List.getD_eq_getElem?_getD, List.getD_eq_getElem?_getD, List.getElem?_map, List.getElem?_map, List.getElem?_eq_getElem hk, List.getElem?_eq_getElem (show k < ss.length by omega)]
    rfl
  rw [e i hi', e j hj', dLe_row]
  rfl
end Pv
set_option Elab.async false
set_option linter.all false
set_option maxRecDepth 100000
set_option maxHeartbeats 1000000
set_option pp.maxSteps 1500
namespace Pv
open PySem PySem.Spec L2
open PyProof.Rows hiding St signs cutD pairD
/-! ### loops and comprehensions that draw -/
theorem forL_invK {keep : Sto → Prop} [DecidablePred keep] {tg : MG} {body : MS} {fg : List Nat} (I : Nat → Sl → Sto → Prop) (hk : ∀ st, keep st) : ∀ {ds : List D} {k : Nat} {sl : Sl} {st : Sto}, I k sl st →
    (∀ (j : Nat) (d : D) (sl : Sl) (st : Sto), ds[j]? = some d → I (k + j) sl st → ∃ sl' st', (tg d sl st).thenS body = .nx sl' st' ∧ I (k + j + 1) (wipeD sl' fg) st') → ∃ sl' st', forL keep tg body fg ds sl st = .nx sl' st' ∧ I (k + ds.length) sl' st'
  | [], k, sl, st, h, _ => ⟨sl, st, by unfold forL; rw [if_pos (hk st)], h⟩
  | d :: ds, k, sl, st, h, hs => by
    obtain ⟨sl', st', e, i⟩ := hs 0 d sl st rfl h
    obtain ⟨sl2, st2, e2, i2⟩ := forL_invK I hk (ds := ds) (k := k + 1) i fun j x sl st hx hi => by
      have := hs (j + 1) x sl st hx (by rw [show k + (j + 1) = k + 1 + j by omega]; exact hi)
      rw [show k + (j + 1) + 1 = k + 1 + j + 1 by omega] at this
      exact this
    refine ⟨sl2, st2, ?_, by rw [List.length_cons, show k + (ds.length + 1) = k + 1 + ds.length by omega]; exact i2⟩
    unfold forL
    rw [if_pos (hk st), e]
    exact e2
section
variable {α : Type} {keep : Sto → Prop} [DecidablePred keep] {t : CT} {tt : MT} {te : M} {mi : MI} {vs : List Nat} {sl : Sl} {st : Sto}
theorem lcL_inv (I : Sto → Prop) (g f : α → D) (hk : ∀ st, keep st) : ∀ (xs : List α) {st : Sto}, I st →
    (∀ x ∈ xs, ∀ st, I st → ∃ sl2 b st1, ctSet t (g x) sl = some sl2 ∧ tt sl2 st = .ok b st1 ∧ I st1 ∧ (b = true → te sl2 st1 = .ok (f x) st1)) →
    ∃ (zs : List α) (st' : Sto), lcL keep t tt te sl (xs.map g) st = .ok (zs.map f) st' ∧ zs.Sublist xs ∧ I st'
  | [], st, hi, _ => ⟨[], st, by rw [List.map_nil]; unfold lcL; rw [if_pos (hk st)]; rfl, List.Sublist.slnil, hi⟩
  | x :: xs, st, hi, h => by
    obtain ⟨sl2, b, st1, h1, h2, h3, h4⟩ := h x List.mem_cons_self st hi
    obtain ⟨zs, st', e, s, i⟩ := lcL_inv I g f hk xs h3 fun y hy => h y (List.mem_cons_of_mem _ hy)
    rw [List.map_cons]
    cases b with
    | true =>
      refine ⟨x :: zs, st', ?_, s.cons_cons x, i⟩
      unfold lcL
      rw [if_pos (hk st), h1]
      simp only [h2, h4 rfl, e, List.map_cons]
    | false =>
      refine ⟨zs, st', ?_, s.cons x, i⟩
      unfold lcL
      rw [if_pos (hk st), h1]
      simp only [h2, e]
theorem mLc_inv (I : Sto → Prop) (xs : List α) (g f : α → D) (hi : mi sl st = .ok ⟨xs.map g, keep⟩ st) (hk : ∀ st, keep st) (hz : xs.length ≤ 1000) (h0 : I st)
    (h : ∀ x ∈ xs, ∀ st, I st → ∃ sl2 b st1, ctSet t (g x) (wipeD sl vs) = some sl2 ∧ tt sl2 st = .ok b st1 ∧ I st1 ∧ (b = true → te sl2 st1 = .ok (f x) st1)) :
    ∃ (zs : List α) (st' : Sto), mLc mi t tt te vs sl st = .ok (.list (zs.map f)) st' ∧ zs.Sublist xs ∧ I st' := by
  obtain ⟨zs, st', e, s, i⟩ := lcL_inv (sl := wipeD sl vs) (t := t) (tt := tt) (te := te) I g f hk xs h0 h
  refine ⟨zs, st', ?_, s, i⟩
  unfold mLc lcR
  rw [hi]
  simp only [R.bind_ok, e]
  rw [if_pos]
  · rfl
  · rw [List.length_map]; exact Nat.le_trans s.length_le (sz_le hz)
end
/-! ### drawn clusters -/
structure HostD (x : Host) : Prop where
  s0 : 0 ≤ x.s
  s1 : x.s ≤ 60
  f0 : 0 ≤ x.f
  f1 : x.f ≤ 60
  r0 : 1 ≤ x.r
  r1 : x.r ≤ 4
abbrev Road := Str × Str × Int
structure RoadsD (ts : List Str) (k : Nat) (rs : List Road) : Prop where
  mem : ∀ r ∈ rs, r.1 ∈ ts.take k ∧ r.2.1 ∈ ts ∧ r.1 ≠ r.2.1 ∧ 0 ≤ r.2.2 ∧ r.2.2 ≤ 60
  nd : (rs.map fun r => (r.1, r.2.1)).Nodup
  len : rs.length ≤ 4 * k
def poolsS : List (List Str) := [["a", "b", "c", "d"], ["amy", "bob", "cid", "dan"], ["x", "xx", "y", "yx"], ["host", "most", "road", "rule"]]
structure NetD (n : Net) : Prop where
  ts : ∃ p ∈ poolsS, (n.hosts.map (·.n)).Sublist p
  ne : n.hosts ≠ []
  hosts : ∀ x ∈ n.hosts, HostD x
  roads : RoadsD (n.hosts.map (·.n)) n.hosts.length n.roads
  most : ∀ k, n.most = some k → 0 ≤ k ∧ k ≤ 2000
  rule : n.rule = "more" ∨ n.rule = "wait"
  none : n.most = none → n.rule = "wait"
theorem pool_all : ∀ p ∈ poolsS, p.length = 4 ∧ p.Nodup ∧ ∀ x ∈ p, (PyData.str x).canLay0 = true ∧ x.length ≤ 4 := by decide +kernel
theorem NetD.names {n : Net} (h : NetD n) : (n.hosts.map (·.n)).Nodup ∧ n.hosts.length ≤ 4 ∧ ∀ x ∈ n.hosts, (PyData.str x.n).canLay0 = true ∧ x.n.length ≤ 4 := by
  obtain ⟨p, hp, hs⟩ := h.ts
  obtain ⟨h1, h2, h3⟩ := pool_all p hp
  refine ⟨h2.sublist hs, ?_, fun x hx => h3 _ (hs.subset (List.mem_map.mpr ⟨x, hx, rfl⟩))⟩
  have := hs.length_le
  rw [List.length_map] at this
  omega
theorem NetD.ok {n : Net} (h : NetD n) : NetOk n := by
  obtain ⟨h1, h2, h3⟩ := h.names
  have hm : ∀ a ∈ n.hosts.map (·.n), (PyData.str a).canLay0 = true := fun a ha => by
    obtain ⟨x, hx, rfl⟩ := List.mem_map.mp ha
    exact (h3 x hx).1
  refine ⟨by omega, by have := h.roads.len; omega, fun x hx => ⟨by have := (h3 x hx).2; omega, (h3 x hx).1⟩, fun r hr => ?_⟩
  obtain ⟨a, b, _⟩ := h.roads.mem r hr
  exact ⟨hm _ (List.mem_of_mem_take a), hm _ b⟩
theorem NetD.sized {n : Net} (h : NetD n) : Ok (dNet n) (2 ^ 14) 4 := by
  obtain ⟨h1, h2, h3⟩ := h.names
  have hm : ∀ a ∈ n.hosts.map (·.n), (PyData.str a).canLay0 = true ∧ a.length ≤ 4 := fun a ha => by
    obtain ⟨x, hx, rfl⟩ := List.mem_map.mp ha
    exact h3 x hx
  have oh : ∀ x ∈ n.hosts, Ok (dHost x) 300 1 := fun x hx => by
    have hd := h.hosts x hx
    have := Ok.tup (ds := [.str x.n, .int x.s, .int x.f, .int x.r]) (m := 64) (k := 0) (c := 4) (fun d hd2 => by
      simp only [List.mem_cons, List.not_mem_nil, or_false] at hd2
      rcases hd2 with rfl | rfl | rfl | rfl
      · exact (ok_str (h3 x hx).1 (h3 x hx).2).mono (by decide) (Nat.le_refl _)
      · exact ok_int (by have := hd.s0; have := hd.s1; omega)
      · exact ok_int (by have := hd.f0; have := hd.f1; omega)
      · exact ok_int (by have := hd.r0; have := hd.r1; omega)) (Nat.le_refl _)
    exact this.mono (by decide) (Nat.le_refl _)
  have or_ : ∀ r ∈ n.roads, Ok (dRoad r) 300 1 := fun r hr => by
    obtain ⟨a, b, c, d0, d1⟩ := h.roads.mem r hr
    have := Ok.tup (ds := [.str r.1, .str r.2.1, .int r.2.2]) (m := 64) (k := 0) (c := 3) (fun d hd2 => by
      simp only [List.mem_cons, List.not_mem_nil, or_false] at hd2
      rcases hd2 with rfl | rfl | rfl
      · have := hm _ (List.mem_of_mem_take a); exact (ok_str this.1 this.2).mono (by decide) (Nat.le_refl _)
      · have := hm _ b; exact (ok_str this.1 this.2).mono (by decide) (Nat.le_refl _)
      · exact ok_int (by omega)) (Nat.le_refl _)
    exact this.mono (by decide) (Nat.le_refl _)
  have o1 := Ok.tup (ds := n.hosts.map dHost) (m := 300) (k := 1) (c := 4) (fun d hd => by obtain ⟨x, hx, rfl⟩ := List.mem_map.mp hd; exact oh x hx) (by rw [List.length_map]; exact h2)
  have o2 := Ok.tup (ds := n.roads.map dRoad) (m := 300) (k := 1) (c := 16) (fun d hd => by obtain ⟨x, hx, rfl⟩ := List.mem_map.mp hd; exact or_ x hx) (by rw [List.length_map]; have := h.roads.len; omega)
  have o3 : Ok (dOpt n.most) 64 0 := by
    cases hm : n.most with
    | none => exact ok_none
    | some k => have := h.most k hm; exact ok_int (by omega)
  have o4 : Ok (.str n.rule) 64 0 := by rcases h.rule with e | e <;> rw [e] <;> exact (ok_str (c := 6) (by decide +kernel) (by decide)).mono (by decide) (Nat.le_refl _)
  have := Ok.tup (ds := [.tuple (n.hosts.map dHost), .tuple (n.roads.map dRoad), dOpt n.most, .str n.rule]) (m := 5000) (k := 2) (c := 3 + 1) (fun d hd => by
    simp only [List.mem_cons, List.not_mem_nil, or_false] at hd
    rcases hd with rfl | rfl | rfl | rfl
    · exact o1.mono (by decide) (by decide)
    · exact o2.mono (by decide) (by decide)
    · exact o3.mono (by decide) (by decide)
    · exact o4.mono (by decide) (by decide)) (Nat.le_refl _)
  refine ⟨this.lay, ?_, Nat.le_trans this.dp (by decide)⟩
  have w1 := o1.wt; have w2 := o2.wt; have w3 := o3.wt; have w4 := o4.wt
  show wtL [.tuple (n.hosts.map dHost), .tuple (n.roads.map dRoad), dOpt n.most, .str n.rule] + 4 ≤ 2 ^ 14
  simp only [wtL]
  omega
end Pv
set_option Elab.async false
set_option linter.all false
set_option maxRecDepth 100000
set_option maxHeartbeats 1000000
set_option pp.maxSteps 1500
namespace Pv
open PySem PySem.Spec L2
open PyProof.Rows hiding St signs cutD pairD
/-! ### one event more -/
def nstK (n : Net) (ks : List Stamp) (rd : Int) : Option Stamp :=
  let m := mark ks rd
  if m < rd then some (rd, 0) else
    let c := 1 + (maxI ((ks.filter fun s => decide (s.1 = m)).map (·.2))).getD 0
    if (match n.most with | none => true | some k => decide (c ≤ k)) = true then some (m, c) else if n.rule == "more" then some (m + 1, 0) else none
theorem nst_K (n : Net) (a b : Option Stamp) (rd : Int) : nst n a b rd = nstK n (known a b) rd := rfl
def lastIdx (es : List Ev) (h : Str) : Option Nat := ((List.range es.length).filter fun j => (es[j]?.map (·.h)) == some h).getLast?
theorem lastIdx_lt {es : List Ev} {h : Str} {j : Nat} (e : lastIdx es h = some j) : j < es.length ∧ es[j]?.map (·.h) = some h := by
  unfold lastIdx at e
  obtain ⟨a, b⟩ := List.mem_filter.mp (List.mem_of_getLast? e)
  exact ⟨List.mem_range.mp a, by simpa using b⟩
theorem lastIdx_nil (h : Str) : lastIdx [] h = none := rfl
theorem lastIdx_cons (e : Ev) (es : List Ev) (h : Str) : lastIdx (e :: es) h = (match lastIdx es h with | some j => some (j + 1) | none => if e.h = h then some 0 else none) := by
  unfold lastIdx
  rw [List.length_cons, List.range_succ_eq_map, List.filter_cons, List.filter_map]
  have e1 : ((fun j => ((e :: es)[j]?.map (·.h)) == some h) ∘ Nat.succ) = fun j => (es[j]?.map (·.h)) == some h := rfl
  rw [e1]
  generalize (List.range es.length).filter (fun j => (es[j]?.map (·.h)) == some h) = l
  cases hg : l.getLast? with
  | none =>
    have : l = [] := List.getLast?_eq_none_iff.mp hg
    subst this
    by_cases he : e.h = h
    · simp [he]
    · simp [he]
  | some j =>
    have hm : (l.map Nat.succ).getLast? = some (j + 1) := by rw [List.getLast?_map, hg]; rfl
    have hne : l.map Nat.succ ≠ [] := fun z => by rw [z] at hm; cases hm
    split
    · rw [List.getLast?_cons, hm]; rfl
    · exact hm
theorem lastIdx_snoc (run : List Ev) (e : Ev) : lastBy (run ++ [e]) run.length = lastIdx run e.h := by
  unfold lastBy lastIdx
  congr 1
  refine List.filter_congr fun j hj => ?_
  have hj' := List.mem_range.mp hj
  unfold sameH
  rw [List.getElem?_append_left hj', List.getElem?_append_right (Nat.le_refl _), Nat.sub_self]
  rw [List.getElem?_eq_getElem hj']
  rfl
theorem stL_pre (n : Net) : ∀ (es : List Ev) (lat : Str → Option Stamp) (acc ss : List Stamp), stL n es lat acc = ss.map some → ∃ t, ss = acc ++ t
  | [], _, acc, ss, h => by
    unfold stL at h
    refine ⟨[], ?_⟩
    have : ss = acc := (List.map_inj_right fun a b h => Option.some.inj h).mp h.symm
    simpa using this
  | e :: es, lat, acc, ss, h => by
    unfold stL at h
    split at h
    · have : (none : Option Stamp) ∈ ss.map some := by rw [← h]; simp
      simp at this
    · rename_i s _
      obtain ⟨t, ht⟩ := stL_pre n es _ _ ss h
      exact ⟨s :: t, by rw [ht]; simp⟩
theorem stL_snoc (n : Net) (e : Ev) : ∀ (es : List Ev) (lat : Str → Option Stamp) (acc ss : List Stamp), stL n es lat acc = ss.map some →
    ∃ lat' : Str → Option Stamp, stL n (es ++ [e]) lat acc = (match nst n (lat' e.h) (e.l.bind fun l => ss[l]?) e.r with | none => ss.map some ++ [none] | some s => (ss ++ [s]).map some) ∧
      ∀ h, lat' h = (match lastIdx es h with | some j => ss[acc.length + j]? | none => lat h)
  | [], lat, acc, ss, h => by
    unfold stL at h
    have : ss = acc := (List.map_inj_right fun a b h => Option.some.inj h).mp h.symm
    subst this
    refine ⟨lat, ?_, fun h => rfl⟩
    rw [List.nil_append]
    unfold stL
    cases nst n (lat e.h) (e.l.bind fun l => ss[l]?) e.r with
    | none => rfl
    | some s => rfl
  | e0 :: es, lat, acc, ss, h => by
    unfold stL at h
    split at h
    · have : (none : Option Stamp) ∈ ss.map some := by rw [← h]; simp
      simp at this
    · rename_i s0 h0
      obtain ⟨t, ht⟩ := stL_pre n es _ _ ss h
      obtain ⟨lat', q1, q2⟩ := stL_snoc n e es _ _ ss h
      refine ⟨lat', ?_, fun x => ?_⟩
      · rw [List.cons_append]
        conv => lhs; unfold stL
        rw [h0]
        exact q1
      · rw [q2 x, lastIdx_cons]
        cases hx : lastIdx es x with
        | some j =>
          simp only
          rw [List.length_append, List.length_cons, List.length_nil, show acc.length + (0 + 1) + j = acc.length + (j + 1) by omega]
        | none =>
          simp only
          by_cases he : x = e0.h
          · subst he
            rw [if_pos rfl, if_pos rfl]
            simp only
            rw [ht, Nat.add_zero]
            simp
          · rw [if_neg he, if_neg (fun z => he z.symm)]
/-- the stamps with one event more, as a law reckons it -/
theorem stp_snoc {n : Net} {run : List Ev} {ss : List Stamp} (h : stp n run = ss.map some) (e : Ev) (hl : ∀ l, e.l = some l → l < run.length) :
    stp n (run ++ [e]) = (match nstK n ((causes (run ++ [e]) run.length).map fun j => ss.getD j (0, 0)) e.r with | none => ss.map some ++ [none] | some s => (ss ++ [s]).map some) := by
  obtain ⟨lat', q1, q2⟩ := stL_snoc n e run (fun _ => none) [] ss h
  have slen := stp_len h
  have hc : causes (run ++ [e]) run.length = (lastIdx run e.h).toList ++ e.l.toList := by
    unfold causes
    rw [lastIdx_snoc, List.getElem?_append_right (Nat.le_refl _), Nat.sub_self]
    rfl
  have hk : (causes (run ++ [e]) run.length).map (fun j => ss.getD j (0, 0)) = known (lat' e.h) (e.l.bind fun l => ss[l]?) := by
    rw [hc, q2 e.h]
    unfold known
    rw [List.map_append]
    congr 1
    · cases hx : lastIdx run e.h with
      | none => rfl
      | some j =>
        have hj := (lastIdx_lt hx).1
        have e1 : ss[j]? = some ss[j] := List.getElem?_eq_getElem (by omega)
        simp [e1]
    · cases hx : e.l with
      | none => rfl
      | some l =>
        have hj := hl l hx
        have e1 : ss[l]? = some ss[l] := List.getElem?_eq_getElem (by omega)
        simp [e1]
  rw [hk, ← nst_K]
  exact q1
/-! ### runs that are let -/
def Valid (n : Net) (run : List Ev) : Prop := ∀ (i : Nat) (e : Ev), run[i]? = some e → ff n (run.take i) (dEv e) = none
theorem Valid.nil (n : Net) : Valid n [] := fun i e h => by simp at h
theorem Valid.snoc {n : Net} {run : List Ev} {e : Ev} (h : Valid n run) (he : ff n run (dEv e) = none) : Valid n (run ++ [e]) := fun i x hx => by
  by_cases hi : i < run.length
  · rw [List.getElem?_append_left hi] at hx
    rw [List.take_append_of_le_length (by omega)]
    exact h i x hx
  · rw [List.getElem?_append_right (by omega)] at hx
    have h0 : i - run.length = 0 := by
      cases hq : i - run.length with
      | zero => rfl
      | succ k => rw [hq] at hx; simp at hx
    rw [h0] at hx
    cases hx
    rw [show i = run.length by omega, List.take_left]
    exact he
theorem evOf_dEv {n : Net} {e : Ev} (h : hasH n e.h = true) : evOf n (dEv e) = some e := by
  obtain ⟨x, t, r, l⟩ := e
  unfold evOf dEv
  simp only
  rw [if_pos h]
  cases l with
  | none => rfl
  | some l => simp [dLet]
theorem rfL_none {n : Net} : ∀ (es : List Ev) (run : List Ev) (lat : Str → Option Stamp) (acc ss : List Stamp), (∀ e ∈ es, hasH n e.h = true) → (∀ (i : Nat) (e : Ev), es[i]? = some e → ff n (run ++ es.take i) (dEv e) = none) → stL n es lat acc = ss.map some → rfL n (es.map dEv) run lat acc = none
  | [], _, _, _, _, _, _, _ => rfl
  | e :: es, run, lat, acc, ss, hh, hv, h => by
    rw [List.map_cons]
    unfold rfL
    have h0 := hv 0 e rfl
    rw [List.take_zero, List.append_nil] at h0
    rw [h0, evOf_dEv (hh e List.mem_cons_self)]
    simp only
    unfold stL at h
    split at h
    · have : (none : Option Stamp) ∈ ss.map some := by rw [← h]; simp
      simp at this
    · rename_i s hs
      have q := rfL_none es (run ++ [e]) (fun x => if x = e.h then some s else lat x) (acc ++ [s]) ss (fun x hx => hh x (List.mem_cons_of_mem _ hx)) (fun i x hx => by
        have := hv (i + 1) x hx
        rwa [List.take_succ_cons, List.append_cons] at this) h
      first | exact q | (rw [hs]; exact q)
theorem rf_none {n : Net} {run : List Ev} {ss : List Stamp} (hh : ∀ e ∈ run, hasH n e.h = true) (hv : Valid n run) (h : stp n run = ss.map some) : rf n (run.map dEv) = none :=
  rfL_none run [] _ [] ss hh (fun i e hi => by rw [List.nil_append]; exact hv i e hi) h
/-! ### hosts and roads by name -/
theorem find_unique {α β : Type} [BEq β] [LawfulBEq β] (f : α → β) : ∀ {l : List α}, (l.map f).Nodup → ∀ {x : α}, x ∈ l → l.find? (fun y => f y == f x) = some x
  | [], _, _, h => by cases h
  | a :: l, hn, x, h => by
    rw [List.map_cons, List.nodup_cons] at hn
    rw [List.find?_cons]
    rcases List.mem_cons.mp h with e | e
    · subst e; simp
    · have hne : ¬ f a = f x := fun z => hn.1 (List.mem_map.mpr ⟨x, e, z.symm⟩)
      rw [beq_eq_false_iff_ne.mpr hne]
      exact find_unique f hn.2 e
theorem nodup_reverse {α β : Type} (f : α → β) {l : List α} (h : (l.map f).Nodup) : (l.reverse.map f).Nodup := by
  rw [List.map_reverse]
  exact List.pairwise_reverse.mpr (List.Pairwise.imp (fun {a b} hab hba => hab hba.symm) h)
theorem clk_mem {n : Net} (h : (n.hosts.map (·.n)).Nodup) {x : Host} (hx : x ∈ n.hosts) : clk n x.n = some x :=
  find_unique (fun y : Host => y.n) (nodup_reverse _ h) (List.mem_reverse.mpr hx)
theorem hasH_mem {n : Net} {x : Host} (hx : x ∈ n.hosts) : hasH n x.n = true := List.any_eq_true.mpr ⟨x, hx, by simp⟩
def firstLeast (n : Net) (a b : Str) : Option Int := (n.roads.find? fun x => x.1 == a && x.2.1 == b).map (·.2.2)
theorem least_first {n : Net} (h : (n.roads.map fun r => (r.1, r.2.1)).Nodup) (a b : Str) : leastOf n a b = firstLeast n a b := by
  unfold leastOf firstLeast
  congr 1
  cases hf : n.roads.find? (fun x => x.1 == a && x.2.1 == b) with
  | none =>
    rw [List.find?_eq_none] at hf ⊢
    exact fun x hx => hf x (List.mem_reverse.mp hx)
  | some r =>
    have h1 := List.find?_some hf
    have h2 := List.mem_of_find?_eq_some hf
    rw [Bool.and_eq_true, beq_iff_eq, beq_iff_eq] at h1
    obtain ⟨rfl, rfl⟩ := h1
    exact find_unique (fun r : Road => (r.1, r.2.1)) (nodup_reverse _ h) (List.mem_reverse.mpr h2)
def lettersOf (n : Net) (es : List Ev) (title : Str) (tick : Int) : List Nat := (List.range es.length).filter fun j => match es[j]? with
  | some p => (match firstLeast n p.h title with | some k => decide (k ≤ tick - p.t) | none => false)
  | none => false
theorem letters_pl {n : Net} (h : (n.roads.map fun r => (r.1, r.2.1)).Nodup) {run : List Ev} {e : Ev} {l : Nat} (hl : l ∈ lettersOf n run e.h e.t) : l < run.length ∧ pl n run e l = true := by
  obtain ⟨a, b⟩ := List.mem_filter.mp hl
  have hl' := List.mem_range.mp a
  refine ⟨hl', ?_⟩
  unfold pl
  rw [List.getElem?_eq_getElem hl'] at b ⊢
  simp only at b ⊢
  rw [least_first h]
  cases hf : firstLeast n run[l].h e.h with
  | none => rw [hf] at b; cases b
  | some k => rw [hf] at b; exact b
/-- an event that a law may tell next -/
theorem ff_ok {n : Net} {run : List Ev} {e : Ev} {x : Host} (hn : (n.hosts.map (·.n)).Nodup) (hx : x ∈ n.hosts) (he : e.h = x.n) (h1 : late run e = false) (h2 : ((run.filter (same2 e)).length : Int) < x.r) (h3 : e.t - x.s ≤ e.r ∧ e.r ≤ e.t + x.f) (h4 : ∀ l, e.l = some l → pl n run e l = true) : ff n run (dEv e) = none := by
  unfold ff
  rw [evOf_dEv (by rw [he]; exact hasH_mem hx)]
  simp only
  rw [he, clk_mem hn hx]
  simp only
  rw [h1, if_neg Bool.false_ne_true, if_neg (by omega), if_neg (by simpa using h3)]
  cases hl : e.l with
  | none => rfl
  | some l => simp only; rw [if_pos (h4 l hl)]
theorem letB_snoc : ∀ (es : List Ev) (k : Nat) (e : Ev), letB k es = true → (∀ l, e.l = some l → l < k + es.length) → letB k (es ++ [e]) = true
  | [], k, e, _, h => by
    rw [List.nil_append]
    unfold letB letB
    rw [Bool.and_true]
    cases hl : e.l with
    | none => rfl
    | some l => simpa using h l hl
  | a :: es, k, e, hb, h => by
    rw [List.cons_append]
    unfold letB at hb ⊢
    rw [Bool.and_eq_true] at hb ⊢
    exact ⟨hb.1, letB_snoc es (k + 1) e hb.2 fun l hl => by have := h l hl; rw [List.length_cons] at this; omega⟩
end Pv
namespace Pv
open PySem PySem.Spec L2
open PyProof.Rows hiding St signs cutD pairD
/-- an item of a list of the store -/
theorem ix_R {st : Sto} {r j : Nat} {ds : List D} {d : D} (h : st[r]? = some (.lst ds)) (hj : ds[j]? = some d) : fIx (Rf r) (.int (j : Int)) st = .ok d st := by
  have e : deref st (Rf r) = .list ds := by rw [deref_ref, h]
  have i := ix_l (ds := ds) (j := j) (d := d) (st := st) hj
  unfold fIx dlook at i ⊢
  simp only [Int.toNat_natCast, h]
  simp only [on2] at i ⊢
  rw [e]
  exact i
/-- what a law's drawn run is, behind so many laps -/
structure LotI (n : Net) (run : List Ev) (ss : List Stamp) (tick : Int) (k : Nat) : Prop where
  st : stp n run = ss.map some
  len : run.length ≤ k
  let_ : letB 0 run = true
  valid : Valid n run
  tk : -1000 ≤ tick ∧ tick ≤ 1000 + 8 * k
  ev : ∀ e ∈ run, -1000 ≤ e.t ∧ e.t ≤ tick ∧ (∃ x ∈ n.hosts, e.h = x.n ∧ e.t - x.s ≤ e.r ∧ e.r ≤ e.t + x.f) ∧ ∀ l, e.l = some l → l < run.length
theorem LotI.stay {n : Net} {run : List Ev} {ss : List Stamp} {tick d : Int} {k : Nat} (h : LotI n run ss tick k) (h0 : 0 ≤ d) (h1 : d ≤ 8) : LotI n run ss (tick + d) (k + 1) :=
  ⟨h.st, by have := h.len; omega, h.let_, h.valid, by have := h.tk; omega, fun e he => by
    obtain ⟨a, b, c⟩ := h.ev e he
    exact ⟨a, by omega, c⟩⟩
theorem late_false {run : List Ev} {e : Ev} (h : ∀ p ∈ run, p.t ≤ e.t) : late run e = false := by
  unfold late
  cases hg : run.getLast? with
  | none => rfl
  | some p =>
    have := h p (List.mem_of_getLast? hg)
    exact decide_eq_false (by omega)
theorem LotI.more {n : Net} {run : List Ev} {ss : List Stamp} {tick d : Int} {k : Nat} (hN : NetD n) (h : LotI n run ss tick k) (h0 : 0 ≤ d) (h1 : d ≤ 8) {e : Ev} {x : Host} {s : Stamp} (hx : x ∈ n.hosts) (eh : e.h = x.n) (et : e.t = tick + d) (er : e.t - x.s ≤ e.r ∧ e.r ≤ e.t + x.f) (el : ∀ l, e.l = some l → l ∈ lettersOf n run e.h e.t)
    (hc : ((run.filter (same2 e)).length : Int) < x.r) (hs : nstK n ((causes (run ++ [e]) run.length).map fun j => ss.getD j (0, 0)) e.r = some s) : LotI n (run ++ [e]) (ss ++ [s]) (tick + d) (k + 1) := by
  have hlt : ∀ l, e.l = some l → l < run.length := fun l hl => (letters_pl hN.roads.nd (el l hl)).1
  have tk := h.tk
  refine ⟨?_, by rw [List.length_append]; have := h.len; simp; omega, letB_snoc run 0 e h.let_ (fun l hl => by have := hlt l hl; omega), h.valid.snoc ?_, by omega, fun p hp => ?_⟩
  · rw [stp_snoc h.st e hlt, hs]
  · exact ff_ok hN.names.1 hx eh (late_false fun p hp => by have := (h.ev p hp).2.1; omega) hc er fun l hl => (letters_pl hN.roads.nd (el l hl)).2
  · rw [List.length_append, List.length_cons, List.length_nil]
    rcases List.mem_append.mp hp with q | q
    · obtain ⟨a, b, c, f⟩ := h.ev p q
      exact ⟨a, by omega, c, fun l hl => by have := f l hl; omega⟩
    · have : p = e := by simpa using q
      subst this
      exact ⟨by omega, by omega, ⟨x, hx, eh, er⟩, fun l hl => by have := hlt l hl; omega⟩
theorem LotI.evS {n : Net} {run : List Ev} {ss : List Stamp} {tick : Int} {k : Nat} (hN : NetD n) (h : LotI n run ss tick k) (hk : k ≤ 1000) : ∀ e ∈ run, EvS e := fun e he => by
  obtain ⟨a, b, ⟨x, hx, c, d, f⟩, g⟩ := h.ev e he
  have tk := h.tk
  have hd := hN.hosts x hx
  obtain ⟨_, _, h3⟩ := hN.names
  have l0 := h.len
  refine ⟨by rw [c]; exact (h3 x hx).1, by rw [c]; have := (h3 x hx).2; omega, by omega, by have := hd.s1; have := hd.f1; have := hd.s0; have := hd.f0; omega, fun l hl => by have := g l hl; omega⟩
theorem LotI.has {n : Net} {run : List Ev} {ss : List Stamp} {tick : Int} {k : Nat} (h : LotI n run ss tick k) : ∀ e ∈ run, hasH n e.h = true := fun e he => by
  obtain ⟨_, _, ⟨x, hx, c, _⟩, _⟩ := h.ev e he
  rw [c]; exact hasH_mem hx
theorem LotI.rf {n : Net} {run : List Ev} {ss : List Stamp} {tick : Int} {k : Nat} (h : LotI n run ss tick k) : Pv.rf n (run.map dEv) = none := rf_none h.has h.valid h.st
theorem LotI.nil (n : Net) {tick : Int} (h : -1000 ≤ tick ∧ tick ≤ 1000) : LotI n [] [] tick 0 := ⟨rfl, Nat.le_refl _, rfl, Valid.nil n, by omega, fun e he => by cases he⟩
end Pv
namespace Pv
open PySem PySem.Spec L2
open PyProof.Rows hiding St signs cutD pairD
theorem causes_two (es : List Ev) (k : Nat) : (causes es k).length ≤ 2 := by
  unfold causes
  cases lastBy es k with
  | none =>
    cases es[k]? with
    | none => simp
    | some e => simp only; cases e.l <;> simp
  | some j =>
    cases es[k]? with
    | none => simp
    | some e => simp only; cases e.l <;> simp
theorem causes_lt {run : List Ev} {e : Ev} (hl : ∀ l, e.l = some l → l < run.length) : ∀ j ∈ causes (run ++ [e]) run.length, j < run.length := fun j hj => by
  have hc : causes (run ++ [e]) run.length = (lastIdx run e.h).toList ++ e.l.toList := by
    unfold causes
    rw [lastIdx_snoc, List.getElem?_append_right (Nat.le_refl _), Nat.sub_self]
    rfl
  rw [hc] at hj
  rcases List.mem_append.mp hj with q | q
  · cases hx : lastIdx run e.h with
    | none => rw [hx] at q; cases q
    | some i =>
      rw [hx] at q
      have : j = i := by simpa using q
      subst this
      exact (lastIdx_lt hx).1
  · cases hx : e.l with
    | none => rw [hx] at q; cases q
    | some i =>
      rw [hx] at q
      have : j = i := by simpa using q
      subst this
      exact hl _ hx
end Pv
set_option Elab.async false
set_option linter.all false
set_option maxRecDepth 100000
set_option maxHeartbeats 1000000
set_option pp.maxSteps 1500
namespace Pv
open PySem PySem.Spec L2
open PyProof.Rows hiding St signs cutD pairD
/-! ### the stamps of a run, one by one -/
theorem maxI_of {l : List Int} {m : Int} (h : m ∈ l) (hm : ∀ x ∈ l, x ≤ m) : maxI l = some m := by
  cases hq : maxI l with
  | none =>
    cases l with
    | nil => cases h
    | cons a l => cases hq
  | some k =>
    have h1 := maxI_some hq
    have h2 := hm k h1
    have h3 : m ≤ k := by
      cases l with
      | nil => cases h
      | cons a l =>
        have e : l.foldl max a = k := Option.some.inj hq
        have key : ∀ (l : List Int) (a : Int), ∀ x ∈ a :: l, x ≤ l.foldl max a := by
          intro l
          induction l with
          | nil => intro a x hx; have : x = a := by simpa using hx
                   subst this; exact Int.le_refl _
          | cons b l ih =>
            intro a x hx
            rw [List.foldl_cons]
            rcases List.mem_cons.mp hx with q | q
            · subst q
              exact Int.le_trans (Int.le_max_left _ _) (ih (max x b) _ List.mem_cons_self)
            · rcases List.mem_cons.mp q with q | q
              · subst q
                exact Int.le_trans (Int.le_max_right _ _) (ih (max a x) _ List.mem_cons_self)
              · exact ih (max a b) x (List.mem_cons_of_mem _ q)
        rw [← e]
        exact key l a m h
    rw [show k = m by omega]
theorem maxI_le {l : List Int} {m : Int} (h : maxI l = some m) : ∀ x ∈ l, x ≤ m := fun x hx => by
  cases l with
  | nil => cases hx
  | cons a l =>
    have e : l.foldl max a = m := Option.some.inj h
    subst e
    have key : ∀ (l : List Int) (a : Int), ∀ x ∈ a :: l, x ≤ l.foldl max a := by
      intro l
      induction l with
      | nil => intro a x hx; have : x = a := by simpa using hx
               subst this; exact Int.le_refl _
      | cons b l ih =>
        intro a x hx
        rw [List.foldl_cons]
        rcases List.mem_cons.mp hx with q | q
        · subst q
          exact Int.le_trans (Int.le_max_left _ _) (ih (max x b) _ List.mem_cons_self)
        · rcases List.mem_cons.mp q with q | q
          · subst q
            exact Int.le_trans (Int.le_max_right _ _) (ih (max a x) _ List.mem_cons_self)
          · exact ih (max a b) x (List.mem_cons_of_mem _ q)
    exact key l a x hx
theorem stL_take (n : Net) : ∀ (es : List Ev) (lat : Str → Option Stamp) (acc ss : List Stamp), stL n es lat acc = ss.map some → ∀ k, stL n (es.take k) lat acc = (ss.take (acc.length + k)).map some
  | [], lat, acc, ss, h, k => by
    have := stL_pre n [] lat acc ss h
    unfold stL at h
    have e : ss = acc := (List.map_inj_right fun a b h => Option.some.inj h).mp h.symm
    subst e
    rw [List.take_nil, List.take_of_length_le (by omega)]
    unfold stL; rfl
  | e :: es, lat, acc, ss, h, 0 => by
    obtain ⟨t, ht⟩ := stL_pre n _ _ _ _ h
    rw [List.take_zero, Nat.add_zero, ht, List.take_left]
    unfold stL; rfl
  | e :: es, lat, acc, ss, h, k + 1 => by
    unfold stL at h
    rw [List.take_succ_cons]
    unfold stL
    split at h
    · have : (none : Option Stamp) ∈ ss.map some := by rw [← h]; simp
      simp at this
    · rename_i s hs
      have q := stL_take n es _ _ ss h k
      rw [List.length_append, List.length_cons, List.length_nil, show acc.length + (0 + 1) + k = acc.length + (k + 1) by omega] at q
      first | exact q | (rw [hs]; exact q)
theorem stp_take {n : Net} {es : List Ev} {ss : List Stamp} (h : stp n es = ss.map some) (k : Nat) : stp n (es.take k) = (ss.take k).map some := by
  have := stL_take n es _ _ ss h k
  rwa [List.length_nil, Nat.zero_add] at this
theorem letB_at : ∀ {es : List Ev} {k : Nat}, letB k es = true → ∀ (i : Nat) (e : Ev) (l : Nat), es[i]? = some e → e.l = some l → l < k + i
  | [], _, _, i, e, l, h, _ => by simp at h
  | a :: es, k, hb, 0, e, l, h, hl => by
    unfold letB at hb
    rw [Bool.and_eq_true] at hb
    cases h
    rw [hl] at hb
    simpa using hb.1
  | a :: es, k, hb, i + 1, e, l, h, hl => by
    unfold letB at hb
    rw [Bool.and_eq_true] at hb
    have := letB_at hb.2 i e l h hl
    omega
theorem causes_take {es : List Ev} {k : Nat} (hk : k < es.length) : causes (es.take k ++ [es[k]]) k = causes es k := by
  have e1 : es.take k ++ [es[k]] = es.take (k + 1) := (List.take_succ_eq_append_getElem hk).symm
  have g : ∀ j, j ≤ k → (es.take (k + 1))[j]? = es[j]? := fun j hj => by rw [List.getElem?_take]; rw [if_pos (by omega)]
  rw [e1]
  unfold causes lastBy
  rw [g k (Nat.le_refl _)]
  congr 3
  refine List.filter_congr fun j hj => ?_
  have hj' := List.mem_range.mp hj
  unfold sameH
  rw [g j (by omega), g k (Nat.le_refl _)]
/-- each stamp by those of its causes -/
theorem stp_at {n : Net} {es : List Ev} {ss : List Stamp} (h : stp n es = ss.map some) (hb : letB 0 es = true) {k : Nat} (hk : k < es.length) : nstK n ((causes es k).map fun j => ss.getD j (0, 0)) es[k].r = some (ss.getD k (0, 0)) := by
  have slen := stp_len h
  have e1 : es.take k ++ [es[k]] = es.take (k + 1) := (List.take_succ_eq_append_getElem hk).symm
  have tl : (es.take k).length = k := by rw [List.length_take]; omega
  have hl : ∀ l, es[k].l = some l → l < (es.take k).length := fun l hl => by
    have := letB_at hb k _ l (List.getElem?_eq_getElem hk) hl
    omega
  have h1 := stp_snoc (stp_take h k) es[k] hl
  rw [e1, stp_take h (k + 1), tl, ← e1, causes_take hk] at h1
  have hc : (causes es k).map (fun j => (ss.take k).getD j (0, 0)) = (causes es k).map fun j => ss.getD j (0, 0) := List.map_congr_left fun j hj => by
    rw [← causes_take hk] at hj
    have := causes_lt (run := es.take k) (e := es[k]) hl j (by rw [tl]; exact hj)
    rw [tl] at this
    rw [List.getD_eq_getElem?_getD, List.getD_eq_getElem?_getD, List.getElem?_take, if_pos this]
  rw [hc] at h1
  have e2 : ss.take (k + 1) = ss.take k ++ [ss.getD k (0, 0)] := by
    rw [List.take_succ_eq_append_getElem (show k < ss.length by omega), List.getD_eq_getElem?_getD, List.getElem?_eq_getElem (show k < ss.length by omega)]
    rfl
  cases hs : nstK n ((causes es k).map fun j => ss.getD j (0, 0)) es[k].r with
  | none =>
    rw [hs] at h1
    have : (none : Option Stamp) ∈ (ss.take (k + 1)).map some := by rw [h1]; simp
    obtain ⟨a, _, ha⟩ := List.mem_map.mp this
    cases ha
  | some s =>
    rw [hs, e2] at h1
    have h2 : ss.take k ++ [ss.getD k (0, 0)] = ss.take k ++ [s] := (List.map_inj_right fun a b h => Option.some.inj h).mp h1
    have h3 := List.append_cancel_left h2
    rw [List.cons.inj h3 |>.1]
theorem causes_bound {es : List Ev} (hb : letB 0 es = true) {k : Nat} (hk : k < es.length) : ∀ j ∈ causes es k, j < k := fun j hj => by
  have tl : (es.take k).length = k := by rw [List.length_take]; omega
  have hl : ∀ l, es[k].l = some l → l < (es.take k).length := fun l hl => by
    have := letB_at hb k _ l (List.getElem?_eq_getElem hk) hl
    omega
  have := causes_lt (run := es.take k) (e := es[k]) hl j (by rw [tl, causes_take hk]; exact hj)
  rwa [tl] at this
/-! ### with the rule "more" no stamp is missing -/
theorem nst_more {n : Net} (h : n.rule = "more") (a b : Option Stamp) (rd : Int) : ∃ s, nst n a b rd = some s := by
  unfold nst
  simp only
  split
  · exact ⟨_, rfl⟩
  · cases n.most with
    | none => exact ⟨_, rfl⟩
    | some k =>
      simp only
      split
      · exact ⟨_, rfl⟩
      · rw [if_pos (by rw [h]; exact beq_self_eq_true _)]
        exact ⟨_, rfl⟩
theorem stL_more {n : Net} (h : n.rule = "more") : ∀ (es : List Ev) (lat : Str → Option Stamp) (acc : List Stamp), ∃ ss : List Stamp, stL n es lat acc = ss.map some
  | [], lat, acc => ⟨acc, by unfold stL; rfl⟩
  | e :: es, lat, acc => by
    obtain ⟨s, hs⟩ := nst_more h (lat e.h) (e.l.bind fun l => acc[l]?) e.r
    unfold stL
    rw [hs]
    exact stL_more h es _ _
theorem stp_more {n : Net} (h : n.rule = "more") (es : List Ev) : ∃ ss : List Stamp, stp n es = ss.map some := stL_more h es _ _
/-- the number of the next stamp, by those of its causes -/
theorem num_next {n : Net} {k : Int} (hk : n.most = some k) (k0 : 0 ≤ k) (hr : n.rule = "more") {ks : List Stamp} (hks : ∀ p ∈ ks, 0 ≤ p.2 ∧ p.2 ≤ k) {rd : Int} {s : Stamp} (h : nstK n ks rd = some s) :
    (0 ≤ s.2 ∧ s.2 ≤ k) ∧ maxI ((ks.map fun p => numST (k + 1) p + 1) ++ [rd * (k + 1)]) = some (numST (k + 1) s) := by
  unfold nstK at h
  simp only at h
  have mul_le : ∀ a b : Int, a ≤ b → a * (k + 1) ≤ b * (k + 1) := fun a b h => Int.mul_le_mul_of_nonneg_right h (by omega)
  cases hm : maxI (ks.map (·.1)) with
  | none =>
    have hnil : ks = [] := by
      cases ks with
      | nil => rfl
      | cons a l => cases hm
    subst hnil
    have h1 : mark [] rd < rd := by unfold mark; simp [maxI]; omega
    rw [if_pos h1] at h
    cases h
    exact ⟨⟨Int.le_refl _, k0⟩, by simp [numST, maxI]⟩
  | some m =>
    have mk : mark ks rd = m := by unfold mark; rw [hm]; rfl
    rw [mk] at h
    have hle : ∀ p ∈ ks, p.1 ≤ m := fun p hp => maxI_le hm _ (List.mem_map.mpr ⟨p, hp, rfl⟩)
    obtain ⟨q, hq, hqm⟩ := List.mem_map.mp (maxI_some hm)
    have sp : ∀ p : Stamp, ∀ d : Int, p.1 + d ≤ m → 0 ≤ p.2 ∧ p.2 ≤ k → numST (k + 1) p + 1 + d * (k + 1) ≤ m * (k + 1) + (p.2 + 1) := fun p d h1 h2 => by
      have := mul_le (p.1 + d) m h1
      rw [Int.add_mul] at this
      unfold numST
      omega
    by_cases h1 : m < rd
    · rw [if_pos h1] at h
      cases h
      refine ⟨⟨Int.le_refl _, k0⟩, maxI_of (by simp [numST]) fun x hx => ?_⟩
      have e : numST (k + 1) (rd, 0) = rd * (k + 1) := by simp [numST]
      rw [e]
      rcases List.mem_append.mp hx with hx | hx
      · obtain ⟨p, hp, rfl⟩ := List.mem_map.mp hx
        have a := mul_le (p.1 + 1) rd (by have := hle p hp; omega)
        rw [Int.add_mul] at a
        have b := hks p hp
        unfold numST
        omega
      · have : x = rd * (k + 1) := by simpa using hx
        omega
    · rw [if_neg h1] at h
      obtain ⟨c, hc⟩ : ∃ c, maxI ((ks.filter fun s => decide (s.1 = m)).map (·.2)) = some c := by
        have : q ∈ ks.filter fun s => decide (s.1 = m) := List.mem_filter.mpr ⟨hq, by simpa using hqm⟩
        cases hf : ks.filter fun s => decide (s.1 = m) with
        | nil => rw [hf] at this; cases this
        | cons y l => exact ⟨_, rfl⟩
      rw [hc] at h
      simp only [Option.getD_some] at h
      obtain ⟨u, hu, huc⟩ := List.mem_map.mp (maxI_some hc)
      obtain ⟨hu1, hu2⟩ := List.mem_filter.mp hu
      have hum : u.1 = m := by simpa using hu2
      have hcb := hks u hu1
      have hcm : ∀ p ∈ ks, p.1 = m → p.2 ≤ c := fun p hp he => maxI_le hc _ (List.mem_map.mpr ⟨p, List.mem_filter.mpr ⟨hp, by simpa using he⟩, rfl⟩)
      have hmr := mul_le rd m (by omega)
      have all : ∀ x ∈ (ks.map fun p => numST (k + 1) p + 1) ++ [rd * (k + 1)], x ≤ m * (k + 1) + (1 + c) := fun x hx => by
        rcases List.mem_append.mp hx with hx | hx
        · obtain ⟨p, hp, rfl⟩ := List.mem_map.mp hx
          have a := hle p hp
          have b := hks p hp
          by_cases he : p.1 = m
          · have := hcm p hp he
            unfold numST
            rw [he]
            omega
          · have := mul_le (p.1 + 1) m (by omega)
            rw [Int.add_mul] at this
            unfold numST
            omega
        · have : x = rd * (k + 1) := by simpa using hx
          omega
      have mem : m * (k + 1) + (1 + c) ∈ (ks.map fun p => numST (k + 1) p + 1) ++ [rd * (k + 1)] := by
        refine List.mem_append_left _ (List.mem_map.mpr ⟨u, hu1, ?_⟩)
        unfold numST
        rw [hum, huc]
        omega
      rw [hk] at h
      simp only at h
      by_cases h2 : 1 + c ≤ k
      · rw [if_pos (by simpa using h2)] at h
        cases h
        exact ⟨⟨by show 0 ≤ 1 + c; omega, h2⟩, maxI_of mem all⟩
      · rw [if_neg (by simpa using h2), if_pos (by rw [hr]; exact beq_self_eq_true _)] at h
        cases h
        refine ⟨⟨Int.le_refl _, k0⟩, ?_⟩
        have hck : c = k := by omega
        have e : numST (k + 1) (m + 1, 0) = m * (k + 1) + (1 + c) := by
          unfold numST
          rw [Int.add_mul]
          omega
        rw [e]
        exact maxI_of mem all
end Pv
namespace Pv
open PySem PySem.Spec L2
open PyProof.Rows hiding St signs cutD pairD
theorem stp_counts {n : Net} {k : Int} (hk : n.most = some k) (k0 : 0 ≤ k) (hr : n.rule = "more") {es : List Ev} {ss : List Stamp} (h : stp n es = ss.map some) (hb : letB 0 es = true) : ∀ j, j < es.length → 0 ≤ (ss.getD j (0, 0)).2 ∧ (ss.getD j (0, 0)).2 ≤ k := by
  intro j
  induction j using Nat.strongRecOn with
  | ind j ih =>
    intro hj
    refine (num_next hk k0 hr (ks := (causes es j).map fun i => ss.getD i (0, 0)) (fun p hp => ?_) (stp_at h hb hj)).1
    obtain ⟨i, hi, rfl⟩ := List.mem_map.mp hp
    have := causes_bound hb hj i hi
    exact ih i this (by omega)
theorem num_at {n : Net} {k : Int} (hk : n.most = some k) (k0 : 0 ≤ k) (hr : n.rule = "more") {es : List Ev} {ss : List Stamp} (h : stp n es = ss.map some) (hb : letB 0 es = true) {j : Nat} (hj : j < es.length) :
    maxI (((causes es j).map fun i => numST (k + 1) (ss.getD i (0, 0)) + 1) ++ [es[j].r * (k + 1)]) = some (numST (k + 1) (ss.getD j (0, 0))) := by
  have := (num_next hk k0 hr (ks := (causes es j).map fun i => ss.getD i (0, 0)) (fun p hp => by
    obtain ⟨i, hi, rfl⟩ := List.mem_map.mp hp
    have := causes_bound hb hj i hi
    exact stp_counts hk k0 hr h hb i (by omega)) (stp_at h hb hj)).2
  rwa [List.map_map] at this
theorem add_lls {xs ys : List D} (h : xs.length + ys.length ≤ 1000) (st : Sto) : fAdd (.list xs) (.list ys) st = .ok (.list (xs ++ ys)) st := by
  rw [add_ll]
  show lift (if xs.length + ys.length ≤ sizeLine then some (PyData.list (xs ++ ys)) else none) st = _
  rw [if_pos (sz_le h)]; rfl
theorem ints_mapD (l : List Int) : intsOfD (l.map PyData.int) = some l := by
  induction l with
  | nil => rfl
  | cons a l ih => simp only [List.map_cons, intsOfD, ih]; rfl
theorem max_ints {l : List Int} {m : Int} (h : maxI l = some m) : dMax1 (.list (l.map PyData.int)) = some (.int m) := by
  show (intsOfD _).bind _ = _
  rw [ints_mapD]
  simp only [Option.bind_some, h]; rfl
end Pv
namespace Pv
open PySem PySem.Spec L2
open PyProof.Rows hiding St signs cutD pairD
theorem num_bound {n : Net} {k : Int} (hk : n.most = some k) (k0 : 0 ≤ k) (hr : n.rule = "more") {es : List Ev} {ss : List Stamp} (h : stp n es = ss.map some) (hb : letB 0 es = true) {M : Int} (hM : ∀ e ∈ es, -M ≤ e.r ∧ e.r ≤ M) : ∀ j, j < es.length → -(M * (k + 1)) ≤ numST (k + 1) (ss.getD j (0, 0)) ∧ numST (k + 1) (ss.getD j (0, 0)) ≤ M * (k + 1) + j := by
  intro j
  induction j using Nat.strongRecOn with
  | ind j ih =>
    intro hj
    have hm := num_at hk k0 hr h hb hj
    have h1 := maxI_some hm
    have h2 := maxI_le hm (es[j].r * (k + 1)) (by simp)
    obtain ⟨a, b⟩ := hM es[j] (List.getElem_mem hj)
    have m1 : es[j].r * (k + 1) ≤ M * (k + 1) := Int.mul_le_mul_of_nonneg_right b (by omega)
    have m2 : -M * (k + 1) ≤ es[j].r * (k + 1) := Int.mul_le_mul_of_nonneg_right a (by omega)
    rw [Int.neg_mul] at m2
    refine ⟨by omega, ?_⟩
    rcases List.mem_append.mp h1 with q | q
    · obtain ⟨i, hi, e⟩ := List.mem_map.mp q
      have := causes_bound hb hj i hi
      have := (ih i this (by omega)).2
      omega
    · have : numST (k + 1) (ss.getD j (0, 0)) = es[j].r * (k + 1) := by simpa using q
      omega
theorem mem_getD {ss : List Stamp} {s : Stamp} (h : s ∈ ss) : ∃ j, j < ss.length ∧ ss.getD j (0, 0) = s := by
  obtain ⟨j, hj⟩ := List.mem_iff_getElem?.mp h
  have hjl := (List.getElem?_eq_some_iff.mp hj).1
  exact ⟨j, hjl, by rw [List.getD_eq_getElem?_getD, hj]; rfl⟩
/-- numbers and leads are small -/
theorem numbers_small {n : Net} {k : Int} (hk : n.most = some k) (k0 : 0 ≤ k) (k1 : k ≤ 10 ^ 6) (hr : n.rule = "more") {es : List Ev} {ss : List Stamp} (h : stp n es = ss.map some) (hb : letB 0 es = true) (hl : es.length ≤ 100) (hE : ∀ e ∈ es, (-(10 ^ 6) ≤ e.r ∧ e.r ≤ 10 ^ 6) ∧ (-(10 ^ 6) ≤ e.t ∧ e.t ≤ 10 ^ 6)) :
    Ok (.tuple (ss.map fun s => .int (numST (k + 1) s))) (2 ^ 16) 2 ∧ Ok (.tuple (List.zipWith (fun s e => .int (numST (k + 1) s - e.t * (k + 1))) ss es)) (2 ^ 16) 2 := by
  have slen := stp_len h
  have nb : ∀ s ∈ ss, (numST (k + 1) s).natAbs ≤ 10 ^ 13 := fun s hs => by
    obtain ⟨j, hj, rfl⟩ := mem_getD hs
    obtain ⟨a, b⟩ := num_bound hk k0 hr h hb (M := 10 ^ 6) (fun e he => (hE e he).1) j (by omega)
    have : (10 ^ 6 : Int) * (k + 1) ≤ 10 ^ 6 * (10 ^ 6 + 1) := Int.mul_le_mul_of_nonneg_left (by omega) (by decide)
    omega
  constructor
  · have := ints_ok (is := ss.map fun s => numST (k + 1) s) (c := 100) (fun i hi => by
      obtain ⟨p, hp, rfl⟩ := List.mem_map.mp hi
      have := nb p hp
      omega) (by rw [List.length_map]; omega)
    rw [List.map_map] at this
    exact this.mono (by decide) (by decide)
  · have := ints_ok (is := List.zipWith (fun s e => numST (k + 1) s - e.t * (k + 1)) ss es) (c := 100) (fun i hi => by
      obtain ⟨j, hj⟩ := List.mem_iff_getElem?.mp hi
      obtain ⟨p, v, ha, hb2, e⟩ := zipWith_at _ _ _ j _ hj
      have h1 := nb p (List.mem_of_getElem? ha)
      have h2 := (hE v (List.mem_of_getElem? hb2)).2
      subst e
      have : (v.t * (k + 1)).natAbs ≤ 10 ^ 6 * (10 ^ 6 + 1) := by
        rw [Int.natAbs_mul]
        exact Nat.mul_le_mul (by omega) (by omega)
      omega) (by rw [List.length_zipWith]; omega)
    rw [List.map_zipWith] at this
    exact this.mono (by decide) (by decide)
end Pv
set_option Elab.async false
set_option linter.all false
set_option maxRecDepth 100000
set_option maxHeartbeats 3200000
namespace Pv
open PySem PySem.Spec L2
open PyProof.Rows hiding St signs cutD pairD
/-! ### sorted(set(xs)), xs a list of whole numbers -/
section
variable {P : Program} {w : World} {A : Around} {E : Value → Shared → Prop} {s : Shared}
/-- a set with nothing in it -/
abbrev emS (w : World) : Obj := { cls := .type "set", dict := none, data := .set #[] 0 (.fresh 0 0 (!w.params.followText "set-order")) }
abbrev hpS (w : World) (s : Shared) : Heap := s.heap.push (emS w)
/-- set(xs) of a list of whole numbers: its members, and that it can be sorted -/
theorem set_of_list {l : Addr} {us : Array Value} (ns : List Int) {Q : Value → Shared → Prop} (quiet : A.handled = none) (isl : s.heap.IsList l us) (are : IntsAre us.toList ns) (few : ns.length + 1 < scanBound)
    (fin : ∀ (hp : Heap) (tk c : Nat), SetR w hp s.heap.objs.size (fun j => decide (j ∈ ns)) c → c ≤ ns.length → (∀ b o, s.heap.get? b = some o → hp.get? b = some o) → Q (.ref s.heap.objs.size) { s with heap := hp, toks := tk }) :
    wpAny (model P w) A (call (.type "set") [.ref l]) Q E s := by
  have usz : us.size = ns.length := by have q := are.length; rwa [Array.length_toList] at q
  obtain ⟨mc, mt, mroS⟩ := F.called_set.mro
  have madeS := F.called_set.made
  have subS := F.called_set.sub
  refine wpAny_call (codeAny_of_tree (show wpAny _ _ (callAny (.type "set") _) _ _ _ from wpAny_pure ⟨Code.quiet_builtin _ (by decide +kernel), codeAny_builtin F.entry_type_call ?_⟩))
  rw [Around.under_plain (weight_type_call_type "set" [.ref l] []) rfl]
  have nt := F.called_set.notType; have cc := F.called_set.canCreate; have tc := F.typeCall_set_1 (.ref l)
  repeat (any_goals (first | assumption | wp_step))
  refine codeAny_mono (code_set_led1 (.ref l) (E := E) (Q₁ := fun obj s₁ => obj = .ref s.heap.objs.size ∧ s₁ = { s with heap := hpS w s }) ⟨rfl, rfl⟩) fun r s₁ hr => ?_
  cases r with
  | error e => exact hr
  | ok fl =>
    cases fl with
    | ret obj =>
      obtain ⟨rfl, rfl⟩ := hr
      have atS : (hpS w s).get? s.heap.objs.size = some (emS w) := Heap.get?_push_size _ rfl
      have tyS : Shared.TypeIs { s with heap := hpS w s } (.ref s.heap.objs.size) "set" := ⟨_, atS, rfl⟩
      have li := F.called_set.init.lookup; have bi := F.called_set.init.bind (.ref s.heap.objs.size)
      repeat (any_goals (first | assumption | wp_step))
      refine codeAny_mono (codeAny_call_builtin (R := wants (fun r s₂ => r = .none ∧ ∃ hp tk c, s₂ = { s with heap := hp, toks := tk } ∧ SetR w hp s.heap.objs.size (fun j => decide (j ∈ ns)) c ∧ c ≤ ns.length ∧
        ∀ b o, s.heap.get? b = some o → hp.get? b = some o) E) F.called_set.init.plain F.entry_set_init (check_set_init_1 tyS ?_)) fun r₂ s₂ hr₂ => ?_
      · obtain ⟨ol, hol, hcl, nl, hdl⟩ := isl
        obtain ⟨ocls, odict, odata, oslots⟩ := ol
        simp only at hcl hdl
        subst hcl; subst hdl
        have atL : (hpS w s).get? l = some { cls := .type "list", dict := odict, data := .seq us nl, slots := oslots } := Heap.get?_push_of_some _ hol
        have sl1 := F.sub_list_set; have sl2 := F.sub_list_frozenset
        have nd : (Value.type "list" == Value.type "dict") = false := by decide
        have isl1 : (hpS w s).IsList l us := ⟨_, atL, rfl, nl, rfl⟩
        unfold Builtin.«set.__init__» noKeywords Builtin.Frozenset.updateFrom
        generalize hPI : pyIter = PI
        wp_walk
        subst hPI
        refine wpAny_pyIter_list isl1 (wpAny_bind (wpAny_runValue ?_))
        have ltS : l < s.heap.objs.size := Heap.lt_size hol
        have quiet3 : A.in1.in1.in1.handled = none := by simp [quiet]
        have sz1 : (hpS w s).objs.size = s.heap.objs.size + 1 := Heap.size_push ..
        have neI : l ≠ (hpS w s).objs.size := by rw [sz1]; exact Nat.ne_of_lt (Nat.lt_succ_of_lt ltS)
        have nfp : s.heap.objs.size ∉ [(hpS w s).objs.size, l] := by
          rw [sz1]
          intro hm
          rcases List.mem_cons.mp hm with e | e
          · exact absurd e (Nat.ne_of_lt (Nat.lt_succ_self _))
          · exact absurd (List.mem_singleton.mp e) (Nat.ne_of_gt ltS)
        have val : ∀ (i : Nat) (v : Value), us[i]? = some v → ∃ k t, ns[i]? = some k ∧ v = .int k t := fun i v hv => by
          have hi : i < ns.length := by rw [← usz]; exact (Array.getElem?_eq_some_iff.mp hv).1
          obtain ⟨t, e⟩ := IntsAre.int_at are i v (by rw [Array.getElem?_toList]; exact hv)
          refine ⟨ns[i], t, List.getElem?_eq_getElem hi, ?_⟩
          rw [e, List.getD_eq_getElem?_getD, List.getElem?_eq_getElem hi] <;> rfl
        refine set_update_ints ((Walks.list quiet3 _ l neI us).toS) s.heap.objs.size nfp ns usz few val (us.size - 0) 0 _ (by omega) (Nat.zero_le _) ⟨⟨_, Heap.get?_push_size _ rfl, rfl, rfl⟩, (isl1.push _)⟩ ?start ?ends
        case start =>
          exact ⟨0, Nat.le_refl 0, setR_new_at (Heap.get?_push_of_some _ atS)⟩
        case ends =>
          intro s' c' mv hc' hS'
          obtain ⟨hp, g2, d', tk', os'⟩ := s'
          have eg : g2 = s.gens := mv.gens
          have ed : d' = s.drawn := mv.drawn
          have eo : os' = s.os := mv.os
          subst eg; subst ed; subst eo
          rw [usz] at hc'
          refine (show wpAny _ _ _ _ _ _ from wpAny_pure (show wpAny _ _ (ret Value.none) _ _ _ from wpAny_pure ⟨rfl, hp, tk', c', rfl, hS', hc', fun b o e => ?_⟩))
          have hb0 : b < s.heap.objs.size := Heap.lt_size e
          refine mv.heap b o (fun hm => ?_) (Heap.get?_push_of_some _ (Heap.get?_push_of_some _ e))
          rcases List.mem_cons.mp hm with e1 | e1
          · exact absurd e1 (Nat.ne_of_lt hb0)
          · have e2 := List.mem_singleton.mp e1
            rw [e2, sz1] at hb0
            exact absurd hb0 (Nat.not_lt.mpr (Nat.le_succ _))
      · cases r₂ with
        | error e => exact hr₂
        | ok fl₂ =>
          cases fl₂ with
          | ret r =>
            obtain ⟨rfl, hp, tk, c', rfl, hS', hc', hk'⟩ := hr₂
            repeat (any_goals (first | assumption | wp_step))
            exact fin _ _ _ hS' hc' hk'
          | _ => exact hr₂.elim
    | _ => exact hr.elim
end
end Pv
set_option Elab.async false
set_option linter.all false
set_option maxRecDepth 100000
set_option maxHeartbeats 1000000
namespace Pv
open PySem PySem.Spec L2
open PyProof.Rows hiding St signs cutD pairD
/-! ### each number once, ascending -/
def insU (x : Int) : List Int → List Int
  | [] => [x]
  | y :: l => if x < y then x :: y :: l else if x = y then y :: l else y :: insU x l
def srtU : List Int → List Int
  | [] => []
  | x :: l => insU x (srtU l)
theorem insU_mem (x k : Int) : ∀ l : List Int, k ∈ insU x l ↔ k = x ∨ k ∈ l
  | [] => by simp [insU]
  | y :: l => by
    unfold insU
    split
    · simp
    · split
      · rename_i h; subst h; simp
      · simp only [List.mem_cons, insU_mem x k l]
        constructor
        · rintro (h | h | h)
          · exact .inr (.inl h)
          · exact .inl h
          · exact .inr (.inr h)
        · rintro (h | h | h)
          · exact .inr (.inl h)
          · exact .inl h
          · exact .inr (.inr h)
theorem srtU_mem (k : Int) : ∀ l : List Int, k ∈ srtU l ↔ k ∈ l
  | [] => by simp [srtU]
  | x :: l => by
    unfold srtU
    rw [insU_mem, srtU_mem k l, List.mem_cons]
theorem insU_asc (x : Int) : ∀ l : List Int, l.Pairwise (· < ·) → (insU x l).Pairwise (· < ·)
  | [], _ => by simp [insU]
  | y :: l, h => by
    obtain ⟨h1, h2⟩ := List.pairwise_cons.mp h
    unfold insU
    split
    · rename_i hxy
      refine List.pairwise_cons.mpr ⟨fun z hz => ?_, h⟩
      rcases List.mem_cons.mp hz with e | e
      · subst e; exact hxy
      · have := h1 z e; omega
    · split
      · exact h
      · refine List.pairwise_cons.mpr ⟨fun z hz => ?_, insU_asc x l h2⟩
        rcases (insU_mem x z l).mp hz with e | e
        · subst e; omega
        · exact h1 z e
theorem srtU_asc : ∀ l : List Int, (srtU l).Pairwise (· < ·)
  | [] => List.Pairwise.nil
  | x :: l => insU_asc x _ (srtU_asc l)
theorem asc_unique : ∀ {a b : List Int}, a.Pairwise (· < ·) → b.Pairwise (· < ·) → (∀ k, k ∈ a ↔ k ∈ b) → a = b
  | [], [], _, _, _ => rfl
  | [], y :: b, _, _, h => by have := (h y).mpr List.mem_cons_self; cases this
  | x :: a, [], _, _, h => by have := (h x).mp List.mem_cons_self; cases this
  | x :: a, y :: b, ha, hb, h => by
    obtain ⟨a1, a2⟩ := List.pairwise_cons.mp ha
    obtain ⟨b1, b2⟩ := List.pairwise_cons.mp hb
    have hxy : x = y := by
      rcases List.mem_cons.mp ((h x).mp List.mem_cons_self) with e | e
      · exact e
      · rcases List.mem_cons.mp ((h y).mpr List.mem_cons_self) with f | f
        · exact f.symm
        · have := b1 x e; have := a1 y f; omega
    subst hxy
    rw [asc_unique a2 b2 fun k => ?_]
    constructor
    · intro hk
      rcases List.mem_cons.mp ((h k).mp (List.mem_cons_of_mem _ hk)) with e | e
      · subst e; have := a1 k hk; omega
      · exact e
    · intro hk
      rcases List.mem_cons.mp ((h k).mpr (List.mem_cons_of_mem _ hk)) with e | e
      · subst e; have := b1 k hk; omega
      · exact e
theorem nodup_le {a : List Int} : ∀ {b : List Int}, a.Nodup → (∀ k ∈ a, k ∈ b) → a.length ≤ b.length := by
  induction a with
  | nil => intro b _ _; exact Nat.zero_le _
  | cons x a ih =>
    intro b hn hs
    obtain ⟨n1, n2⟩ := List.nodup_cons.mp hn
    have hx := hs x List.mem_cons_self
    have := ih (b := b.erase x) n2 fun k hk => (List.mem_erase_of_ne (fun e => n1 (by rw [← e]; exact hk))).mpr (hs k (List.mem_cons_of_mem _ hk))
    rw [List.length_erase_of_mem hx] at this
    have hp : 0 < b.length := List.length_pos_of_mem hx
    rw [List.length_cons]
    omega
/-! ### sorted(set(xs)) -/
def tSrtSet (K : PySem.W.Frag) (ta : TE) : TE := fun σ H Q => ta σ H fun x H1 => ∃ (l : Addr) (ns : List Int), x = V.ref l ∧ SqL K H1 l (ns.map V.int) ∧ ns.length + 1 < scanBound ∧ (srtU ns).length < 64 ∧
  ∀ p, H1 p = none → Q (.ref p) (upd H1 p (.lst ((srtU ns).map V.int)))
section
variable {X : Cx}
theorem pe_srtSet {a : Expr} {ta : TE} {p p2 q pos : Pos} (hc : X.calm = true) (hg : Gl X "sorted") (hm : X.mg "sorted" = none) (hg2 : Gl X "set") (hm2 : X.mg "set" = none) (ha : PE X a ta)
    (na : starEach [a] X.env = (false, eval a X.env) :: starEach [] X.env := by rfl) : PE X (.Call (.Name "sorted" p) [.Call (.Name "set" p2) [a] [] q] [] pos) (tSrtSet X.K ta) := by
  refine ⟨fun pins s σ H Q I h => ?_⟩
  refine Call_ (ld_blt I hg hm (show bootBuiltins "sorted" = some (.builtin "sorted") from by decide +kernel) ?_)
  refine PyProof.Rows.callWith_builtin1 (PyProof.Rows.args_cons ?_ rfl) rfl rfl
  refine Call_ (ld_blt I hg2 hm2 PyProof.Rows.boot_set ?_)
  refine PyProof.Rows.callWith_type1 (PyProof.Rows.args_cons (thn (ha.run pins s σ H _ I h) fun v s1 ⟨x, H1, I1, r1, q1⟩ => PyProof.Rows.args_nil ?_) na) na rfl
  obtain ⟨l, ns, rfl, hq, h1, h2, q1⟩ := q1
  cases r1
  obtain ⟨its, r, pl, hz⟩ := I1.list hq
  refine set_of_list ns (I1.ok.hd hc) pl.isList (by simpa using r.ints) h1 fun hp tk c R _ hk => ?_
  refine PyProof.Rows.args_nil ?_
  have I2 : L2.Inv X pins σ H1 { s1 with heap := hp, toks := tk } := I1.kept fun b o e => hk b o e
  have hc64 : c < 64 := by
    obtain ⟨o, es, ep, t, ho, hex, hd, g, nd, hm, hb, hf, hn, hr, hl⟩ := R
    have : (es.toList.map L2.keyOf).length ≤ (srtU ns).length := nodup_le nd fun k hk => (srtU_mem k ns).mpr (by simpa using (hm k).mpr hk)
    rw [List.length_map, Array.length_toList, hn] at this
    omega
  refine sorted_set R (I2.ok.hd hc) hc64 fun s' p out cc ns' k g o hlt hg hi hs hm hl => ?_
  have e : ns' = srtU ns := asc_unique hs (srtU_asc ns) fun k => by rw [hm k, srtU_mem]; simp
  subst e
  have hlen : ((srtU ns).map V.int).length ≤ sizeLine := by rw [List.length_map]; exact Nat.le_trans (Nat.le_of_lt h2) (by decide)
  have hn : H1 p = none := I2.hok.fresh hlt
  have J : L2.Inv X pins σ (upd H1 p (.lst ((srtU ns).map V.int))) { ({ s1 with heap := hp, toks := tk } : Shared) with heap := s'.heap, gens := s'.gens, drawn := s'.drawn, toks := s'.toks } :=
    I2.call (ch := []) (Un.laid k hlt hn) (I2.hok.laid k hlt ⟨hlen, out.toList, cc, vals_of_ints hi, hg⟩) (by rw [g]; exact I2.bare) (fun _ z => nomatch z)
  have es : s' = { ({ s1 with heap := hp, toks := tk } : Shared) with heap := s'.heap, gens := s'.gens, drawn := s'.drawn, toks := s'.toks } := by
    cases s'
    cases o
    rfl
  rw [es]
  exact ⟨.ref p, _, J, rfl, q1 p hn⟩
end
end Pv
namespace Pv
open PySem PySem.Spec L2
open PyProof.Rows hiding St signs cutD pairD
def dSrtSet : Pv.D → Option Pv.D
  | .list ds => (intsOfD ds).bind fun ns => if ns.length ≤ 1000 ∧ (srtU ns).length < 64 then some (.list ((srtU ns).map .int)) else none
  | _ => none
def mSrtSet : M → M := mOp1 (onD1 dSrtSet)
theorem ints_of_D : ∀ {ds : List Pv.D} {ns : List Int}, intsOfD ds = some ns → ds = ns.map .int
  | [], ns, h => by cases h; rfl
  | d :: ds, ns, h => by
    cases d with
    | int i =>
      have h' : (intsOfD ds).map (i :: ·) = some ns := h
      obtain ⟨ms, h1, h2⟩ := Option.map_eq_some_iff.mp h'
      subst h2
      rw [ints_of_D h1]; rfl
    | _ => cases h
theorem repL_intsV {K : PySem.W.Frag} {W : Wd} : ∀ {ns : List Int} {xs : List V}, repL K W xs (ns.map .int) → xs = ns.map V.int
  | [], xs, h => h
  | n :: ns, xs, ⟨v, us, e, r, l⟩ => by
    subst e
    rw [show v = V.int n from r, repL_intsV l]; rfl
theorem repL_intsB {K : PySem.W.Frag} {W : Wd} : ∀ (ns : List Int), repL K W (ns.map V.int) (ns.map .int)
  | [] => rfl
  | n :: ns => ⟨_, _, rfl, rfl, repL_intsB ns⟩
section
variable {X : Cx} {Wx : WX} {ea : Expr} {ma : M} {pos p p2 q : Pos}
theorem ge_srtSet (g : Gd X) (hm : X.mg "sorted" = none) (hm2 : X.mg "set" = none) (ha : GE X Wx ea ma) (hg : Gl X "sorted" := by rfl) (hg2 : Gl X "set" := by rfl)
    (he : starEach [ea] X.env = (false, eval ea X.env) :: starEach [] X.env := by rfl) : GE X Wx (.Call (.Name "sorted" p) [.Call (.Name "set" p2) [ea] [] q] [] pos) (mSrtSet ma) := by
  refine PE.imp (pe_srtSet g.calm hg hm hg2 hm2 ha he) fun sh H Q ⟨W, sl, st, hr, hs, qq⟩ => ?_
  refine rd_bind hr hs qq fun d1 st1 W1 v1 H1 e1 x1 h1 s1 r1 p1 => ?_
  obtain ⟨d, e, p1⟩ := onD1_post p1
  cases hx : deref st1 d1 with
  | list ds =>
    rw [hx] at e
    unfold dSrtSet at e
    obtain ⟨ns, n1, n2⟩ := Option.bind_eq_some_iff.mp e
    split at n2
    · rename_i hk
      cases n2
      obtain ⟨a, xs, q1, q2, l⟩ := rep_dlist h1 r1 hx
      subst q1
      rw [ints_of_D n1] at l
      have ex := repL_intsV l
      subst ex
      refine ⟨a, ns, rfl, .inl (.inl q2), Nat.lt_of_le_of_lt (Nat.succ_le_succ hk.1) (by decide), hk.2, fun b hb => ?_⟩
      exact Post.lst h1 p1 (repL_intsB _) b hb
    · cases n2
  | _ => rw [hx] at e; cases e
end
end Pv
set_option Elab.async false
set_option linter.all false
set_option maxRecDepth 100000
set_option maxHeartbeats 1000000
set_option pp.maxSteps 1500
namespace Pv
open PySem PySem.Spec L2
open PyProof.Rows hiding St signs cutD pairD
/-! ### stamps rise along causes -/
def ltST (p s : Stamp) : Prop := p.1 < s.1 ∨ (p.1 = s.1 ∧ p.2 < s.2)
theorem ltST.trans {a b c : Stamp} (h : ltST a b) (k : ltST b c) : ltST a c := by
  unfold ltST at *
  omega
theorem nstK_lt {n : Net} {ks : List Stamp} {rd : Int} {s : Stamp} (h : nstK n ks rd = some s) : ∀ p ∈ ks, ltST p s := by
  intro p hp
  unfold nstK at h
  simp only at h
  obtain ⟨m, hm⟩ : ∃ m, maxI (ks.map (·.1)) = some m := by
    cases hm : maxI (ks.map (·.1)) with
    | none =>
      cases ks with
      | nil => cases hp
      | cons a l => cases hm
    | some m => exact ⟨m, rfl⟩
  have mk : mark ks rd = m := by unfold mark; rw [hm]; rfl
  rw [mk] at h
  have hle : p.1 ≤ m := maxI_le hm _ (List.mem_map.mpr ⟨p, hp, rfl⟩)
  by_cases h1 : m < rd
  · rw [if_pos h1] at h
    cases h
    exact .inl (by show p.1 < rd; omega)
  · rw [if_neg h1] at h
    obtain ⟨q, hq, hqm⟩ := List.mem_map.mp (maxI_some hm)
    obtain ⟨c, hc⟩ : ∃ c, maxI ((ks.filter fun s => decide (s.1 = m)).map (·.2)) = some c := by
      have : q ∈ ks.filter fun s => decide (s.1 = m) := List.mem_filter.mpr ⟨hq, by simpa using hqm⟩
      cases hf : ks.filter fun s => decide (s.1 = m) with
      | nil => rw [hf] at this; cases this
      | cons y l => exact ⟨_, rfl⟩
    rw [hc] at h
    simp only [Option.getD_some] at h
    have hcm : p.1 = m → p.2 ≤ c := fun he => maxI_le hc _ (List.mem_map.mpr ⟨p, List.mem_filter.mpr ⟨hp, by simpa using he⟩, rfl⟩)
    have fin1 : ltST p (m, 1 + c) := by
      by_cases he : p.1 = m
      · have := hcm he
        exact .inr ⟨he, by show p.2 < 1 + c; omega⟩
      · exact .inl (by show p.1 < m; omega)
    have fin2 : ltST p (m + 1, 0) := .inl (by show p.1 < m + 1; omega)
    cases hmost : n.most with
    | none =>
      rw [hmost] at h
      simp only [if_true] at h
      cases h
      exact fin1
    | some k =>
      rw [hmost] at h
      simp only at h
      by_cases h2 : 1 + c ≤ k
      · rw [if_pos (by simpa using h2)] at h
        cases h
        exact fin1
      · rw [if_neg (by simpa using h2)] at h
        by_cases h3 : (n.rule == Str.ofString "more") = true
        · rw [if_pos h3] at h
          cases h
          exact fin2
        · rw [if_neg h3] at h
          cases h
theorem stp_lt {n : Net} {es : List Ev} {ss : List Stamp} (h : stp n es = ss.map some) (hb : letB 0 es = true) {k : Nat} (hk : k < es.length) : ∀ i ∈ causes es k, ltST (ss.getD i (0, 0)) (ss.getD k (0, 0)) := fun i hi =>
  nstK_lt (stp_at h hb hk) _ (List.mem_map.mpr ⟨i, hi, rfl⟩)
/-- whose stamp is less comes first -/
theorem row_lt {ss : List Stamp} {es : List Ev} {i j : Nat} (h : ltST (ss.getD i (0, 0)) (ss.getD j (0, 0))) : dLe (rowK ss es j) (rowK ss es i) = false := by
  have key : ∀ (m c m' c' : Int) (r t : List (Int ⊕ List Nat)), (m < m' ∨ (m = m' ∧ c < c')) → PyProof.Rows.lexLt PyProof.Rows.itemOrd (.inl 1 :: .inl 1 :: .inl m :: .inl 1 :: .inl c :: r) (.inl 1 :: .inl 1 :: .inl m' :: .inl 1 :: .inl c' :: t) = true := by
    intro m c m' c' r t h
    rw [PyProof.Rows.lex_self, PyProof.Rows.lex_self]
    rcases h with h | ⟨h, h2⟩
    · rw [PyProof.Rows.lex_diff (fun e => by have := Sum.inl.inj e; omega)]
      show decide (m < m') = true
      simpa using h
    · subst h
      rw [PyProof.Rows.lex_self, PyProof.Rows.lex_self, PyProof.Rows.lex_diff (fun e => by have := Sum.inl.inj e; omega)]
      show decide (c < c') = true
      simpa using h2
  have hk := key (ss.getD i (0, 0)).1 (ss.getD i (0, 0)).2 (ss.getD j (0, 0)).1 (ss.getD j (0, 0)).2 ([.inl 0] ++ (.inl 1 :: ((match es[i]? with | some e => e.h | none => Str.ofString "").cps.toList |> Sum.inr) :: [.inl 1, .inl (i : Int), .inl 0])) ([.inl 0] ++ (.inl 1 :: ((match es[j]? with | some e => e.h | none => Str.ofString "").cps.toList |> Sum.inr) :: [.inl 1, .inl (j : Int), .inl 0])) h
  exact congrArg Bool.not hk
theorem ord_pairwise (ss : List Stamp) (es : List Ev) : (ordOf ss es).Pairwise fun i j => dLe (rowK ss es i) (rowK ss es j) = true :=
  PySem.W.sort_pairwise (TotalLe.on dLe_total (rowK ss es)) (List.range es.length)
theorem ord_before {ss : List Stamp} {es : List Ev} {p i j : Nat} (hp : (ordOf ss es)[p]? = some j) (hi : i < es.length) (h : ltST (ss.getD i (0, 0)) (ss.getD j (0, 0))) : i ∈ (ordOf ss es).take p := by
  have hm : i ∈ ordOf ss es := (List.mergeSort_perm _ _).mem_iff.mpr (List.mem_range.mpr hi)
  obtain ⟨q, hq⟩ := List.mem_iff_getElem?.mp hm
  have hql := (List.getElem?_eq_some_iff.mp hq)
  have hpl := (List.getElem?_eq_some_iff.mp hp)
  have hlt : q < p := by
    rcases Nat.lt_trichotomy q p with h1 | h1 | h1
    · exact h1
    · subst h1
      rw [hp] at hq
      cases hq
      unfold ltST at h
      omega
    · have := (List.pairwise_iff_getElem.mp (ord_pairwise ss es)) p q hpl.1 hql.1 h1
      rw [hpl.2, hql.2, row_lt h] at this
      cases this
  refine List.mem_iff_getElem?.mpr ⟨q, ?_⟩
  rw [List.getElem?_take, if_pos hlt]
  exact hq
/-! ### all that is ahead of an event -/
def anc (es : List Ev) : Nat → List (List Int)
  | 0 => []
  | k + 1 => anc es k ++ [srtU ((causes es k).flatMap fun (i : Nat) => (i : Int) :: ((anc es k).getD i []))]
theorem anc_len (es : List Ev) : ∀ k, (anc es k).length = k
  | 0 => rfl
  | k + 1 => by unfold anc; rw [List.length_append, anc_len es k]; rfl
theorem anc_lt {n : Net} {es : List Ev} {ss : List Stamp} (h : stp n es = ss.map some) (hb : letB 0 es = true) : ∀ k, k ≤ es.length → ∀ j, j < k → ∀ x ∈ (anc es k).getD j [], ∃ i : Nat, x = (i : Int) ∧ i < j ∧ ltST (ss.getD i (0, 0)) (ss.getD j (0, 0))
  | 0, _, j, hj, _, _ => absurd hj (Nat.not_lt_zero j)
  | k + 1, hk, j, hj, x, hx => by
    unfold anc at hx
    rw [List.getD_eq_getElem?_getD] at hx
    by_cases hjk : j < k
    · rw [List.getElem?_append_left (by rw [anc_len]; exact hjk), ← List.getD_eq_getElem?_getD] at hx
      exact anc_lt h hb k (by omega) j hjk x hx
    · have e : j = k := by omega
      subst e
      rw [List.getElem?_append_right (by rw [anc_len]; exact Nat.le_refl _), anc_len, Nat.sub_self] at hx
      have hx' : x ∈ srtU ((causes es j).flatMap fun (i : Nat) => (i : Int) :: ((anc es j).getD i [])) := hx
      rw [srtU_mem, List.mem_flatMap] at hx'
      obtain ⟨i, hi, hxi⟩ := hx'
      have hij := causes_bound hb (show j < es.length by omega) i hi
      have hlt := stp_lt h hb (show j < es.length by omega) i hi
      rcases List.mem_cons.mp hxi with e | e
      · exact ⟨i, e, hij, hlt⟩
      · obtain ⟨u, hu, hu2, hu3⟩ := anc_lt h hb j (by omega) i hij x e
        exact ⟨u, hu, by omega, hu3.trans hlt⟩
theorem anc_short {n : Net} {es : List Ev} {ss : List Stamp} (h : stp n es = ss.map some) (hb : letB 0 es = true) (hl : es.length ≤ 62) : ∀ k, k ≤ es.length → ∀ j, j < k → ((anc es k).getD j []).length ≤ 62 := fun k hk j hj => by
  have asc : ((anc es k).getD j []).Pairwise (· < ·) := by
    have key : ∀ k, ∀ j, j < k → ((anc es k).getD j []).Pairwise (· < ·) := by
      intro k
      induction k with
      | zero => intro j hj; exact absurd hj (Nat.not_lt_zero j)
      | succ k ih =>
        intro j hj
        unfold anc
        rw [List.getD_eq_getElem?_getD]
        by_cases hjk : j < k
        · rw [List.getElem?_append_left (by rw [anc_len]; exact hjk), ← List.getD_eq_getElem?_getD]
          exact ih j hjk
        · have e : j = k := by omega
          subst e
          rw [List.getElem?_append_right (by rw [anc_len]; exact Nat.le_refl _), anc_len, Nat.sub_self]
          exact srtU_asc _
    exact key k j hj
  have := nodup_le (b := (List.range es.length).map fun (i : Nat) => (i : Int)) (asc.imp fun {a b} hab e => by omega) fun x hx => by
    obtain ⟨i, rfl, hi, _⟩ := anc_lt h hb k hk j hj x hx
    exact List.mem_map.mpr ⟨i, List.mem_range.mpr (by omega), rfl⟩
  rw [List.length_map, List.length_range] at this
  omega
theorem anc_get {es : List Ev} : ∀ {k m j : Nat}, j < k → k ≤ m → (anc es m).getD j [] = (anc es k).getD j [] := by
  intro k m j hj hkm
  induction m with
  | zero => omega
  | succ m ih =>
    by_cases e : k = m + 1
    · rw [e]
    · rw [← ih (by omega)]
      conv => lhs; unfold anc
      rw [List.getD_eq_getElem?_getD, List.getElem?_append_left (by rw [anc_len]; omega), ← List.getD_eq_getElem?_getD]
/-! ### stamps, or that one is missing -/
def allS : List (Option Stamp) → Option (List Stamp)
  | [] => some []
  | none :: _ => none
  | some s :: l => (allS l).map (s :: ·)
theorem allS_some : ∀ ss : List Stamp, allS (ss.map some) = some ss
  | [] => rfl
  | s :: ss => by show (allS (ss.map some)).map (s :: ·) = _; rw [allS_some ss]; rfl
theorem allS_none : ∀ (ss : List Stamp) (l : List (Option Stamp)), allS (ss.map some ++ none :: l) = none
  | [], l => rfl
  | s :: ss, l => by show (allS (ss.map some ++ none :: l)).map (s :: ·) = _; rw [allS_none ss l]; rfl
theorem allS_eq {l : List (Option Stamp)} : ∀ {ss : List Stamp}, allS l = some ss → l = ss.map some := by
  induction l with
  | nil => intro ss h; cases h; rfl
  | cons o l ih =>
    intro ss h
    cases o with
    | none => cases h
    | some s =>
      have h' : (allS l).map (s :: ·) = some ss := h
      obtain ⟨t, h1, h2⟩ := Option.map_eq_some_iff.mp h'
      subst h2
      rw [ih h1]; rfl
theorem stL_stop (n : Net) : ∀ (es fs : List Ev) (lat : Str → Option Stamp) (acc ss : List Stamp), stL n es lat acc = ss.map some ++ [none] → stL n (es ++ fs) lat acc = ss.map some ++ [none]
  | [], fs, lat, acc, ss, h => by
    unfold stL at h
    have : (none : Option Stamp) ∈ acc.map some := by rw [h]; simp
    obtain ⟨a, _, ha⟩ := List.mem_map.mp this
    cases ha
  | e :: es, fs, lat, acc, ss, h => by
    rw [List.cons_append]
    unfold stL at h ⊢
    cases hs : nst n (lat e.h) (e.l.bind fun l => acc[l]?) e.r with
    | none => rw [hs] at h; exact h
    | some s =>
      rw [hs] at h
      exact stL_stop n es fs _ _ ss h
/-- one step of a law's own reckoning of the stamps -/
theorem stamps_step {n : Net} {es : List Ev} (hb : letB 0 es = true) {k : Nat} (hk : k < es.length) {acc : List Stamp} (h : stp n (es.take k) = acc.map some) :
    (nstK n ((causes es k).map fun j => acc.getD j (0, 0)) es[k].r = none → allS (stp n es) = none) ∧ ∀ s, nstK n ((causes es k).map fun j => acc.getD j (0, 0)) es[k].r = some s → stp n (es.take (k + 1)) = (acc ++ [s]).map some := by
  have e1 : es.take k ++ [es[k]] = es.take (k + 1) := (List.take_succ_eq_append_getElem hk).symm
  have tl : (es.take k).length = k := by rw [List.length_take]; omega
  have hl : ∀ l, es[k].l = some l → l < (es.take k).length := fun l hl => by
    have := letB_at hb k _ l (List.getElem?_eq_getElem hk) hl
    omega
  have h1 := stp_snoc h es[k] hl
  rw [e1, tl, ← e1, causes_take hk] at h1
  constructor
  · intro hn
    rw [hn, e1] at h1
    have h2 : stp n es = acc.map some ++ [none] := by
      have := stL_stop n (es.take (k + 1)) (es.drop (k + 1)) _ _ acc h1
      rwa [List.take_append_drop] at this
    rw [h2]
    exact allS_none acc []
  · intro s hs
    rw [hs, e1] at h1
    exact h1
end Pv
set_option Elab.async false
set_option linter.all false
set_option maxRecDepth 100000
set_option maxHeartbeats 400000
namespace Pv
open PySem PySem.Spec L2
open PyProof.Rows hiding St
/-! ### str(a whole number), x.upper() -/
def dStrI : D → Option D
  | .int i => if i.natAbs < 10 ^ 62 then some (.str (toString i)) else none
  | _ => none
def mStrI : M → M := mOp1 (onD1 dStrI)
def dUpper : D → Option D
  | .str a => if a.length ≤ 1000 then some (.str (Txt.upper a)) else none
  | _ => none
def mUpper : M → M := mOp1 (onD1 dUpper)
section
variable {X : Cx} {Wx : WX} {ea : Expr} {ma : M} {pos p apos : Pos}
theorem ge_tostr (hm : X.mg "str" = none) (ha : GE X Wx ea ma) (hg : Gl X "str" := by rfl)
    (he : starEach (ea :: []) X.env = (false, eval ea X.env) :: starEach [] X.env := by rfl) (hpl : (backTo pos (starEach [] X.env)).any (·.1) = false := by rfl) : GE X Wx (.Call (.Name "str" p) [ea] [] pos) (mStrI ma) := by
  refine ge_callT1 call_str_int onD1_nx ?_ hg hm PyProof.Rows.boot_str ha (by decide +kernel) (by decide +kernel) he hpl
  intro W H st x dx Q hr rx p
  obtain ⟨d, e, p⟩ := onD1_post p
  cases hx : deref st dx with
  | int i =>
    rw [hx] at e
    simp only [dStrI] at e
    split at e
    · rename_i hl
      cases e
      rw [rep_dint hr rx hx]
      refine ⟨i, rfl, ?_, p.val hr rfl⟩
      by_cases h0 : i.natAbs = 0
      · rw [h0]; decide
      · exact Nat.lt_of_lt_of_le ((Nat.log2_lt h0).mpr (Nat.lt_of_lt_of_le hl (by decide : 10 ^ 62 ≤ 2 ^ 300))) (by decide)
    · cases e
  | _ => rw [hx] at e; cases e
theorem ge_upper (ha : GE X Wx ea ma) (hbase : attributeBase ea "upper" X.env (eval ea X.env) = eval ea X.env := by rfl) (hline : (apos.endLine == pos.line) = true := by rfl) :
    GE X Wx (.Call (.Attribute ea "upper" apos) [] [] pos) (mUpper ma) := by
  refine PE.imp (pe_upper ha hbase hline) fun sh H Q ⟨W, sl, st, hr, hs, q⟩ => ?_
  refine rd_bind hr hs q fun d1 st1 W1 v1 H1 e1 x1 h1 s1 r1 p1 => ?_
  obtain ⟨d, e, p⟩ := onD1_post p1
  cases hx : deref st1 d1 with
  | str a =>
    rw [hx] at e
    simp only [dUpper] at e
    split at e
    · rename_i hl
      cases e
      have hv := rep_dstr h1 r1 hx
      exact ⟨⟨a, hv⟩, a, hv, rfl, Nat.le_trans hl (by decide), p.val h1 rfl⟩
    · cases e
  | _ => rw [hx] at e; cases e
end
end Pv
set_option Elab.async false
set_option linter.all false
set_option maxRecDepth 100000
set_option maxHeartbeats 400000
namespace Pv
open PySem PySem.Spec L2
open PyProof.Rows hiding St
/-! ### xs + ys, when the answer is appended to later -/
def fAddM : F2 := fun x y st => match deref st x, deref st y with
  | .list a, .list b => if a.length + b.length ≤ sizeLine then .ok (Rf st.length) (st ++ [.lst (a ++ b)]) else .bad
  | _, _ => .bad
def mAddM : M → M → M := mOp2 fAddM
theorem fAddM_nx : ∀ (x y : D) (st : Sto) ex s2, fAddM x y st ≠ .exc ex s2 := by
  intro x y st ex s2 h
  unfold fAddM at h
  split at h
  · split at h <;> cases h
  · cases h
section
variable {X : Cx} {Wx : WX} {ea eb : Expr} {ma mb : M} {pos : Pos}
theorem ge_addM (ha : GE X Wx ea ma) (hb : GE X Wx eb mb) : GE X Wx (.BinOp ea .Add eb pos) (mAddM ma mb) := by
  refine ge_op2 fAddM_nx ?_ (pe_op op_cat ha hb)
  intro W H st x y dx dy Q hr rx ry p0
  unfold fAddM at p0
  split at p0
  · rename_i a b hx hy
    split at p0
    · rename_i hl
      obtain ⟨a1, xs, e1, h1, l1⟩ := rep_dlist hr rx hx
      obtain ⟨a2, ys, e2, h2, l2⟩ := rep_dlist hr ry hy
      exact ⟨a1, a2, xs, ys, e1, e2, h1, h2, by rw [repL_length l1, repL_length l2]; exact hl, p0.lstM hr (repL_append l1 l2)⟩
    · exact p0.elim
  · exact p0.elim
@[simp] theorem e_addM {a b : M} {sl : Sl} {st : Sto} : mAddM a b sl st = (a sl st).bind fun x st => (b sl st).bind fun y st => fAddM x y st := rfl
end
end Pv
set_option Elab.async false
set_option linter.all false
set_option maxRecDepth 100000
set_option maxHeartbeats 400000
namespace Pv
open PySem PySem.Spec L2
open PyProof.Rows hiding St signs cutD pairD
/-! ### sizes of written data with open numbers -/
mutual
/-- the weight, each number counted as a small one -/
def wtS : Pv.D → Nat
  | .none => 8
  | .bool _ => 8
  | .int _ => 64
  | .str z => 10 * z.length + 4
  | .list ds => wtSL ds + 4
  | .tuple ds => wtSL ds + 4
  | .dict _ => 2 ^ 30
def wtSL : List Pv.D → Nat
  | [] => 0
  | d :: ds => wtS d + 4 + wtSL ds
end
mutual
/-- all numbers of a datum are as p says -/
def eachI (p : Int → Prop) : Pv.D → Prop
  | .none => True
  | .bool _ => True
  | .int i => p i
  | .str _ => True
  | .list ds => eachIL p ds
  | .tuple ds => eachIL p ds
  | .dict _ => False
def eachIL (p : Int → Prop) : List Pv.D → Prop
  | [] => True
  | d :: ds => eachI p d ∧ eachIL p ds
end
def Sm (i : Int) : Prop := i.natAbs < 10 ^ 62
mutual
theorem wtS_eq : ∀ d : Pv.D, eachI Sm d → wt d = wtS d
  | .none, _ => rfl
  | .bool _, _ => rfl
  | .int i, h => by unfold wt wtS; rw [if_pos (show i.natAbs < 10 ^ 62 from h)]
  | .str _, _ => rfl
  | .list ds, h => by unfold wt wtS; rw [wtSL_eq ds h]
  | .tuple ds, h => by unfold wt wtS; rw [wtSL_eq ds h]
  | .dict _, h => by cases h
theorem wtSL_eq : ∀ ds : List Pv.D, eachIL Sm ds → wtL ds = wtSL ds
  | [], _ => rfl
  | d :: ds, h => by unfold wtL wtSL; rw [wtS_eq d h.1, wtSL_eq ds h.2]
end
theorem eachIL_iff {p : Int → Prop} : ∀ {ds : List Pv.D}, eachIL p ds ↔ ∀ d ∈ ds, eachI p d
  | [] => ⟨fun _ d h => (nomatch h), fun _ => trivial⟩
  | d :: ds => by
    rw [List.forall_mem_cons]
    exact ⟨fun h => ⟨h.1, eachIL_iff.mp h.2⟩, fun h => ⟨h.1, eachIL_iff.mpr h.2⟩⟩
theorem ok_of {d : Pv.D} {n k : Nat} (h1 : d.canLay0 = true) (h2 : eachI Sm d) (h3 : Nat.ble (wtS d) n = true) (h4 : Nat.ble d.depth k = true) : Ok d n k :=
  ⟨h1, by rw [wtS_eq d h2]; exact Nat.le_of_ble_eq_true h3, Nat.le_of_ble_eq_true h4⟩
end Pv
set_option Elab.async false
set_option linter.all false
set_option maxRecDepth 100000
set_option maxHeartbeats 3200000
namespace Pv
open PySem PySem.Spec L2
open PyProof.Rows hiding St signs cutD pairD
/-! ### sets of whole numbers and of texts, with what their order can be -/
def kofV : Value → L2.Key
  | .int i _ => .inl i
  | .str x _ => .inr x
  | _ => .inl 0
def kofE (e : Int × Value) : L2.Key := kofV e.2
theorem kof_is {k : L2.Key} {v : Value} (h : keyIs k v = true) : kofV v = k := by
  rcases keyIs_shape h with ⟨i, t, rfl, rfl⟩ | ⟨x, t, rfl, rfl⟩ <;> rfl
theorem is_scan {k : L2.Key} {v : Value} (h : keyIs k v = true) : v.scannable = true := by
  rcases keyIs_shape h with ⟨i, t, rfl, rfl⟩ | ⟨x, t, rfl, rfl⟩ <;> rfl
/-- an element as it is kept: its hash, its value -/
def MemE (w : World) (e : Int × Value) : Prop := keyIs (kofE e) e.2 = true ∧ e.1 = keyH w (kofE e)
/-- the set at a has just the members of L -/
def SetM (w : World) (h : Heap) (a : Addr) (L : List L2.Key) : Prop :=
  ∃ ob rows age tab, h.get? a = some ob ∧ ob.ExactSet ∧ ob.data = .set rows age tab ∧ (∀ e ∈ rows.toList, MemE w e) ∧ (rows.toList.map kofE).Nodup ∧ (∀ k, k ∈ rows.toList.map kofE ↔ k ∈ L) ∧
    rows.size < scanBound ∧ tab.fits rows.size = true ∧ Ris tab.place.toList ∧ (w.params.followText "set-order" = true ∨ tab.led = true)
section
variable {P : Program} {w : World} {A : Around} {E : Value → Shared → Prop} {s : Shared} {a : Addr} {L : List L2.Key} {h h' : Heap}
theorem SetM.at (R : SetM w h a L) (keep : ∀ o, h.get? a = some o → h'.get? a = some o) : SetM w h' a L := by
  obtain ⟨ob, rows, age, tab, g, r⟩ := R
  exact ⟨ob, rows, age, tab, keep ob g, r⟩
theorem SetM.congr {L' : List L2.Key} (R : SetM w h a L) (e : ∀ k, k ∈ L ↔ k ∈ L') : SetM w h a L' := by
  obtain ⟨ob, rows, age, tab, g1, g2, g3, g4, g5, g6, r⟩ := R
  exact ⟨ob, rows, age, tab, g1, g2, g3, g4, g5, fun k => (g6 k).trans (e k), r⟩
theorem mem_elems {l : List (Int × Value)} (g : ∀ e ∈ l, MemE w e) : ElemsOf (mixKind P w) l := fun e he => ⟨⟨kofE e, (g e he).1, (g e he).2⟩, is_scan (g e he).1⟩
theorem mem_is {e : Int × Value} (g : MemE w e) (k : L2.Key) : (mixKind P w).is k e.2 = true ↔ kofE e = k :=
  ⟨fun q => kof_is q, fun q => by subst q; exact g.1⟩
theorem mem_map {l : List (Int × Value)} (g : ∀ e ∈ l, MemE w e) (k : L2.Key) : k ∈ l.map kofE ↔ ∃ e ∈ l, (mixKind P w).is k e.2 = true := by
  constructor
  · intro q
    obtain ⟨e, he, e1⟩ := List.mem_map.mp q
    exact ⟨e, he, (mem_is (g e he) k).mpr e1⟩
  · rintro ⟨e, he, q⟩
    exact List.mem_map.mpr ⟨e, he, (mem_is (g e he) k).mp q⟩
theorem keys_le {α : Type} [DecidableEq α] {ks : List α} : ∀ {l : List α}, ks.Nodup → (∀ k ∈ ks, k ∈ l) → ks.length ≤ l.length := by
  induction ks with
  | nil => intro l _ _; exact Nat.zero_le _
  | cons x ks ih =>
    intro l hn hs
    obtain ⟨n1, n2⟩ := List.nodup_cons.mp hn
    have hx := hs x List.mem_cons_self
    have := ih (l := l.erase x) n2 fun k hk => (List.mem_erase_of_ne (fun e => n1 (by rw [← e]; exact hk))).mpr (hs k (List.mem_cons_of_mem _ hk))
    rw [List.length_erase_of_mem hx] at this
    have hp : 0 < l.length := List.length_pos_of_mem hx
    rw [List.length_cons]
    omega
/-- laying the new rows down, and again if the table is too full -/
theorem setM_lay {g : Bool → Sem Unit} (say : ∀ (b : Bool) (s1 : Shared) (Z : Unit → Shared → Prop), Z () s1 → wpAny (model P w) A (g b) Z E s1)
    {ob : Obj} {rows new : Array (Int × Value)} {age : Nat} {tab tab2 : SetTable} (at1 : s.heap.get? a = some ob) (ex : ob.ExactSet) (da : ob.data = .set rows age tab)
    (g1 : ∀ e ∈ new.toList, MemE w e) (nd1 : (new.toList.map kofE).Nodup) (m1 : ∀ k, k ∈ new.toList.map kofE ↔ k ∈ L) (few : new.size < scanBound) (fi : tab2.fits new.size = true) (ri : Ris tab2.place.toList)
    (le : w.params.followText "set-order" = true ∨ tab2.led = true) {dum : Bool} {Z : Option Bool → Shared → Prop} (fin : ∀ hp, Heap.SameBut a s.heap hp → SetM w hp a L → Z (some true) { s with heap := hp }) :
    wpAny (model P w) A (do
        storeSet a new tab2
        if (!dum && tab2.tooFull) = true then do
            g (relayAll tab2 new (SetTable.grown new.size)).2.2
            storeSet a (relayAll tab2 new (SetTable.grown new.size)).1 (relayAll tab2 new (SetTable.grown new.size)).2.1
            pure (some true)
          else pure (some true)) Z E s := by
  refine wpAny_bind (wpAny_storeSet_of at1 da ?_ (fits_of_scanBound few))
  have at2 := store_at (es' := new) (t' := tab2) at1 da
  have same1 := Heap.SameBut.update s.heap a (Obj.putSet new tab2)
  split
  · have q1 := relayAll_perm tab2 new (SetTable.grown new.size)
    have q2 := relayAll_fits tab2 new (SetTable.grown new.size)
    have q3 := relayAll_ris tab2 new (SetTable.grown new.size)
    have q4 := relayAll_led tab2 new (SetTable.grown new.size)
    generalize relayAll tab2 new (SetTable.grown new.size) = z at q1 q2 q3 q4 ⊢
    obtain ⟨rows2, tab3, gave⟩ := z
    dsimp only at q1 q2 q3 q4 ⊢
    have sz : rows2.size = new.size := by rw [← Array.length_toList, q1.length_eq, Array.length_toList]
    have few2 : rows2.size < scanBound := by rw [sz]; exact few
    refine wpAny_bind (say _ _ _ ?_)
    refine wpAny_bind (wpAny_storeSet_of at2 rfl ?_ (fits_of_scanBound few2))
    have at3 := store_at (es' := rows2) (t' := tab3) at2 rfl
    refine wpAny_pure (fin _ (same1.trans (Heap.SameBut.update _ a _)) ?_)
    exact ⟨_, rows2, _, tab3, at3, ex, rfl, fun e he => g1 e (q1.mem_iff.mp he), (q1.map kofE).nodup_iff.mpr nd1, fun k => (q1.map kofE).mem_iff.trans (m1 k), few2, q2, q3, le.imp id fun z => by rw [q4]; exact z⟩
  · exact wpAny_pure (fin _ same1 ⟨_, new, _, tab2, at2, ex, rfl, g1, nd1, m1, few, fi, ri, le⟩)
/-- a member is put in -/
theorem setM_add {k : L2.Key} {v : Value} {Z : Bool → Shared → Prop} (is : keyIs k v = true) (R : SetM w s.heap a L) (room : L.length + 1 < scanBound)
    (fin : ∀ hp b, Heap.SameBut a s.heap hp → SetM w hp a (L ++ [k]) → Z b { s with heap := hp }) : wpAny (model P w) A (setAddHashed a v ((mixKind P w).hash k)) Z E s := by
  obtain ⟨ob, rows, age, tab, at1, ex, da, g, nd, mem, few, fi, ri, le⟩ := R
  have isk : (mixKind P w).is k v = true := is
  have sc : v.scannable = true := is_scan is
  have el : ElemsOf (mixKind P w) rows.toList := mem_elems g
  have kv : kofV v = k := kof_is is
  unfold setAddHashed setAddHashedIn
  refine wpAny_holding (wpAny_bind (wpAny_setState_of at1 da fi ?_))
  dsimp only
  rw [byScan_of sc few el]
  simp only [↓reduceIte]
  unfold setAddByScan
  refine wpAny_bind ?_
  refine wpAny_bind (wpAny_rule ?_)
  refine wpAny_bind (wpAny_setScan_of isk at1 da fi el ?_)
  cases found : List.findIdx? (fun e => (mixKind P w).is k e.2) rows.toList with
  | some j =>
    dsimp only
    obtain ⟨hj, pj, _⟩ := List.findIdx?_eq_some_iff_getElem.mp found
    have inL : k ∈ L := (mem k).mp ((mem_map (P := P) (w := w) g k).mpr ⟨rows.toList[j], List.getElem_mem hj, pj⟩)
    refine wpAny_pure (wpAny_pure ?_)
    refine fin s.heap _ (Heap.SameBut.refl a s.heap) ⟨ob, rows, age, tab, at1, ex, da, g, nd, fun i => ?_, few, fi, ri, le⟩
    rw [mem i, List.mem_append, List.mem_singleton]
    exact ⟨.inl, fun q => q.elim id fun e => by rw [e]; exact inL⟩
  | none =>
    dsimp only
    have out : k ∉ rows.toList.map kofE := fun q => by
      obtain ⟨e, he, q2⟩ := (mem_map (P := P) (w := w) g k).mp q
      have c := List.findIdx?_eq_none_iff.mp found e he
      rw [q2] at c
      cases c
    have say : ∀ (b : Bool) {s1 : Shared} {Z' : Unit → Shared → Prop}, Z' () s1 → wpAny (model P w) A (match b with | true => rule "set.scan.the-table-gave-way" | false => pure ()) Z' E s1 :=
      fun b s1 Z' q => by cases b <;> first | exact wpAny_pure q | exact wpAny_rule q
    have p1 := layNew_perm tab rows ((mixKind P w).hash k) v
    have p2 := layNew_fits tab rows ((mixKind P w).hash k) v
    have p3 := layNew_ris tab rows ((mixKind P w).hash k) v ri
    have p4 := layNew_led tab rows ((mixKind P w).hash k) v
    generalize layNew tab rows ((mixKind P w).hash k) v = z at p1 p2 p3 p4 ⊢
    obtain ⟨new, tab1, dum, gave⟩ := z
    dsimp only at p1 p2 p3 p4 ⊢
    rw [Array.toList_push] at p1
    have pc : new.toList.Perm (((mixKind P w).hash k, v) :: rows.toList) := p1.trans (List.perm_append_singleton _ _)
    have pk : (new.toList.map kofE).Perm (k :: rows.toList.map kofE) := by
      have := pc.map kofE
      rwa [List.map_cons, show kofE ((mixKind P w).hash k, v) = k from kv] at this
    have g1 : ∀ e ∈ new.toList, MemE w e := fun e he => by
      rcases List.mem_cons.mp (pc.mem_iff.mp he) with z | z
      · rw [z]
        exact ⟨by rw [show kofE ((mixKind P w).hash k, v) = k from kv]; exact is, by rw [show kofE ((mixKind P w).hash k, v) = k from kv]; rfl⟩
      · exact g e z
    have nd1 : (new.toList.map kofE).Nodup := pk.nodup_iff.mpr (List.nodup_cons.mpr ⟨out, nd⟩)
    have m1 : ∀ i, i ∈ new.toList.map kofE ↔ i ∈ L ++ [k] := fun i => by
      rw [pk.mem_iff, List.mem_cons, mem i, List.mem_append, List.mem_singleton]
      exact Or.comm
    have small : rows.size ≤ L.length := by
      have := keys_le nd fun i hi => (mem i).mp hi
      rwa [List.length_map, Array.length_toList] at this
    have sz : new.size = rows.size + 1 := by rw [← Array.length_toList, pc.length_eq, List.length_cons, Array.length_toList]
    have few1 : new.size < scanBound := by omega
    have le1 : w.params.followText "set-order" = true ∨ tab1.led = true := le.imp id fun z => by rw [p4]; exact z
    refine wpAny_bind (say _ ?_)
    split
    · refine wpAny_bind ?_
      rw [hashByValue_scannable 8 sc]
      refine wpAny_pure ?_
      refine setM_lay (L := L ++ [k]) ?_ at1 ex da g1 nd1 m1 few1 ?_ ?_ ?_ ?_
      · intro b s1 Z' q; cases b <;> first | exact wpAny_pure q | exact wpAny_rule q
      · first | (split <;> first | exact p2 | exact SetTable.fits_plain_off p2) | exact p2
      · first | (split <;> exact p3) | exact p3
      · first | (split <;> exact le1) | exact le1
      · intro hp sb r; dsimp only; exact wpAny_pure (fin hp _ sb r)
    · refine wpAny_bind (wpAny_pure ?_)
      simp only [↓reduceIte]
      refine setM_lay (L := L ++ [k]) ?_ at1 ex da g1 nd1 m1 few1 p2 p3 le1 ?_
      · intro b s1 Z' q; cases b <;> first | exact wpAny_pure q | exact wpAny_rule q
      · intro hp sb r; dsimp only; exact wpAny_pure (fin hp _ sb r)
theorem setM_new {h : Heap} (w : World) (at1 : h.get? a = some { cls := .type "set", dict := none, data := .set #[] 0 (.fresh 0 0 (!w.params.followText "set-order")) }) : SetM w h a [] := by
  have q := setR_new_at (w := w) (ns := []) at1
  obtain ⟨o, es, ep, t, ho, hex, hd, _, _, _, hb, hf, hn, hr, hl⟩ := q
  rw [at1] at ho
  cases ho
  have hd' : es = #[] := by cases hd; rfl
  subst hd'
  exact ⟨_, #[], ep, t, at1, hex, hd, fun e he => (nomatch he), List.nodup_nil, fun k => Iff.rfl, hb, hf, hr, hl⟩
end
end Pv
set_option Elab.async false
set_option linter.all false
set_option maxRecDepth 100000
set_option maxHeartbeats 3200000
namespace Pv
open PySem PySem.Spec L2
open PyProof.Rows hiding St signs cutD pairD
/-! ### each thing once, ascending -/
structure SOrd {α : Type} (lt : α → α → Bool) : Prop where
  irr : ∀ x, lt x x = false
  tr : ∀ x y z, lt x y = true → lt y z = true → lt x z = true
  tot : ∀ x y, lt x y = false → lt y x = false → x = y
section
variable {α : Type} (lt : α → α → Bool)
def insO (x : α) : List α → List α
  | [] => [x]
  | y :: l => if lt x y = true then x :: y :: l else if lt y x = true then y :: insO x l else y :: l
def srtO : List α → List α
  | [] => []
  | x :: l => insO lt x (srtO l)
variable {lt}
theorem insO_mem (O : SOrd lt) (x k : α) : ∀ l : List α, k ∈ insO lt x l ↔ k = x ∨ k ∈ l
  | [] => by simp [insO]
  | y :: l => by
    unfold insO
    split
    · simp
    · rename_i h1
      split
      · simp only [List.mem_cons, insO_mem O x k l]
        constructor
        · rintro (h | h | h)
          · exact .inr (.inl h)
          · exact .inl h
          · exact .inr (.inr h)
        · rintro (h | h | h)
          · exact .inr (.inl h)
          · exact .inl h
          · exact .inr (.inr h)
      · rename_i h2
        have := O.tot x y (by simpa using h1) (by simpa using h2)
        subst this
        simp
theorem srtO_mem (O : SOrd lt) (k : α) : ∀ l : List α, k ∈ srtO lt l ↔ k ∈ l
  | [] => by simp [srtO]
  | x :: l => by
    unfold srtO
    rw [insO_mem O, srtO_mem O k l, List.mem_cons]
theorem insO_asc (O : SOrd lt) (x : α) : ∀ l : List α, l.Pairwise (lt · · = true) → (insO lt x l).Pairwise (lt · · = true)
  | [], _ => by simp [insO]
  | y :: l, h => by
    obtain ⟨h1, h2⟩ := List.pairwise_cons.mp h
    unfold insO
    split
    · rename_i hxy
      refine List.pairwise_cons.mpr ⟨fun z hz => ?_, h⟩
      rcases List.mem_cons.mp hz with e | e
      · subst e; exact hxy
      · exact O.tr _ _ _ hxy (h1 z e)
    · split
      · rename_i hyx
        refine List.pairwise_cons.mpr ⟨fun z hz => ?_, insO_asc O x l h2⟩
        rcases (insO_mem O x z l).mp hz with e | e
        · subst e; exact hyx
        · exact h1 z e
      · exact h
theorem srtO_asc (O : SOrd lt) : ∀ l : List α, (srtO lt l).Pairwise (lt · · = true)
  | [] => List.Pairwise.nil
  | x :: l => insO_asc O x _ (srtO_asc O l)
theorem ascB_unique (O : SOrd lt) : ∀ {a b : List α}, a.Pairwise (lt · · = true) → b.Pairwise (lt · · = true) → (∀ k, k ∈ a ↔ k ∈ b) → a = b
  | [], [], _, _, _ => rfl
  | [], y :: b, _, _, h => by have := (h y).mpr List.mem_cons_self; cases this
  | x :: a, [], _, _, h => by have := (h x).mp List.mem_cons_self; cases this
  | x :: a, y :: b, ha, hb, h => by
    obtain ⟨a1, a2⟩ := List.pairwise_cons.mp ha
    obtain ⟨b1, b2⟩ := List.pairwise_cons.mp hb
    have no : ∀ u v : α, lt u v = true → lt v u = true → False := fun u v p q => by
      have := O.tr _ _ _ p q
      rw [O.irr] at this; cases this
    have hxy : x = y := by
      rcases List.mem_cons.mp ((h x).mp List.mem_cons_self) with e | e
      · exact e
      · rcases List.mem_cons.mp ((h y).mpr List.mem_cons_self) with f | f
        · exact f.symm
        · exact (no _ _ (b1 x e) (a1 y f)).elim
    subst hxy
    rw [ascB_unique O a2 b2 fun k => ?_]
    constructor
    · intro hk
      rcases List.mem_cons.mp ((h k).mp (List.mem_cons_of_mem _ hk)) with e | e
      · subst e; have := a1 k hk; rw [O.irr] at this; cases this
      · exact e
    · intro hk
      rcases List.mem_cons.mp ((h k).mpr (List.mem_cons_of_mem _ hk)) with e | e
      · subst e; have := b1 k hk; rw [O.irr] at this; cases this
      · exact e
theorem srtO_id (O : SOrd lt) {l : List α} (h : l.Pairwise (lt · · = true)) : srtO lt l = l := ascB_unique O (srtO_asc O l) h fun k => srtO_mem O k l
theorem ascB_nodup (O : SOrd lt) {l : List α} (h : l.Pairwise (lt · · = true)) : l.Nodup := h.imp fun {a b} p e => by subst e; rw [O.irr] at p; cases p
end
/-- the order of texts -/
def ltX (x y : Str) : Bool := decide (x.cps.toList < y.cps.toList)
theorem ltX_ord : SOrd ltX := ⟨fun x => by simp [ltX, str_lt_irrefl], fun x y z p q => by
  simp only [ltX, decide_eq_true_eq] at p q ⊢
  exact List.lt_trans p q, fun x y p q => by
  simp only [ltX, decide_eq_false_iff_not] at p q
  exact Classical.byContradiction fun n => q (str_total p n)⟩
def srtT (xs : List Str) : List Str := srtO ltX xs
/-! ### set(a list of texts), sorted -/
section
variable {P : Program} {w : World} {A : Around} {E : Value → Shared → Prop} {s : Shared}
theorem setM_loop {J : Addr} {fp wr : List Addr} {G : Array GenState → Array GenState → Prop} {n : Nat} {Pv : Nat → Value → Prop} {Stt : Nat → Shared → Prop} {Z : Result → Shared → Prop}
    (W : WalksS P w A.in1 J fp wr G n Pv Stt) (a : Addr) (apart : a ∉ fp) (ks : List L2.Key) (len : n = ks.length) (few : ks.length + 1 < scanBound) (val : ∀ i v, Pv i v → ∃ k, ks[i]? = some k ∧ keyIs k v = true) :
    ∀ (left i : Nat) (s : Shared), n - i = left → i ≤ n → Stt i s → SetM w s.heap a (ks.take i) →
      (∀ s', Moved (a :: wr) G s s' → SetM w s'.heap a ks → Z (.ok (.ret .none)) s') → codeAny (model P w) A (.builtin "set.update.loop" ⟨[.ref a, .ref J], []⟩) Z s := by
  have nw : a ∉ wr := fun h => apart (W.sub _ h)
  have up : ∀ b ∈ wr, b ∈ a :: wr := fun b hb => List.mem_cons_of_mem _ hb
  intro left
  induction left with
  | zero =>
    intro i s e1 e2 st R fin
    have e3 : i = n := by omega
    subst e3
    refine codeAny_builtin F.entry_set_update_loop ?_
    rw [Around.under_plainId F.plain_set_update_loop _]
    refine (show wpAny _ A.in1 (pyNext (.ref J) >>= _) _ _ s from wpAny_bind (W.done s _ _ st fun s' mv => ?_))
    rw [List.take_of_length_le (by omega : ks.length ≤ i)] at R
    refine (show wpAny _ A.in1 (ret Value.none) _ _ s' from wpAny_pure (fin s' (mv.mono up) (R.at fun o e => mv.heap a o nw e)))
  | succ left ih =>
    intro i s e1 e2 st R fin
    have lt : i < n := by omega
    refine codeAny_builtin F.entry_set_update_loop ?_
    rw [Around.under_plainId F.plain_set_update_loop _]
    refine (show wpAny _ A.in1 (pyNext (.ref J) >>= _) _ _ s from wpAny_bind (W.item i s _ _ lt st fun v s' pv st' mv => ?_))
    obtain ⟨k, hk, is⟩ := val i v pv
    have R' : SetM w s'.heap a (ks.take i) := R.at fun o e => mv.heap a o nw e
    refine (show wpAny _ A.in1 (holding [v] (setAdd a v) >>= _) _ _ s' from wpAny_bind (wpAny_holding ?_))
    unfold setAdd
    refine wpAny_holding ?_
    refine wpAny_bind ((mixKind P w).pyHash (k := k) is ?_)
    refine setM_add (s := { s' with toks := s'.toks + 1 }) is R' (by rw [List.length_take]; omega) fun hp b sb R2 => ?_
    have R3 : SetM w hp a (ks.take (i + 1)) := R2.congr fun j => by
      rw [List.take_add_one, hk]; rfl
    refine wpAny_pure ⟨plainId_quiet F.plain_set_update_loop _, ih (i + 1) _ (by omega) lt (W.frame _ s' _ _ st' (Nat.le_succ _) fun b hb o e => ?_) R3 fun s2 mv2 R4 => ?_⟩
    · rw [sb.2 b (fun h : b = a => apart (by rw [← h]; exact hb))]; exact e
    · refine fin s2 (Moved.trans W.gtrans ((mv.mono up).then_heap (Nat.le_succ _) fun b o hb e => ?_) mv2) R4
      rw [sb.2 b (fun h : b = a => hb (by rw [h]; exact List.mem_cons_self))]; exact e
end
end Pv
set_option Elab.async false
set_option linter.all false
set_option maxRecDepth 100000
set_option maxHeartbeats 3200000
namespace Pv
open PySem PySem.Spec L2
open PyProof.Rows hiding St signs cutD pairD
section
variable {P : Program} {w : World} {A : Around} {E : Value → Shared → Prop} {s : Shared}
theorem setM_of_list {l : Addr} {us : Array Value} (ks : List L2.Key) {Q : Value → Shared → Prop} (quiet : A.handled = none) (isl : s.heap.IsList l us) (szL : us.size = ks.length) (vals : ∀ (i : Nat) (v : Value), us[i]? = some v → ∃ k, ks[i]? = some k ∧ keyIs k v = true) (few : ks.length + 1 < scanBound)
    (fin : ∀ (hp : Heap) (tk : Nat), SetM w hp s.heap.objs.size ks → (∀ b o, s.heap.get? b = some o → hp.get? b = some o) → Q (.ref s.heap.objs.size) { s with heap := hp, toks := tk }) :
    wpAny (model P w) A (call (.type "set") [.ref l]) Q E s := by
  obtain ⟨mc, mt, mroS⟩ := F.called_set.mro
  have madeS := F.called_set.made
  have subS := F.called_set.sub
  refine wpAny_call (codeAny_of_tree (show wpAny _ _ (callAny (.type "set") _) _ _ _ from wpAny_pure ⟨Code.quiet_builtin _ (by decide +kernel), codeAny_builtin F.entry_type_call ?_⟩))
  rw [Around.under_plain (weight_type_call_type "set" [.ref l] []) rfl]
  have nt := F.called_set.notType; have cc := F.called_set.canCreate; have tc := F.typeCall_set_1 (.ref l)
  repeat (any_goals (first | assumption | wp_step))
  refine codeAny_mono (code_set_led1 (.ref l) (E := E) (Q₁ := fun obj s₁ => obj = .ref s.heap.objs.size ∧ s₁ = { s with heap := hpS w s }) ⟨rfl, rfl⟩) fun r s₁ hr => ?_
  cases r with
  | error e => exact hr
  | ok fl =>
    cases fl with
    | ret obj =>
      obtain ⟨rfl, rfl⟩ := hr
      have atS : (hpS w s).get? s.heap.objs.size = some (emS w) := Heap.get?_push_size _ rfl
      have tyS : Shared.TypeIs { s with heap := hpS w s } (.ref s.heap.objs.size) "set" := ⟨_, atS, rfl⟩
      have li := F.called_set.init.lookup; have bi := F.called_set.init.bind (.ref s.heap.objs.size)
      repeat (any_goals (first | assumption | wp_step))
      refine codeAny_mono (codeAny_call_builtin (R := wants (fun r s₂ => r = .none ∧ ∃ hp tk, s₂ = { s with heap := hp, toks := tk } ∧ SetM w hp s.heap.objs.size ks ∧
        ∀ b o, s.heap.get? b = some o → hp.get? b = some o) E) F.called_set.init.plain F.entry_set_init (check_set_init_1 tyS ?_)) fun r₂ s₂ hr₂ => ?_
      · obtain ⟨ol, hol, hcl, nl, hdl⟩ := isl
        obtain ⟨ocls, odict, odata, oslots⟩ := ol
        simp only at hcl hdl
        subst hcl; subst hdl
        have atL : (hpS w s).get? l = some { cls := .type "list", dict := odict, data := .seq us nl, slots := oslots } := Heap.get?_push_of_some _ hol
        have sl1 := F.sub_list_set; have sl2 := F.sub_list_frozenset
        have nd : (Value.type "list" == Value.type "dict") = false := by decide
        have isl1 : (hpS w s).IsList l us := ⟨_, atL, rfl, nl, rfl⟩
        unfold Builtin.«set.__init__» noKeywords Builtin.Frozenset.updateFrom
        generalize hPI : pyIter = PI
        wp_walk
        subst hPI
        refine wpAny_pyIter_list isl1 (wpAny_bind (wpAny_runValue ?_))
        have ltS : l < s.heap.objs.size := Heap.lt_size hol
        have quiet3 : A.in1.in1.in1.handled = none := by simp [quiet]
        have sz1 : (hpS w s).objs.size = s.heap.objs.size + 1 := Heap.size_push ..
        have neI : l ≠ (hpS w s).objs.size := by rw [sz1]; exact Nat.ne_of_lt (Nat.lt_succ_of_lt ltS)
        have nfp : s.heap.objs.size ∉ [(hpS w s).objs.size, l] := by
          rw [sz1]
          intro hm
          rcases List.mem_cons.mp hm with e | e
          · exact absurd e (Nat.ne_of_lt (Nat.lt_succ_self _))
          · exact absurd (List.mem_singleton.mp e) (Nat.ne_of_gt ltS)
        refine setM_loop ((Walks.list quiet3 _ l neI us).toS) s.heap.objs.size nfp ks szL few vals (us.size - 0) 0 _ (by omega) (Nat.zero_le _) ⟨⟨_, Heap.get?_push_size _ rfl, rfl, rfl⟩, (isl1.push _)⟩ ?start ?ends
        case start =>
          exact setM_new w (Heap.get?_push_of_some _ atS)
        case ends =>
          intro s' mv hS'
          obtain ⟨hp, g2, d', tk', os'⟩ := s'
          have eg : g2 = s.gens := mv.gens
          have ed : d' = s.drawn := mv.drawn
          have eo : os' = s.os := mv.os
          subst eg; subst ed; subst eo
          refine (show wpAny _ _ _ _ _ _ from wpAny_pure (show wpAny _ _ (ret Value.none) _ _ _ from wpAny_pure ⟨rfl, hp, tk', rfl, hS', fun b o e => ?_⟩))
          have hb0 : b < s.heap.objs.size := Heap.lt_size e
          refine mv.heap b o (fun hm => ?_) (Heap.get?_push_of_some _ (Heap.get?_push_of_some _ e))
          rcases List.mem_cons.mp hm with e1 | e1
          · exact absurd e1 (Nat.ne_of_lt hb0)
          · have e2 := List.mem_singleton.mp e1
            rw [e2, sz1] at hb0
            exact absurd hb0 (Nat.not_lt.mpr (Nat.le_succ _))
      · cases r₂ with
        | error e => exact hr₂
        | ok fl₂ =>
          cases fl₂ with
          | ret r =>
            obtain ⟨rfl, hp, tk, rfl, hS', hk'⟩ := hr₂
            repeat (any_goals (first | assumption | wp_step))
            exact fin _ _ hS' hk'
          | _ => exact hr₂.elim
    | _ => exact hr.elim
/-- what a text among values says -/
def txtOf : Value → Str
  | .str x _ => x
  | _ => ""
theorem srt_texts {xs ys : List Str} (nd : xs.Nodup) (same : ∀ k, k ∈ xs ↔ k ∈ ys) : xs.mergeSort (PySem.W.dataLe false PyData.str) = srtT ys := by
  have le : PySem.W.dataLe false PyData.str = fun a b => decide (a.cps.toList ≤ b.cps.toList) := PySem.W.dataLe_str id
  rw [le]
  have pm := List.mergeSort_perm xs fun a b => decide (a.cps.toList ≤ b.cps.toList)
  have pw := List.pairwise_mergeSort (le := fun a b : Str => decide (a.cps.toList ≤ b.cps.toList)) (fun a b c p q => by
    simp only [decide_eq_true_eq] at p q ⊢
    exact List.le_trans p q) (fun a b => by
    simp only [Bool.or_eq_true, decide_eq_true_eq]
    exact List.le_total _ _) xs
  have nd2 := pm.nodup_iff.mpr nd
  refine ascB_unique ltX_ord ?_ (srtO_asc ltX_ord ys) fun k => by rw [pm.mem_iff, same k]; exact (srtO_mem ltX_ord k ys).symm
  have both := pw.and nd2
  refine both.imp fun {a b} h => ?_
  obtain ⟨h1, h2⟩ := h
  simp only [decide_eq_true_eq] at h1
  simp only [ltX, decide_eq_true_eq]
  exact Classical.byContradiction fun n => h2 (by
    have e : a.cps.toList = b.cps.toList := List.le_antisymm h1 (List.not_lt.mp n)
    exact Classical.byContradiction fun m => absurd (str_total (fun q => by rw [e] at q; exact List.lt_irrefl _ q) m) (by rw [e]; exact List.lt_irrefl _))
/-- sorted(a set of texts) -/
theorem sortedM {a : Addr} {xs : List Str} {Q : Value → Shared → Prop} (R : SetM w s.heap a (xs.map .inr)) (quiet : A.handled = none) (deep : A.units + 2 < cLine) (few : xs.length ≤ sizeLine)
    (fin : ∀ s' p (out : Array Value) (c : Nat), (∀ b o, s.heap.get? b = some o → s'.heap.get? b = some o) → s'.gens = s.gens → s'.os = s.os → s.heap.objs.size ≤ p →
      s'.heap.get? p = some (seqObj "list" out c) → Vals ((srtT xs).map V.str) out.toList → Q (.ref p) s') : wpAny (model P w) A (call (.builtin "sorted") [.ref a]) Q E s := by
  obtain ⟨ob, rows, age, tab, at1, ex, da, g, nd, mem, few1, fi, ri, le⟩ := R
  refine Calls.call_function_entry kind_sorted plain_sorted entry_sorted (args_sorted1 _) ?_
  unfold Builtin.«sorted»
  refine wpAny_bind (m := checkCount "sorted" 1 1 _) (wpAny_pure ?_)
  refine wpAny_bind (collect_set (A := A.in1) quiet ⟨ob, at1, ex.1, da⟩ fi few1 ri le fun s1 vs k1 z1 g1 o1 pm => ?_)
  have small : vs.length ≤ xs.length := by
    have := keys_le nd fun i hi => (mem i).mp hi
    rw [List.length_map, List.length_map] at this
    rw [pm.length_eq, List.length_map]; exact this
  have txt : ∀ v ∈ vs, ∃ x t, v = Value.str x t ∧ x ∈ xs := fun v hv => by
    obtain ⟨e, he, q⟩ := List.mem_map.mp (pm.mem_iff.mp hv)
    have hm := (mem (kofE e)).mp (List.mem_map.mpr ⟨e, he, rfl⟩)
    obtain ⟨x, hx, ex⟩ := List.mem_map.mp hm
    have is := (g e he).1
    rw [← ex] at is
    rcases keyIs_shape is with ⟨i, t, e1, _⟩ | ⟨y, t, e1, e2⟩
    · cases e1
    · cases e1; exact ⟨x, t, by rw [← q]; exact e2, hx⟩
  have perm : ((vs.map txtOf).map Sum.inr : List L2.Key).Perm (rows.toList.map kofE) := by
    have q := pm.map fun v => (Sum.inr (txtOf v) : L2.Key)
    rw [List.map_map] at q
    rw [List.map_map]
    refine q.trans (List.Perm.of_eq (List.map_congr_left fun e he => ?_))
    have hm := (mem (kofE e)).mp (List.mem_map.mpr ⟨e, he, rfl⟩)
    obtain ⟨x, hx, ex⟩ := List.mem_map.mp hm
    have is := (g e he).1
    rw [← ex] at is
    rcases keyIs_shape is with ⟨i, t, e1, _⟩ | ⟨y, t, e1, e2⟩
    · cases e1
    · cases e1
      show (Sum.inr (txtOf e.2) : L2.Key) = kofE e
      rw [← ex, e2]; rfl
  have nd2 : (vs.map txtOf).Nodup := by
    have q := perm.nodup_iff.mpr nd
    exact List.Pairwise.of_map _ (fun a b h e => h (by rw [e])) q
  have same : ∀ k, k ∈ vs.map txtOf ↔ k ∈ xs := fun k => by
    have q := (perm.mem_iff (a := Sum.inr k)).trans (mem (Sum.inr k))
    simpa using q
  refine wpAny_bind (wpAny_newList ?_ (Nat.le_trans small few))
  have atL : (s1.heap.push (seqObj "list" vs.toArray 0)).get? s1.heap.objs.size = some (seqObj "list" vs.toArray 0) := Heap.get?_push_size _ rfl
  have each : ∀ l : List Value, (∀ v ∈ l, ∃ x t, v = Value.str x t ∧ x ∈ xs) → PySem.W.EachIs (fun v x => ∃ t, v = Value.str x t) l (l.map txtOf) := by
    intro l
    induction l with
    | nil => intro _; exact .nil
    | cons v l ih =>
      intro h
      obtain ⟨x, t, e, _⟩ := h v List.mem_cons_self
      exact .cons ⟨t, by subst e; rfl⟩ (ih fun u hu => h u (List.mem_cons_of_mem _ hu))
  have each2 := each vs txt
  refine wpAny_bind (wpAny_holding (PySem.W.list_sort_data (enc := PyData.str) atL each2 (each_both each2 fun v x _ h => by
    obtain ⟨t, rfl⟩ := h
    exact ⟨[], .str x t, fun q => (nomatch q)⟩) (PySem.W.AllAlike.of fun _ _ => rfl) (PySem.W.Sortable.others fun b => ⟨fun q => (nomatch q), fun ys q => (nomatch q)⟩) (by rw [List.length_map]; exact Nat.le_trans small few) (fun b _ => by show A.in1.units + 1 + 0 < cLine; rw [show A.in1.units = A.units + 1 from rfl]; omega) fun out hl he => ?_))
  obtain ⟨c, hc⟩ := sortedHeap_at (vs := vs) (out := out.toArray) atL
  rw [srt_texts nd2 same] at he
  refine wpAny_pure ⟨_, rfl, fin _ s1.heap.objs.size out.toArray c (fun b u e => ?_) g1 o1 z1 hc ?_⟩
  · have q := k1 b u e
    have lt := Heap.lt_size q
    show (sortedHeap (s1.heap.push (seqObj "list" vs.toArray 0)) s1.heap.objs.size vs out.toArray).get? b = some u
    rw [sortedHeap_old (Nat.ne_of_lt lt) (by rw [size_push']; exact Nat.lt_succ_of_lt lt)]
    exact Heap.get?_push_of_some _ q
  · have conv : ∀ {ys : List Str} {l : List Value}, PySem.W.EachIs (fun v x => ∃ t, v = Value.str x t) l ys → Vals (ys.map V.str) l := by
      intro ys l h
      induction h with
      | nil => exact .nil
      | cons r _ ih => exact .cons r ih
    exact conv he
end
end Pv
set_option Elab.async false
set_option linter.all false
set_option maxRecDepth 100000
set_option maxHeartbeats 1000000
namespace Pv
open PySem PySem.Spec L2
open PyProof.Rows hiding St signs cutD pairD
/-! ### sorted(set(xs)) of texts -/
def tSrtTxt (K : PySem.W.Frag) (ta : TE) : TE := fun σ H Q => ta σ H fun x H1 => ∃ (l : Addr) (xs : List Str), x = V.ref l ∧ SqL K H1 l (xs.map V.str) ∧ xs.length ≤ 1000 ∧
  ∀ p, H1 p = none → Q (.ref p) (upd H1 p (.lst ((srtT xs).map V.str)))
theorem vals_txt : ∀ {xs : List Str} {its : List Value}, Vals (xs.map V.str) its → ∀ (i : Nat) (v : Value), its[i]? = some v → ∃ k, (xs.map (Sum.inr : Str → L2.Key))[i]? = some k ∧ keyIs k v = true
  | [], _, r, i, v, h => by cases r; simp at h
  | x :: xs, its, r, i, v, h => by
    cases r with
    | cons r1 r2 =>
      cases i with
      | zero =>
        simp only [List.getElem?_cons_zero, Option.some.injEq] at h
        subst h
        obtain ⟨t, rfl⟩ := r1
        exact ⟨.inr x, rfl, keyIs_str x t⟩
      | succ i =>
        have := vals_txt r2 i v (by simpa using h)
        simpa using this
theorem srtT_len (xs : List Str) : (srtT xs).length ≤ xs.length := keys_le (ascB_nodup ltX_ord (srtO_asc ltX_ord xs)) fun k hk => (srtO_mem ltX_ord k xs).mp hk
section
variable {X : Cx}
theorem pe_srtTxt {a : Expr} {ta : TE} {p p2 q pos : Pos} (hc : X.calm = true) (hu : X.A.units + 8 < cLine) (hg : Gl X "sorted") (hm : X.mg "sorted" = none) (hg2 : Gl X "set") (hm2 : X.mg "set" = none) (ha : PE X a ta)
    (na : starEach [a] X.env = (false, eval a X.env) :: starEach [] X.env := by rfl) : PE X (.Call (.Name "sorted" p) [.Call (.Name "set" p2) [a] [] q] [] pos) (tSrtTxt X.K ta) := by
  refine ⟨fun pins s σ H Q I h => ?_⟩
  refine Call_ (ld_blt I hg hm (show bootBuiltins "sorted" = some (.builtin "sorted") from by decide +kernel) ?_)
  refine PyProof.Rows.callWith_builtin1 (PyProof.Rows.args_cons ?_ rfl) rfl rfl
  refine Call_ (ld_blt I hg2 hm2 PyProof.Rows.boot_set ?_)
  refine PyProof.Rows.callWith_type1 (PyProof.Rows.args_cons (thn (ha.run pins s σ H _ I h) fun v s1 ⟨x, H1, I1, r1, q1⟩ => PyProof.Rows.args_nil ?_) na) na rfl
  obtain ⟨l, xs, rfl, hq, h1, q1⟩ := q1
  cases r1
  obtain ⟨its, r, pl, hz⟩ := I1.list hq
  have il := r.length
  rw [List.length_map] at il
  refine setM_of_list (xs.map .inr) (I1.ok.hd hc) pl.isList (by simp [il]) (fun i v hv => vals_txt r i v (by simpa using hv)) (by rw [List.length_map]; exact Nat.lt_of_le_of_lt (Nat.succ_le_succ h1) (by decide)) fun hp tk R hk => ?_
  refine PyProof.Rows.args_nil ?_
  have I2 : L2.Inv X pins σ H1 { s1 with heap := hp, toks := tk } := I1.kept fun b o e => hk b o e
  refine sortedM R (I2.ok.hd hc) (by omega) (Nat.le_trans h1 (by decide)) fun s' p out cc k g o hlt hg hi => ?_
  have hlen : ((srtT xs).map V.str).length ≤ sizeLine := by rw [List.length_map]; exact Nat.le_trans (Nat.le_trans (srtT_len xs) h1) (by decide)
  have hn : H1 p = none := I2.hok.fresh hlt
  have J : L2.Inv X pins σ (upd H1 p (.lst ((srtT xs).map V.str))) { ({ s1 with heap := hp, toks := tk } : Shared) with heap := s'.heap, gens := s'.gens, drawn := s'.drawn, toks := s'.toks } :=
    I2.call (ch := []) (Un.laid k hlt hn) (I2.hok.laid k hlt ⟨hlen, out.toList, cc, hi, hg⟩) (by rw [g]; exact I2.bare) (fun _ z => nomatch z)
  have es : s' = { ({ s1 with heap := hp, toks := tk } : Shared) with heap := s'.heap, gens := s'.gens, drawn := s'.drawn, toks := s'.toks } := by
    cases s'
    cases o
    rfl
  rw [es]
  exact ⟨.ref p, _, J, rfl, q1 p hn⟩
end
def strsOfD : List Pv.D → Option (List Str)
  | [] => some []
  | .str x :: ds => (strsOfD ds).map (x :: ·)
  | _ => none
theorem strsOfD_map (xs : List Str) : strsOfD (xs.map .str) = some xs := by
  induction xs with
  | nil => rfl
  | cons x xs ih => simp [strsOfD, ih]
theorem strs_of_D : ∀ {ds : List Pv.D} {xs : List Str}, strsOfD ds = some xs → ds = xs.map .str
  | [], xs, h => by cases h; rfl
  | d :: ds, xs, h => by
    cases d with
    | str i =>
      have h' : (strsOfD ds).map (i :: ·) = some xs := h
      obtain ⟨ms, h1, h2⟩ := Option.map_eq_some_iff.mp h'
      subst h2
      rw [strs_of_D h1]; rfl
    | _ => cases h
theorem repL_strsV {K : PySem.W.Frag} {W : Wd} : ∀ {ns : List Str} {xs : List V}, repL K W xs (ns.map .str) → xs = ns.map V.str
  | [], xs, h => h
  | n :: ns, xs, ⟨v, us, e, r, l⟩ => by
    subst e
    rw [show v = V.str n from r, repL_strsV l]; rfl
theorem repL_strsB {K : PySem.W.Frag} {W : Wd} : ∀ (ns : List Str), repL K W (ns.map V.str) (ns.map .str)
  | [] => rfl
  | n :: ns => ⟨_, _, rfl, rfl, repL_strsB ns⟩
/-- a list of whole numbers, or of texts -/
def dSrtS (d : Pv.D) : Option Pv.D :=
  match dSrtSet d with
  | some e => some e
  | none => match d with
    | .list ds => (strsOfD ds).bind fun xs => if xs.length ≤ 1000 then some (.list ((srtT xs).map .str)) else none
    | _ => none
def mSrtS : M → M := mOp1 (onD1 dSrtS)
@[simp] theorem e_srtS {a : M} {sl : Sl} {st : Sto} : mSrtS a sl st = (a sl st).bind fun x st => lift (dSrtS (deref st x)) st := rfl
theorem srtS_txt {x : Str} {xs : List Str} (h : (x :: xs).length ≤ 1000) : dSrtS (.list ((x :: xs).map .str)) = some (.list ((srtT (x :: xs)).map .str)) := by
  have e : strsOfD (PyData.str x :: xs.map PyData.str) = some (x :: xs) := strsOfD_map (x :: xs)
  have e2 : dSrtSet (.list ((x :: xs).map .str)) = none := rfl
  unfold dSrtS
  rw [e2]
  simp only [List.map_cons, e, Option.bind_some, if_pos h]
theorem srtS_nil : dSrtS (.list []) = some (.list []) := rfl
/-- texts, also none -/
theorem srtS_str {xs : List Str} (h : xs.length ≤ 1000) : dSrtS (.list (xs.map .str)) = some (.list ((srtT xs).map .str)) := by
  cases xs with
  | nil => rfl
  | cons x xs => exact srtS_txt h
theorem srtS_int {ns : List Int} (h1 : ns.length ≤ 1000) (h2 : (srtU ns).length < 64) : dSrtS (.list (ns.map .int)) = some (.list ((srtU ns).map .int)) := by
  have e : dSrtSet (.list (ns.map .int)) = some (.list ((srtU ns).map .int)) := by
    simp only [dSrtSet, intsOfD_map, Option.bind_some]
    rw [if_pos ⟨h1, h2⟩]
  unfold dSrtS
  rw [e]
section
variable {X : Cx} {Wx : WX} {ea : Expr} {ma : M} {pos p p2 q : Pos}
theorem ge_srtS (g : Gd X) (hm : X.mg "sorted" = none) (hm2 : X.mg "set" = none) (ha : GE X Wx ea ma) (hg : Gl X "sorted" := by rfl) (hg2 : Gl X "set" := by rfl)
    (he : starEach [ea] X.env = (false, eval ea X.env) :: starEach [] X.env := by rfl) : GE X Wx (.Call (.Name "sorted" p) [.Call (.Name "set" p2) [ea] [] q] [] pos) (mSrtS ma) := by
  have both : PE X (.Call (.Name "sorted" p) [.Call (.Name "set" p2) [ea] [] q] [] pos) (fun σ H Q => rd (nv X) Wx ma σ H fun x H1 => (∃ (l : Addr) (ns : List Int), x = V.ref l ∧ SqL X.K H1 l (ns.map V.int) ∧ ns.length + 1 < scanBound ∧ (srtU ns).length < 64 ∧ ∀ p, H1 p = none → Q (.ref p) (upd H1 p (.lst ((srtU ns).map V.int)))) ∨
      (∃ (l : Addr) (xs : List Str), x = V.ref l ∧ SqL X.K H1 l (xs.map V.str) ∧ xs.length ≤ 1000 ∧ ∀ p, H1 p = none → Q (.ref p) (upd H1 p (.lst ((srtT xs).map V.str))))) := by
    refine ⟨fun pins s σ H Q I h => ?_⟩
    refine Call_ (ld_blt I hg hm (show bootBuiltins "sorted" = some (.builtin "sorted") from by decide +kernel) ?_)
    refine PyProof.Rows.callWith_builtin1 (PyProof.Rows.args_cons ?_ rfl) rfl rfl
    refine Call_ (ld_blt I hg2 hm2 PyProof.Rows.boot_set ?_)
    refine PyProof.Rows.callWith_type1 (PyProof.Rows.args_cons (thn (ha.run pins s σ H _ I h) fun v s1 ⟨x, H1, I1, r1, q1⟩ => PyProof.Rows.args_nil ?_) he) he rfl
    have hc := g.calm
    have hu := g.un
    rcases q1 with q1 | q1
    · obtain ⟨l, ns, rfl, hq, h1, h2, q1⟩ := q1
      cases r1
      obtain ⟨its, r, pl, hz⟩ := I1.list hq
      refine set_of_list ns (I1.ok.hd hc) pl.isList (by simpa using r.ints) h1 fun hp tk c R _ hk => ?_
      refine PyProof.Rows.args_nil ?_
      have I2 : L2.Inv X pins σ H1 { s1 with heap := hp, toks := tk } := I1.kept fun b o e => hk b o e
      have hc64 : c < 64 := by
        obtain ⟨o, es, ep, t, ho, hex, hd, g, nd, hm, hb, hf, hn, hr, hl⟩ := R
        have : (es.toList.map L2.keyOf).length ≤ (srtU ns).length := nodup_le nd fun k hk => (srtU_mem k ns).mpr (by simpa using (hm k).mpr hk)
        rw [List.length_map, Array.length_toList, hn] at this
        omega
      refine sorted_set R (I2.ok.hd hc) hc64 fun s' p out cc ns' k g o hlt hg hi hs hm hl => ?_
      have e : ns' = srtU ns := asc_unique hs (srtU_asc ns) fun k => by rw [hm k, srtU_mem]; simp
      subst e
      have hlen : ((srtU ns).map V.int).length ≤ sizeLine := by rw [List.length_map]; exact Nat.le_trans (Nat.le_of_lt h2) (by decide)
      have hn : H1 p = none := I2.hok.fresh hlt
      have J : L2.Inv X pins σ (upd H1 p (.lst ((srtU ns).map V.int))) { ({ s1 with heap := hp, toks := tk } : Shared) with heap := s'.heap, gens := s'.gens, drawn := s'.drawn, toks := s'.toks } :=
        I2.call (ch := []) (Un.laid k hlt hn) (I2.hok.laid k hlt ⟨hlen, out.toList, cc, vals_of_ints hi, hg⟩) (by rw [g]; exact I2.bare) (fun _ z => nomatch z)
      have es : s' = { ({ s1 with heap := hp, toks := tk } : Shared) with heap := s'.heap, gens := s'.gens, drawn := s'.drawn, toks := s'.toks } := by
        cases s'
        cases o
        rfl
      rw [es]
      exact ⟨.ref p, _, J, rfl, q1 p hn⟩
    · obtain ⟨l, xs, rfl, hq, h1, q1⟩ := q1
      cases r1
      obtain ⟨its, r, pl, hz⟩ := I1.list hq
      have il := r.length
      rw [List.length_map] at il
      refine setM_of_list (xs.map .inr) (I1.ok.hd hc) pl.isList (by simp [il]) (fun i v hv => vals_txt r i v (by simpa using hv)) (by rw [List.length_map]; exact Nat.lt_of_le_of_lt (Nat.succ_le_succ h1) (by decide)) fun hp tk R hk => ?_
      refine PyProof.Rows.args_nil ?_
      have I2 : L2.Inv X pins σ H1 { s1 with heap := hp, toks := tk } := I1.kept fun b o e => hk b o e
      refine sortedM R (I2.ok.hd hc) (by omega) (Nat.le_trans h1 (by decide)) fun s' p out cc k g o hlt hg hi => ?_
      have hlen : ((srtT xs).map V.str).length ≤ sizeLine := by rw [List.length_map]; exact Nat.le_trans (Nat.le_trans (srtT_len xs) h1) (by decide)
      have hn : H1 p = none := I2.hok.fresh hlt
      have J : L2.Inv X pins σ (upd H1 p (.lst ((srtT xs).map V.str))) { ({ s1 with heap := hp, toks := tk } : Shared) with heap := s'.heap, gens := s'.gens, drawn := s'.drawn, toks := s'.toks } :=
        I2.call (ch := []) (Un.laid k hlt hn) (I2.hok.laid k hlt ⟨hlen, out.toList, cc, hi, hg⟩) (by rw [g]; exact I2.bare) (fun _ z => nomatch z)
      have es : s' = { ({ s1 with heap := hp, toks := tk } : Shared) with heap := s'.heap, gens := s'.gens, drawn := s'.drawn, toks := s'.toks } := by
        cases s'
        cases o
        rfl
      rw [es]
      exact ⟨.ref p, _, J, rfl, q1 p hn⟩
  refine PE.imp both fun sh H Q ⟨W, sl, st, hr, hs, qq⟩ => ?_
  refine rd_bind hr hs qq fun d1 st1 W1 v1 H1 e1 x1 h1 s1 r1 p1 => ?_
  obtain ⟨d, e, p1⟩ := onD1_post p1
  cases hx : deref st1 d1 with
  | list ds =>
    rw [hx] at e
    unfold dSrtS at e
    obtain ⟨a, xs, q1, q2, l⟩ := rep_dlist h1 r1 hx
    subst q1
    cases hi : dSrtSet (.list ds) with
    | some e0 =>
      rw [hi] at e
      cases e
      unfold dSrtSet at hi
      obtain ⟨ns, n1, n2⟩ := Option.bind_eq_some_iff.mp hi
      split at n2
      · rename_i hk
        cases n2
        rw [ints_of_D n1] at l
        have ex := repL_intsV l
        subst ex
        exact .inl ⟨a, ns, rfl, .inl (.inl q2), Nat.lt_of_le_of_lt (Nat.succ_le_succ hk.1) (by decide), hk.2, fun b hb => Post.lst h1 p1 (repL_intsB _) b hb⟩
      · cases n2
    | none =>
      rw [hi] at e
      simp only at e
      obtain ⟨ns, n1, n2⟩ := Option.bind_eq_some_iff.mp e
      split at n2
      · rename_i hk
        cases n2
        rw [strs_of_D n1] at l
        have ex := repL_strsV l
        subst ex
        exact .inr ⟨a, ns, rfl, .inl (.inl q2), hk, fun b hb => Post.lst h1 p1 (repL_strsB _) b hb⟩
      · cases n2
  | _ => rw [hx] at e; cases e
end
end Pv
set_option Elab.async false
set_option linter.all false
set_option maxRecDepth 100000
set_option maxHeartbeats 1000000
namespace Pv
open PySem PySem.Spec L2
open PyProof.Rows hiding St signs cutD pairD
/-! ### what a datum says when its lists of the store are read, at any depth -/
def deepD (st : Sto) (d : Pv.D) : Option Pv.D := fz (lookF 6 0 st) d
section
variable {K : PySem.W.Frag} {W : Wd} {H : Hp} {st : Sto} {v : V} {d e : Pv.D}
theorem look_all (hr : HR K W H st) : ∀ (k : Nat) (r : Nat) (a : Addr) (e : Pv.D), W.rho[r]? = some a → lookF k 0 st r = some e → rep K ⟨H, []⟩ (.ref a) e
  | 0, r, a, e, _, h => by
    unfold lookF at h
    simp at h
  | k + 1, r, a, e, ha, h => by
    unfold lookF at h
    rw [if_neg (Nat.not_lt_zero r)] at h
    simp only at h
    obtain ⟨m, hm, _, ho⟩ := hr.at ha
    rw [hm] at h
    cases m with
    | lst ds =>
      simp only at h
      obtain ⟨es, h1, h2⟩ := Option.map_eq_some_iff.mp h
      subst h2
      obtain ⟨xs, q1, q2⟩ := ho
      have both : ∀ (ds : List Pv.D) (xs : List V) (es : List Pv.D), repL K W xs ds → fzL (lookF k 0 st) ds = some es → repL K ⟨H, []⟩ xs es := by
        intro ds
        induction ds with
        | nil => intro xs es l q; cases q; exact l
        | cons d ds ih =>
          rintro xs es ⟨v, us, e1, r1, l⟩ q
          have q' : (fz (lookF k 0 st) d).bind (fun e => (fzL (lookF k 0 st) ds).map (e :: ·)) = some es := q
          obtain ⟨e, q1, q2⟩ := Option.bind_eq_some_iff.mp q'
          obtain ⟨es', q3, q4⟩ := Option.map_eq_some_iff.mp q2
          subst q4
          exact ⟨v, us, e1, fz_rep (W2 := ⟨H, []⟩) (fun r a e h1 h2 => look_all hr k r a e h1 h2) hr.sub d v e r1 q1, ih us es' l q3⟩
      exact ⟨a, xs, rfl, q1, both ds xs es q2 h1⟩
    | _ => cases h
theorem deep_rep (hr : HR K W H st) (h : rep K W v d) (q : deepD st d = some e) : rep K ⟨H, []⟩ v e :=
  fz_rep (W2 := ⟨H, []⟩) (fun r a e h1 h2 => look_all hr 6 r a e h1 h2) hr.sub d v e h q
end
def reprF (st : Sto) (d : Pv.D) : Option Pv.D := match reprD st d with
  | some r => some r
  | none => (deepD st d).bind fun e => if e.canLay0 = true ∧ e.showable = true ∧ e.depth ≤ 100 ∧ e.shown.length ≤ sizeLine then some (.str e.shown) else none
def mReprF (m : M) : M := fun sl st => (m sl st).bind fun d st => lift (reprF st d) st
@[simp] theorem e_reprF {a : M} {sl : Sl} {st : Sto} : mReprF a sl st = (a sl st).bind fun d st => lift (match reprD st d with
  | some r => some r
  | none => (deepD st d).bind fun e => if e.canLay0 = true ∧ e.showable = true ∧ e.depth ≤ 100 ∧ e.shown.length ≤ sizeLine then some (.str e.shown) else none) st := rfl
section
variable {X : Cx} {Wx : WX} {ea : Expr} {ma : M} {pos p : Pos}
theorem ge_reprF (g : Gd X) (hm : X.mg "repr" = none) (ha : GE X Wx ea ma) (hg : Gl X "repr" := by rfl)
    (he : starEach (ea :: []) X.env = (false, eval ea X.env) :: starEach [] X.env := by rfl) (hpl : (backTo pos (starEach [] X.env)).any (·.1) = false := by rfl) : GE X Wx (.Call (.Name "repr" p) [ea] [] pos) (mReprF ma) := by
  refine PE.imp (pe_callB (call_reprD g) hg hm (by decide +kernel) (pa_cons ha pa_nil he) (by decide +kernel) (by decide +kernel) he hpl) fun sh H Q ⟨W, sl, st, hr, hs, q⟩ => ?_
  refine rd_bind hr hs q fun d1 st1 W1 v1 H1 e1 x1 h1 s1 r1 p1 => ?_
  unfold reprF at p1
  cases hd : reprD st1 d1 with
  | some r =>
    rw [hd] at p1
    simp only at p1
    unfold reprD at hd
    split at hd
    · rename_i hc
      cases hd
      exact ⟨v1, _, rfl, rep_dpR h1 r1 rfl hc.1, hc.1, hc.2.1, hc.2.2.1, hc.2.2.2, p1.val h1 rfl⟩
    · cases hd
  | none =>
    rw [hd] at p1
    simp only at p1
    cases hq : deepD st1 d1 with
    | none => rw [hq] at p1; exact p1.elim
    | some e =>
      rw [hq] at p1
      simp only [Option.bind_some] at p1
      split at p1
      · rename_i hc
        exact ⟨v1, e, rfl, rep_dp (W := ⟨H1, []⟩) (fun _ _ z => z) e hc.1 (deep_rep h1 r1 hq), hc.1, hc.2.1, hc.2.2.1, hc.2.2.2, p1.val h1 rfl⟩
      · exact p1.elim
end
/-- a list that holds a list of the store, the last one -/
theorem deep_last {st : Sto} {xs : List Pv.D} (h : PyData.canLayAll0 xs = true) : deepD (st ++ [.lst xs]) (Rf st.length) = some (.list xs) := by
  have e : (st ++ [MO.lst xs])[st.length]? = some (.lst xs) := by simp
  show lookF 6 0 (st ++ [.lst xs]) ((st.length : Int).toNat) = _
  rw [Int.toNat_natCast]
  unfold lookF
  rw [if_neg (Nat.not_lt_zero _)]
  simp only [e]
  rw [fzL_clean xs h]; rfl
theorem deep_two {st : Sto} {a b a' b' : Pv.D} (h1 : deepD st a = some a') (h2 : deepD st b = some b') : deepD st (.list [a, b]) = some (.list [a', b']) := by
  unfold deepD at *
  simp [fz, fzL, h1, h2]
theorem deep_clean {st : Sto} {d : Pv.D} (h : d.canLay0 = true) : deepD st d = some d := fz_clean d h
theorem reprF_clean {st : Sto} {d : Pv.D} {n k : Nat} (h : Ok d n k) (hn : n ≤ 2 ^ 24) (hk : k ≤ 100) : reprF st d = some (.str d.shown) := by
  unfold reprF
  rw [repr_ok h hn hk st]
theorem reprF_lst {st : Sto} {ds : List Pv.D} {e : Pv.D} {n k : Nat} (h : deepD st (.list ds) = some e) (ok : Ok e n k) (hn : n ≤ 2 ^ 24) (hk : k ≤ 100) : reprF st (.list ds) = some (.str e.shown) := by
  by_cases hc : (PyData.list ds).canLay0 = true
  · rw [deep_clean hc] at h
    cases h
    exact reprF_clean ok hn hk
  · have h0 : reprD st (.list ds) = none := by
      unfold reprD
      rw [if_neg fun q => hc q.1]
    have h1 := repr_ok ok hn hk st
    unfold reprD at h1
    rw [deref_ok ok.lay] at h1
    unfold reprF
    rw [h0]
    simp only [h, Option.bind_some]
    exact h1
end Pv
set_option Elab.async false
set_option linter.all false
set_option maxRecDepth 100000
set_option maxHeartbeats 1000000
set_option pp.maxSteps 1500
namespace Pv
open PySem PySem.Spec L2
open PyProof.Rows hiding St signs cutD pairD
/-! ### clusters, as the document has them -/
/-- one to eight lowercase letters -/
def nameB (z : Str) : Bool := decide (1 ≤ z.length) && (decide (z.length ≤ 8) && z.cps.toList.all fun c => decide (97 ≤ c) && decide (c ≤ 122))
abbrev Rd3 := Str × Str × Int
def prS (r : Rd3) : Str × Str := (r.1, r.2.1)
/-- the order of pairs of texts -/
def ltP (p q : Str × Str) : Bool := ltX p.1 q.1 || (p.1 == q.1 && ltX p.2 q.2)
theorem ltP_ord : SOrd ltP := by
  have no : ∀ x y, ltX x y = true → ltX y x = true → False := fun x y p q => by
    have := ltX_ord.tr _ _ _ p q
    rw [ltX_ord.irr] at this; cases this
  refine ⟨fun x => ?_, fun x y z p q => ?_, fun x y p q => ?_⟩
  · simp [ltP, ltX_ord.irr]
  · simp only [ltP, Bool.or_eq_true, Bool.and_eq_true, beq_iff_eq] at p q ⊢
    rcases p with p | ⟨p1, p2⟩ <;> rcases q with q | ⟨q1, q2⟩
    · exact .inl (ltX_ord.tr _ _ _ p q)
    · exact .inl (by rw [← q1]; exact p)
    · exact .inl (by rw [p1]; exact q)
    · exact .inr ⟨p1.trans q1, ltX_ord.tr _ _ _ p2 q2⟩
  · simp only [ltP, Bool.or_eq_false_iff, Bool.and_eq_false_iff] at p q
    have e1 := ltX_ord.tot _ _ p.1 q.1
    have e2 : x.2 = y.2 := by
      refine ltX_ord.tot _ _ ?_ ?_
      · rcases p.2 with h | h
        · rw [e1] at h; simp at h
        · exact h
      · rcases q.2 with h | h
        · rw [e1] at h; simp at h
        · exact h
    exact Prod.ext e1 e2
structure NetV (n : Net) : Prop where
  asc : (n.hosts.map (·.n)).Pairwise fun a b => ltX a b = true
  ne : n.hosts ≠ []
  nm : ∀ h ∈ n.hosts, nameB h.n = true
  cl : ∀ h ∈ n.hosts, 0 ≤ h.s ∧ 0 ≤ h.f ∧ 1 ≤ h.r
  rasc : (n.roads.map prS).Pairwise fun a b => ltP a b = true
  rd : ∀ r ∈ n.roads, hasH n r.1 = true ∧ hasH n r.2.1 = true ∧ r.1 ≠ r.2.1 ∧ 0 ≤ r.2.2
  most : ∀ k, n.most = some k → 0 ≤ k
  rule : n.rule = "more" ∨ n.rule = "wait"
  none : n.most = none → n.rule = "wait"
/-- how many hosts, how great its numbers -/
structure NetB (n : Net) (h : Nat) (b : Nat) : Prop where
  hl : n.hosts.length ≤ h
  rl : n.roads.length ≤ h * h
  hb : ∀ x ∈ n.hosts, x.s.natAbs ≤ b ∧ x.f.natAbs ≤ b ∧ x.r.natAbs ≤ b
  rb : ∀ r ∈ n.roads, r.2.2.natAbs ≤ b
  mb : ∀ k, n.most = some k → k.natAbs ≤ b
theorem name_lay {z : Str} (h : nameB z = true) : (PyData.str z).canLay0 = true ∧ z.length ≤ 8 := by
  unfold nameB at h
  simp only [Bool.and_eq_true, decide_eq_true_eq, List.all_eq_true] at h
  refine ⟨?_, h.2.1⟩
  simp only [PyData.canLay0, PyData.strOk, Array.all_eq_true', decide_eq_true_eq, Array.mem_toList_iff]
  intro c hc
  have := h.2.2 c (by simpa using hc)
  omega
/-- all pairs, in order -/
def allPr (ts : List Str) : List (Str × Str) := ts.flatMap fun a => ts.map fun b => (a, b)
theorem allPr_asc {ts : List Str} (h : ts.Pairwise fun a b => ltX a b = true) : (allPr ts).Pairwise fun a b => ltP a b = true := by
  have key : ∀ us : List Str, us.Pairwise (fun a b => ltX a b = true) → (us.flatMap fun a => ts.map fun b => (a, b)).Pairwise fun a b => ltP a b = true := by
    intro us
    induction us with
    | nil => intro _; exact List.Pairwise.nil
    | cons u us ih =>
      intro hu
      obtain ⟨h1, h2⟩ := List.pairwise_cons.mp hu
      rw [List.flatMap_cons]
      refine List.pairwise_append.mpr ⟨?_, ih h2, fun p hp q hq => ?_⟩
      · rw [List.pairwise_map]
        exact h.imp fun {a b} hab => by simp [ltP, hab]
      · obtain ⟨b, _, rfl⟩ := List.mem_map.mp hp
        obtain ⟨a, ha, hq2⟩ := List.mem_flatMap.mp hq
        obtain ⟨c, _, rfl⟩ := List.mem_map.mp hq2
        simp [ltP, h1 a ha]
  exact key ts h
theorem bdl_all {m k b : Nat} : ∀ {ds : List Pv.D}, (∀ d ∈ ds, Bd d m k b) → BdL ds ((m + 4) * ds.length) k b
  | [], _ => BdL.nil
  | d :: ds, h => (BdL.cons (h d List.mem_cons_self) (bdl_all fun x hx => h x (List.mem_cons_of_mem _ hx))).mono (by rw [List.length_cons, Nat.mul_succ]; omega) (Nat.le_refl _) (Nat.le_refl _)
theorem bd_name {z : Str} {k b : Nat} (q : nameB z = true) : Bd (.str z) 84 k b := Bd.str (name_lay q).1 (by have := (name_lay q).2; omega)
theorem bd_opt {o : Option Int} {k b : Nat} (h : ∀ i, o = some i → i.natAbs ≤ b) (hb : b < 10 ^ 62) : Bd (dOpt o) 64 k b := by
  cases o with
  | none => exact ⟨rfl, by show 8 ≤ 64; decide, Nat.zero_le _, Nat.zero_le _⟩
  | some i => exact Bd.int (h i rfl) hb
theorem rule_name {z : Str} (h : z = "more" ∨ z = "wait") : nameB z = true := by
  rcases h with rfl | rfl <;> decide +kernel
/-- a cluster's datum -/
theorem NetV.bd {n : Net} (V : NetV n) {h b : Nat} (B : NetB n h b) (hb : b < 10 ^ 62) : Bd (dNet n) (304 * h + 304 * (h * h) + 200) 3 b := by
  have hh : ∀ d ∈ n.hosts.map dHost, Bd d 300 1 b := fun d hd => by
    obtain ⟨x, hx, rfl⟩ := List.mem_map.mp hd
    obtain ⟨b1, b2, b3⟩ := B.hb x hx
    exact (Bd.tup (BdL.cons (bd_name (V.nm x hx)) (BdL.cons (Bd.int b1 hb) (BdL.cons (Bd.int b2 hb) (BdL.cons (Bd.int (k := 0) b3 hb) BdL.nil))))).mono (by decide) (Nat.le_refl _) (Nat.le_refl _)
  have nmOf : ∀ {z : Str}, hasH n z = true → nameB z = true := fun {z} q => by
    unfold hasH at q
    obtain ⟨x, hx, e⟩ := List.any_eq_true.mp q
    rw [← (beq_iff_eq.mp e)]; exact V.nm x hx
  have hr : ∀ d ∈ n.roads.map dRoad, Bd d 300 1 b := fun d hd => by
    obtain ⟨x, hx, rfl⟩ := List.mem_map.mp hd
    obtain ⟨r1, r2, _, _⟩ := V.rd x hx
    exact (Bd.tup (BdL.cons (bd_name (nmOf r1)) (BdL.cons (bd_name (nmOf r2)) (BdL.cons (Bd.int (k := 0) (B.rb x hx) hb) BdL.nil)))).mono (by decide) (Nat.le_refl _) (Nat.le_refl _)
  have l1 := Bd.tup (bdl_all hh)
  have l2 := Bd.tup (bdl_all hr)
  have e1 : 304 * n.hosts.length ≤ 304 * h := Nat.mul_le_mul_left _ B.hl
  have e2 : 304 * n.roads.length ≤ 304 * (h * h) := Nat.mul_le_mul_left _ B.rl
  rw [List.length_map] at l1 l2
  exact (Bd.tup (BdL.cons l1 (BdL.cons l2 (BdL.cons (bd_opt B.mb hb) (BdL.cons (bd_name (rule_name V.rule)) BdL.nil))))).mono (by omega) (Nat.le_refl _) (Nat.le_refl _)
end Pv
set_option Elab.async false
set_option linter.all false
set_option maxRecDepth 100000
set_option maxHeartbeats 1000000
set_option pp.maxSteps 400
namespace Pv
open PySem PySem.Spec L2 LamX
open PyProof.Rows hiding St

/-! ### a def called in a suite, with the exception -/
def mCallE (n : Nat) (b : MS) (m : M) : M := fun sl st => (m sl st).bind fun d st1 => okOnly (finR st1.length (endR (b (startD n [d]) st1)))
/-- the context of that def's body: the exception is handled there, too -/
abbrev CxE (P : Program) (w : World) (K : PySem.W.Frag) (mg : Str → Option Value) (base : Heap) (Ng : List Str) (x : Str) (st : Stmt) (g : Addr) (cdv : Value) (A : Around) (outer : List Env) (s : Shared) (H : Hp) : Cx :=
  (cxOf C8.CX0 P w K mg base Ng x (defScope st) g cdv A outer s H C8.E0).nox
def SaidE (P : Program) (w : World) (K : PySem.W.Frag) (mg : Str → Option Value) (base : Heap) (x : Str) (cs : List Str) (n : Nat) (bh : Nat → Nat → Str → MS) : Prop :=
  ∃ (g : Addr) (fd : FuncData) (st : Stmt) (p : Str) (Ng : List Str), Fun K x x st g fd ∧ mg x = some (.ref g) ∧ Binds K fd [p] [] ∧ FnScope Ng [p] (defScope st) ∧ Ng.length = n ∧
    ∀ (cdv : Value) (A : Around) (outer : List Env) (s : Shared) (H : Hp) (b dd : Addr) (c : Str) (oe : Obj), c ∈ cs → Su (CxE P w K mg base Ng x st g cdv A outer s H) b dd c oe → Gd0 ((CxE P w K mg base Ng x st g cdv A outer s H).suite b [(b, oe)]) →
      GSs ((CxE P w K mg base Ng x st g cdv A outer s H).suite b [(b, oe)]) (fun _ _ _ _ => False) (defBody st) (bh b dd c)
theorem inv_xe {X : Cx} {xe : Value → Shared → Prop} {pins : List (Addr × Obj)} {σ : L2.St} {H : Hp} {s : Shared} (I : L2.Inv X pins σ H s) : L2.Inv { X with xe := xe } pins σ H s :=
  ⟨⟨I.ok.mod, I.ok.kind, I.ok.glob, I.ok.blt, I.ok.above, I.ok.inj, I.ok.has, I.ok.cab, I.ok.hd, I.ok.frames, I.ok.stk, I.ok.exf, I.ok.bs, I.ok.bsz, I.ok.noex, I.ok.exfs, I.ok.funs, I.ok.frf⟩, I.os, I.bare, I.base, I.loc, I.cell, I.free, I.freeC, I.pin, I.hok, I.len⟩
section
variable {X : Cx} {Wx : WX} {a dd : Addr} {c x : Str} {oe : Obj} {pn : List (Addr × Obj)} {ea : Expr} {ma : M} {p pos : Pos} {cs : List Str} {n : Nat} {bh : Nat → Nat → Str → MS}
theorem ge_callE (hc : c ∈ cs) (u : Su X a dd c oe) (d : SaidE X.prog X.w X.K X.mg X.base x cs n bh) (hr : L2H.RoomH 1 X.A) (hgu : X.A.guards = some []) (ha : GE (X.suite a ((a, oe) :: pn)) Wx ea ma) (hg : Gl (X.suite a ((a, oe) :: pn)) x := by rfl) (hdb : (x == ("__debug__" : Str)) = false := by decide +kernel)
    (he : starEach [ea] (X.suite a ((a, oe) :: pn)).env = (false, eval ea (X.suite a ((a, oe) :: pn)).env) :: starEach [] (X.suite a ((a, oe) :: pn)).env := by rfl) (hpl : (backTo pos (starEach [] (X.suite a ((a, oe) :: pn)).env)).any (·.1) = false := by rfl) :
    GE (X.suite a ((a, oe) :: pn)) Wx (.Call (.Name x p) [ea] [] pos) (mCallE n (bh a dd c) ma) := by
  obtain ⟨g, fd, st, pa, Ng, F, hm, hb, S, hn, body⟩ := d
  obtain ⟨oc, od, kV, doc, pm0, an, cdv, ct, osl, efd, lk, hcd⟩ := F.ex
  refine ⟨fun pins s sh H Q I ⟨W, sl, st0, hr', hs, q⟩ => wpAny_Call_Name_kw (ld_glob I hg hm ?_ hdb)⟩
  refine PySem.W.callWith_K (h₀ := X.base) I.ok.mod.kin F.kp (thn ((pa_cons ha pa_nil he).run pos pins s sh H (fun vs H1 => ∃ (v : V) (W1 : Wd) (d : D) (st1 : Sto), vs = [v] ∧ HR X.K W1 H1 st1 ∧ rep X.K W1 v d ∧ Post (nv X) W1 H1 Q (fun _ _ _ => False) (endR (bh a dd c (startD n [d]) st1))) I ?_) ?_) he hpl
  · refine rd_bind hr' hs q fun d1 st1 W1 v1 H1 e1 x1 h1 s1 r1 p1 => ?_
    exact ⟨v1, W1, d1, st1, rfl, h1, r1, fin_post h1 (post_okOnly p1)⟩
  intro us s1 ⟨vs, H1, I1, rv, v, W1, d1, st1, ev, h1, r1, p1⟩
  refine ⟨I1.kIn, ?_⟩
  have hu : us.length = 1 := by rw [← rv.length, ev]; rfl
  have b := hb s1 us I1.kIn (by rw [List.append_nil]; exact hu)
  rw [List.append_nil] at b
  have P1 := I1.pin (a, oe) (List.mem_append_left _ List.mem_cons_self)
  have hpin : L2H.PinOk X.stack H1 s1 (a, oe) := ⟨P1.1, P1.2.1, fun hm => (List.mem_cons.mp (I1.stkSub a hm)).elim P1.2.2.1 P1.2.2.2.1, P1.2.2.2.2⟩
  have e0 := I1.env0
  have kin := e0.mod.kin.keeps fun b o e => (e0.bs b o e).1
  have nolim := e0.mod.nolimit.keeps fun b o e => (e0.bs b o e).1
  have kinds : ∀ y ∈ [pa].zip us, (defScope st).names.lookup y.1 = some .local ∨ ((defScope st).names.lookup y.1 = some .cell ∧ ((cellsFrom (s1.heap.objs.size + 1) (defScope st).names []).lookup y.1).isSome = true) := by
    intro y hy
    obtain ⟨nm, u⟩ := y
    cases S.par nm (List.of_mem_zip hy).1 with
    | inl q => exact Or.inl q
    | inr q => exact Or.inr ⟨q, PySem.W.cellsFrom_some _ _ _ (Or.inl q)⟩
  subst ev
  have run : codeAny (model X.prog X.w) (X.A.mark (some (.ref a))) (.call (.ref g) ⟨us, []⟩) (CR C8.CX0 X.stack X.prog X.w H1 s1 Q C8.E0) s1 := by
    subst efd
    refine codeAny_call_function (show X.A.depth < recursionLimit from hr.depth) (kin _ _ lk) rfl S.co S.gen rfl (PySem.W.codeRec_of kin hcd) (b _ _ _ _ (wpAny_newFunctionEnv_cells S.kind kinds ?_))
    intro env hen s2 xin
    subst hen
    refine ⟨nolim.keeps xin.toInCall.keep, codeAny_func ?_⟩
    have I2 := L2H.inv_startH (CX := C8.CX0) (w := X.w) (E := C8.E0) (cd := cdv) S hpin e0 rfl rv xin
    have I3 : L2.Inv ((CxE X.prog X.w X.K X.mg X.base Ng x st g cdv X.A X.stack s1 H1).suite a [(a, oe)]) [] (L2.start Ng [v]) H1 s2 := inv_xe (xe := fun _ _ => False) I2
    have B := body cdv X.A X.stack s1 H1 a dd c oe hc ⟨u.cls, u.fld⟩ ⟨S.nd, (by have := hr.un; show X.A.units + 3 + 200 < cLine; omega), hgu⟩
    have J := B.run [] s2 (L2.start Ng [v]) H1 { nx := fun _ H' => Q .non H', rt := Q } I3 ⟨W1, _, st1, h1, start_rep (show repL X.K W1 [v] [d1] from ⟨v, [], rfl, r1, rfl⟩), end_posts (by rw [hn]; exact p1)⟩
    refine wpAny_mono J ?_ fun e s' z => z.elim
    intro fl s' z
    cases fl with
    | ret u => obtain ⟨v, σ', H', I', q1, q2⟩ := z; exact ⟨v, H', I'.os, I'.bare, I'.base, I'.hok, q1, q2⟩
    | next => obtain ⟨σ', H', I', q2⟩ := z; exact ⟨V.non, H', I'.os, I'.bare, I'.base, I'.hok, rfl, q2⟩
    | brk => obtain ⟨_, _, _, z⟩ := z; exact z.elim
    | cont => obtain ⟨_, _, _, z⟩ := z; exact z.elim
  refine wpAny_call (codeAny_mono run ?_)
  rintro (_ | (_ | _ | _ | _)) s2 z
  all_goals first | exact (show False from z).elim | exact I1.after z
end
/-- as said_of; the suite may call defs -/
theorem said_ofC {P : Program} {w : World} {K : PySem.W.Frag} {mg : Str → Option Value} {base : Heap} {x a C n u : Str} {st : Stmt} {g CS : Addr} {fd : FuncData} {Ng : List Str} {i j k1 : Nat} {cs : List Str} {bh : Nat → Nat → Str → MS} {b₀ : Stmt} {suite : List Stmt} {p1 p2 p3 p4 p5 p6 p7 p8 : Pos}
    (F : Fun K x x st g fd) (hm : mg x = some (.ref g)) (hb : Binds K fd [a] []) (S : FnScope Ng [a] (defScope st))
    (hbody : defBody st = [.Try [.Return (some (.Tuple [.Constant (.str u) j p1, .Call (.Name a p2) [] [] p3] k1 p4)) p5] [.ExceptHandler (some (.Name C p6)) (some n) (b₀ :: suite) p7] [] [] p8])
    (hme : mg C = some (.ref CS)) (hcs : ∀ c ∈ cs, ∀ D, mg c = some (.ref D) → PySem.W.exmOne K (.ref D) (.ref CS) = some true)
    (ind : ∀ a dd (x : XV) st, x.1 ∈ cs → handR Ng.length i bh a dd x st = handR Ng.length i bh 0 0 x st)
    (hsu : ∀ (cdv : Value) (A : Around) (outer : List Env) (s : Shared) (H : Hp) (b dd : Addr) (c : Str) (oe : Obj) (pn : List (Addr × Obj)), c ∈ cs → Su (cxOf C8.CX0 P w K mg base Ng x (defScope st) g cdv A outer s H C8.E0).nox b dd c oe → Gd0 ((cxOf C8.CX0 P w K mg base Ng x (defScope st) g cdv A outer s H C8.E0).nox.suite b ((b, oe) :: pn)) → L2H.RoomH 1 (cxOf C8.CX0 P w K mg base Ng x (defScope st) g cdv A outer s H C8.E0).nox.A →
      GSs ((cxOf C8.CX0 P w K mg base Ng x (defScope st) g cdv A outer s H C8.E0).nox.suite b ((b, oe) :: pn)) (fun _ _ _ _ => False) (b₀ :: suite) (bh b dd c))
    (hge : (defScope st).names.lookup C = some .globalImplicit := by rfl) (hi : Ng[i]? = some n := by rfl) (hln : (defScope st).names.lookup n = some .local := by rfl) (h0 : ∀ f : Addr, (L2.start Ng [V.ref f])[0]? = some (some (V.ref f)) := by intro _; rfl)
    (hN0 : Ng[0]? = some a := by rfl) (hva : (defScope st).names.lookup a = some .local := by rfl) (d1 : (a == ("__debug__" : Str)) = false := by decide +kernel) (d2 : (a == ("__classdict__" : Str)) = false := by decide +kernel) (d3 : (x == ("__debug__" : Str)) = false := by decide +kernel) (hde : (C == ("__debug__" : Str)) = false := by decide +kernel) :
    Said P w K mg base x (saidR u cs Ng.length i bh) := by
  refine ⟨g, a, Ng, st, fd, F, hm, hb, S, hN0, .inl hva, d1, d2, d3, fun X cdv q e1 e2 e3 e4 e5 hun hgu => ?_⟩
  subst e1; subst e2; subst e3; subst e4; subst e5
  rw [hbody]
  refine said_gives hge hme hde S.nd hi hln h0 (by have := (List.getElem?_eq_some_iff.mp hN0).1; omega) hcs ind fun s H b dd c oe pn hc hu => hsu cdv X.A X.stack s H b dd c oe pn hc ⟨hu.cls, hu.fld⟩ ⟨S.nd, ?_, hgu⟩ ⟨?_, ?_⟩
  · show X.A.units + 3 + 200 < cLine
    have := hun.un; omega
  · show X.A.depth + 1 + 3 * 1 + 5 < recursionLimit
    have := hun.dp; omega
  · show X.A.units + 3 + 16 * 1 + 200 < cLine
    have := hun.un; omega
/-! ### a comprehension whose words change the store -/
section
variable {keep : Sto → Prop} [DecidablePred keep] {mi : MI} {t : CT} {te : M} {vs : List Nat} {sl : Sl} {st : Sto}
theorem lcL_ex (I : Sto → Prop) (P : D → Prop) (hk : ∀ st, keep st) : ∀ (ds : List D) {st : Sto}, I st →
    (∀ d ∈ ds, ∀ st, I st → ∃ sl2 y st1, ctSet t d sl = some sl2 ∧ te sl2 st = .ok y st1 ∧ P y ∧ I st1) →
    ∃ (ys : List D) (st' : Sto), lcL keep t tYesM te sl ds st = .ok ys st' ∧ ys.length = ds.length ∧ (∀ y ∈ ys, P y) ∧ I st'
  | [], st, hi, _ => ⟨[], st, by unfold lcL; rw [if_pos (hk st)], rfl, fun _ h => (nomatch h), hi⟩
  | d :: ds, st, hi, h => by
    obtain ⟨sl2, y, st1, h1, h2, h3, h4⟩ := h d List.mem_cons_self st hi
    obtain ⟨ys, st', e, l, p, i⟩ := lcL_ex I P hk ds h4 fun z hz => h z (List.mem_cons_of_mem _ hz)
    refine ⟨y :: ys, st', ?_, by simp [l], fun z hz => (List.mem_cons.mp hz).elim (fun q => q ▸ h3) (p z), i⟩
    unfold lcL
    rw [if_pos (hk st), h1]
    simp only [tYesM, h2, e]
theorem mLc_ex (I : Sto → Prop) (P : D → Prop) {ds : List D} (hi : mi sl st = .ok ⟨ds, keep⟩ st) (hk : ∀ st, keep st) (hz : ds.length ≤ 1000) (h0 : I st)
    (h : ∀ d ∈ ds, ∀ st, I st → ∃ sl2 y st1, ctSet t d (wipeD sl vs) = some sl2 ∧ te sl2 st = .ok y st1 ∧ P y ∧ I st1) :
    ∃ (ys : List D) (st' : Sto), mLc mi t tYesM te vs sl st = .ok (.list ys) st' ∧ ys.length = ds.length ∧ (∀ y ∈ ys, P y) ∧ I st' := by
  obtain ⟨ys, st', e, l, p, i⟩ := lcL_ex (sl := wipeD sl vs) (t := t) (te := te) I P hk ds h0 h
  refine ⟨ys, st', ?_, l, p, i⟩
  unfold mLc lcR
  rw [hi]
  simp only [R.bind_ok, e]
  rw [if_pos]
  · rfl
  · rw [l]; exact sz_le hz
end
end Pv
set_option Elab.async false
set_option linter.all false
set_option maxRecDepth 100000
set_option maxHeartbeats 1000000
set_option pp.maxSteps 400
namespace Pv
open PySem PySem.Spec L2 LamX
open PyProof.Rows hiding St

/-! ### *e in a display -/
def seqD (st : Sto) (d : D) : Option (List D) := match deref st d with | .list ds => some ds | .tuple ds => some ds | _ => none
theorem seqD_list {st : Sto} {ds : List D} : seqD st (.list ds) = some ds := rfl
theorem seqD_tuple {st : Sto} {ds : List D} : seqD st (.tuple ds) = some ds := rfl
def onO (o : Option (List D)) (f : List D → R (List D)) : R (List D) := match o with | some ds => f ds | none => .bad
def msStar (m : M) (ms : Ms) : Ms := fun sl st => (m sl st).bind fun d st1 => onO (seqD st1 d) fun ds => (ms sl st1).bind fun es st2 => .ok (ds ++ es) st2
@[simp] theorem e_star {m : M} {ms : Ms} {sl : Sl} {st : Sto} : msStar m ms sl st = (m sl st).bind fun d st1 => onO (seqD st1 d) fun ds => (ms sl st1).bind fun es st2 => .ok (ds ++ es) st2 := rfl
@[simp] theorem onO_some {ds : List D} {f : List D → R (List D)} : onO (some ds) f = f ds := rfl
@[simp] theorem seqD_list' {st : Sto} {ds : List D} : seqD st (.list ds) = some ds := rfl
@[simp] theorem seqD_tuple' {st : Sto} {ds : List D} : seqD st (.tuple ds) = some ds := rfl
section
variable {X : Cx} {Wx : WX} {p : Pos}
theorem ga_star {e : Expr} {es : List Expr} {m : M} {ms : Ms} (ha : GE X Wx e m) (hr : GA X Wx es ms) (hs : starEach (.Starred e p :: es) X.env = (true, eval e X.env) :: starEach es X.env := by rfl) : GA X Wx (.Starred e p :: es) (msStar m ms) := by
  refine (StX.pa_star ha hr hs).imp fun sh H Q ⟨W, sl, st, hr, hs, p⟩ => ?_
  refine rd_bindL hr hs p fun d1 st1 W1 v1 H1 e1 x1 h1 s1 r1 p1 => ?_
  have go : ∀ (ds : List D) (a : Addr) (xs : List V), v1 = .ref a → (SqT X.K H1 a xs ∨ SqL X.K H1 a xs) → repL X.K W1 xs ds → PostL (nv X) W1 H1 Q (fun cls dd H' => Wx cls dd sh H') ((ms sl st1).bind fun es st2 => .ok (ds ++ es) st2) →
      ∃ p xs, v1 = V.ref p ∧ (SqT X.K H1 p xs ∨ SqL X.K H1 p xs) ∧ rdL (nv X) Wx ms sh H1 fun ys H2 => Q (xs ++ ys) H2 := fun ds a xs ev sq l p2 => by
    refine ⟨a, xs, ev, sq, ?_⟩
    refine rdL_bindL h1 s1 p2 fun es st2 W2 vs H2 e2 x2 h2 s2 r2 p3 => ?_
    exact PostL.now h2 p3 (repL_append (x2.repL l) r2)
  unfold seqD at p1
  split at p1
  · rename_i ds hd
    obtain ⟨a, xs, ev, f, l⟩ := rep_dlist h1 r1 hd
    exact go ds a xs ev (.inr (.inl (.inl f))) l p1
  · rename_i ds hd
    obtain ⟨a, xs, ev, f, l⟩ := rep_dtuple h1 r1 hd
    exact go ds a xs ev (.inl f) l p1
  · exact p1.elim
end

/-! ### defs with defaults, with keyword-only parameters; f(e, .., k = v, ..) -/
/-- constants: what K holds of them -/
def CDef (K : PySem.W.Frag) (u : Value) (d : D) : Prop := ∃ x : V, RelV x u ∧ ∀ W, rep K W x d
inductive CDefs (K : PySem.W.Frag) : List Value → List D → Prop
  | nil : CDefs K [] []
  | cons {u : Value} {d : D} {us : List Value} {ds : List D} : CDef K u d → CDefs K us ds → CDefs K (u :: us) (d :: ds)
theorem CDefs.vals {K : PySem.W.Frag} : ∀ {us : List Value} {ds : List D}, CDefs K us ds → ∃ xs : List V, Vals xs us ∧ ∀ W, repL K W xs ds
  | _, _, .nil => ⟨[], .nil, fun _ => rfl⟩
  | _, _, .cons ⟨x, r, h⟩ l => let ⟨xs, a, b⟩ := l.vals; ⟨x :: xs, .cons r a, fun W => ⟨x, xs, rfl, h W, b W⟩⟩
/-- a def by name, whatever its defaults -/
def FunX (K : PySem.W.Frag) (x : Str) (st : Stmt) (f : Addr) (fd : FuncData) : Prop :=
  ∃ (oc : Value) (od : Option Addr) (dV kV doc pm : Value) (an : Option Addr) (cdv ct : Value) (osl : Array (Option Value)),
    fd = PySem.W.fnOf x x (defArgs st) (defBody st) (defScope st) dV kV doc pm an cdv ct ∧ K.lookup f = some ⟨oc, od, .func fd, osl⟩ ∧ PySem.W.codeIn K cdv x = true
/-- how a call of n values and the keywords ks binds: by ix out of the values, the keywords' values, the defaults cD -/
structure BindN (K : PySem.W.Frag) (fd : FuncData) (ps : List Str) (n : Nat) (ks : List Str) (ix : List Nat) (cD : List D) : Prop where
  to : ∃ (cs : List Value), CDefs K cs cD ∧ ∀ (s : Shared) (us ws : List Value), K.In s.heap → us.length = n → ws.length = ks.length → BindsTo s fd ⟨us, ks.zip ws⟩ (ps.zip (perm ix (us ++ (ws ++ cs))))
  ixl : ix.length = ps.length
  ixb : ∀ i ∈ ix, i < n + (ks.length + cD.length)
/-- a def, to be called by BindN -/
structure DfN (P : Program) (w : World) (K : PySem.W.Frag) (mg : Str → Option Value) (base : Heap) (k : Nat) (x : Str) (f : Addr) (fd : FuncData) (ps : List Str) (F : Fn) : Prop where
  fn : FnG P w K mg base k f fd ps F
  mg : mg x = some (.ref f)
  kp : PySem.W.keepIn K (.ref f) = true
theorem DfN.mono {P : Program} {w : World} {K : PySem.W.Frag} {mg : Str → Option Value} {base : Heap} {j k : Nat} {x : Str} {f : Addr} {fd : FuncData} {ps : List Str} {F : Fn} (d : DfN P w K mg base j x f fd ps F) (h : j ≤ k) : DfN P w K mg base k x f fd ps F :=
  ⟨d.fn.mono h, d.mg, d.kp⟩
theorem Df.n {P : Program} {w : World} {K : PySem.W.Frag} {mg : Str → Option Value} {base : Heap} {k : Nat} {x : Str} {f : Addr} {fd : FuncData} {ps : List Str} {F : Fn} (d : Df P w K mg base k x f fd ps F) : DfN P w K mg base k x f fd ps F := ⟨d.fn, d.mg, d.kp⟩
def DefN (K : PySem.W.Frag) (mg : Str → Option Value) (x : Str) (st : Stmt) (B : FuncData → Prop) : Prop := ∃ f fd, FunX K x st f fd ∧ PySem.W.keepIn K (.ref f) = true ∧ mg x = some (.ref f) ∧ B fd
def HasN (P : Program) (w : World) (K : PySem.W.Frag) (mg : Str → Option Value) (base : Heap) (k : Nat) (x : Str) (ps : List Str) (F : Fn) (B : FuncData → Prop) : Prop := ∃ f fd, DfN P w K mg base k x f fd ps F ∧ B fd
/-- the arrangement -/
def arr (ix : List Nat) (l : List D) : List D := perm ix l
@[simp] theorem arr_nil {l : List D} : arr [] l = [] := rfl
@[simp] theorem arr_cons {i : Nat} {ix : List Nat} {l : List D} : arr (i :: ix) l = (match l[i]? with | some d => d :: arr ix l | none => arr ix l) := by
  unfold arr perm
  rw [List.filterMap_cons]
  cases l[i]? <;> rfl
def mCallN (F : Fn) (ix : List Nat) (cD : List D) (ms mk : Ms) : M := fun sl st => (ms sl st).bind fun ds st1 => (mk sl st1).bind fun es st2 => F (arr ix (ds ++ (es ++ cD))) st2
@[simp] theorem e_callN {F : Fn} {ix : List Nat} {cD : List D} {ms mk : Ms} {sl : Sl} {st : Sto} : mCallN F ix cD ms mk sl st = (ms sl st).bind fun ds st1 => (mk sl st1).bind fun es st2 => F (arr ix (ds ++ (es ++ cD))) st2 := rfl
section
variable {P : Program} {w : World} {K : PySem.W.Frag} {mg : Str → Option Value} {base : Heap}
theorem fnG_ofN {x : Str} {st : Stmt} {f : Addr} {fd : FuncData} {Ns ps : List Str} {k : Nat} {m : MS} {F : Fn} (h : FunX K x st f fd) (S : FnScope Ns ps (defScope st))
    (hF : F = fnK Ns.length m ∨ F = fnP Ns.length m)
    (hb : ∀ cdv A outer s H E, Gd (Cb P w K mg base Ns x st f cdv A outer s H E) → Room k (Cb P w K mg base Ns x st f cdv A outer s H E).A → Takes (Cb P w K mg base Ns x st f cdv A outer s H E) (Ew E) →
      PassesOwn (model P w) (Cb P w K mg base Ns x st f cdv A outer s H E).A (Cb P w K mg base Ns x st f cdv A outer s H E).env (Cb P w K mg base Ns x st f cdv A outer s H E).xe →
      GSs (Cb P w K mg base Ns x st f cdv A outer s H E) (Ew E) (defBody st) m) : FnG P w K mg base (k + 1) f fd ps F := by
  obtain ⟨oc, od, dV, kV, doc, pm, an, cdv, ct, osl, rfl, lk, hcd⟩ := h
  constructor
  intro A outer s H args us vs Q E hr hgu e0 hbn rv hsp
  obtain ⟨W, ds, st0, hR, hL, hl, hP⟩ := hsp
  have hlv : vs.length = ps.length := (repL_length hL).trans hl
  have kin := e0.mod.kin.keeps fun b o e => (e0.bs b o e).1
  have nolim := e0.mod.nolimit.keeps fun b o e => (e0.bs b o e).1
  have kinds : ∀ y ∈ ps.zip us, (defScope st).names.lookup y.1 = some .local ∨ ((defScope st).names.lookup y.1 = some .cell ∧ ((cellsFrom (s.heap.objs.size + 1) (defScope st).names []).lookup y.1).isSome = true) := by
    intro y hy
    obtain ⟨nm, u⟩ := y
    cases S.par nm (List.of_mem_zip hy).1 with
    | inl q => exact Or.inl q
    | inr q => exact Or.inr ⟨q, PySem.W.cellsFrom_some _ _ _ (Or.inl q)⟩
  have rest : Room k (A.deeper (envOfC x (defScope st) s.heap.objs.size f cdv)) := hr.deeper _
  refine codeAny_call_function hr.depth (kin _ _ lk) rfl S.co S.gen rfl (PySem.W.codeRec_of kin hcd) (hbn _ _ _ _ (wpAny_newFunctionEnv_cells S.kind kinds ?_))
  intro env hen s1 xin
  subst hen
  refine ⟨nolim.keeps xin.toInCall.keep, codeAny_func ?_⟩
  have G : Gd (Cb P w K mg base Ns x st f cdv A outer s H E) := gd_of (k := k) rfl S.nd rest hgu
  have B := hb cdv A outer s H E G rest (takes_of rfl rfl rfl rfl) (passes_of rfl)
  have I := inv_start (CX := L2.CX P w) (w := w) (cd := cdv) (E := E) S hr.hd e0 hlv rv xin
  have hP' : Post ⟨K, mg⟩ W H Q E (endR (m (startD Ns.length ds) st0)) := by
    rcases hF with q | q
    · subst q; exact hP
    · subst q; exact fin_post hR hP
  have J := B.run [] s1 (L2.start Ns vs) H { nx := fun _ H' => Q .non H', rt := Q } I ⟨W, _, st0, hR, start_rep hL, end_posts hP'⟩
  refine wpAny_mono J ?_ fun e s' z => z
  intro fl s' z
  cases fl with
  | ret u => obtain ⟨v, σ', H', I', q1, q2⟩ := z; exact ⟨v, H', I'.os, I'.bare, I'.base, I'.hok, q1, q2⟩
  | next => obtain ⟨σ', H', I', q2⟩ := z; exact ⟨V.non, H', I'.os, I'.bare, I'.base, I'.hok, rfl, q2⟩
  | brk => obtain ⟨_, _, _, z⟩ := z; exact z.elim
  | cont => obtain ⟨_, _, _, z⟩ := z; exact z.elim
end
section
variable {X : Cx} {Wx : WX} {k n : Nat} {f : Addr} {fd : FuncData} {ps ks : List Str} {F : Fn} {x : Str} {p pos : Pos} {e : Expr} {es : List Expr} {kws : List Keyword} {ms mk : Ms} {ix : List Nat} {cD : List D}
theorem run_N {pins : List (Addr × Obj)} {H : Hp} {s : Shared} {Q : VK} {us ws : List Value} {vs zs : List V} {sh : L2.St} {ds es : List D} {W : Wd} {st : Sto} (d : DfN X.prog X.w X.K X.mg X.base k x f fd ps F) (b : BindN X.K fd ps n ks ix cD) (hr : Room k X.A) (g : Gd X) (tk : Takes X Wx)
    (I : L2.Inv X pins sh H s) (r : Vals vs us) (rz : Vals zs ws) (h : HR X.K W H st) (l1 : repL X.K W vs ds) (l2 : repL X.K W zs es) (n1 : ds.length = n) (n2 : es.length = ks.length) (q : Post (nv X) W H Q (fun cls dd H' => Wx cls dd sh H') (F (arr ix (ds ++ (es ++ cD))) st)) :
    wpAny (model X.prog X.w) X.A (call (.ref f) us (ks.zip ws)) (EP X pins sh Q) X.xe s := by
  obtain ⟨cs, hc, to⟩ := b.to
  obtain ⟨xs, rx, lx⟩ := hc.vals
  have hv : vs.length = n := (repL_length l1).trans n1
  have hz : zs.length = ks.length := (repL_length l2).trans n2
  have B := to s us ws I.kIn (r.length.symm.trans hv) (rz.length.symm.trans hz)
  have lall := repL_append l1 (repL_append l2 (lx W))
  have rall := r.append (rz.append rx)
  have len : (vs ++ (zs ++ xs)).length = n + (ks.length + cD.length) := by rw [List.length_append, List.length_append, hv, hz, repL_length (lx W)]
  have lall2 := perm_rep lall len ix b.ixb
  have len2 : (arr ix (ds ++ (es ++ cD))).length = ps.length := by
    show (perm ix (ds ++ (es ++ cD))).length = ps.length
    rw [perm_len _ (by rw [← repL_length lall, len]) ix b.ixb, b.ixl]
  exact run_G (args := ⟨us, ks.zip ws⟩) d.fn hr g tk I B (perm_rel rall len ix b.ixb) ⟨W, _, st, h, lall2, len2, q⟩
/-- f(e, .., k = v, ..) -/
theorem ge_callN (d : DfN X.prog X.w X.K X.mg X.base k x f fd ps F) (b : BindN X.K fd ps n ks ix cD) (hr : Room k X.A) (g : Gd X) (tk : Takes X Wx) (ha : GA X Wx (e :: es) ms) (hk : GK X Wx kws mk) (hn : ∀ sl st ds st', ms sl st = .ok ds st' → ds.length = n) (hm : ∀ sl st ds st', mk sl st = .ok ds st' → ds.length = ks.length)
    (hall : (backToKw pos (keywordEach kws X.env)).all (·.1.isSome) = true := by rfl) (hks : (backToKw pos (keywordEach kws X.env)).filterMap (·.1) = ks := by rfl) (hg : Gl X x := by rfl) (hdb : (x == ("__debug__" : Str)) = false := by decide +kernel) (he : starEach (e :: es) X.env = (false, eval e X.env) :: starEach es X.env := by rfl)
    (hpl : ((backTo pos (starEach (e :: es) X.env)).any (·.1) || (backToKw pos (keywordEach kws X.env)).any (·.1.isNone)) = false := by rfl) : GE X Wx (.Call (.Name x p) (e :: es) kws pos) (mCallN F ix cD ms mk) := by
  refine ⟨fun pins s sh H Q I ⟨W, sl, st, hr', hs, q⟩ => wpAny_Call_Name_kw (ld_glob I hg d.mg ?_ hdb)⟩
  refine PySem.W.callWith_KW (h₀ := X.base) I.ok.mod.kin d.kp hall (thn (ha.run pos pins s sh H (fun vs H1 => rdL (nv X) Wx mk sh H1 fun zs H2 => ∃ W2 ds es st2, HR X.K W2 H2 st2 ∧ repL X.K W2 vs ds ∧ repL X.K W2 zs es ∧ ds.length = n ∧ es.length = ks.length ∧ Post (nv X) W2 H2 Q (fun cls dd H' => Wx cls dd sh H') (F (arr ix (ds ++ (es ++ cD))) st2)) I ?_) fun us s1 ⟨vs, H1, I1, r, q1⟩ => ?_) hpl he
  · refine rdL_bind hr' hs q fun ds st1 W1 vs H1 e1 x1 h1 s1 l1 p1 => ?_
    exact rdL_bind h1 s1 p1 fun es st2 W2 zs H2 e2 x2 h2 s2 l2 p2 => ⟨W2, ds, es, st2, h2, x2.repL l1, l2, hn _ _ _ _ e1, hm _ _ _ _ e2, p2⟩
  · refine thn (hk.run pos pins s1 sh H1 _ I1 q1) fun ws s2 ⟨zs, H2, I2, rz, W2, ds, es, st2, h2, l1, l2, n1, n2, p2⟩ => ⟨I2.kIn, ?_⟩
    rw [hks]
    exact run_N d b hr g tk I2 r rz h2 l1 l2 n1 n2 p2
/-- f(e, ..) -/
theorem ge_callNp (d : DfN X.prog X.w X.K X.mg X.base k x f fd ps F) (b : BindN X.K fd ps n [] ix cD) (hr : Room k X.A) (g : Gd X) (tk : Takes X Wx) (ha : GA X Wx (e :: es) ms) (hn : ∀ sl st ds st', ms sl st = .ok ds st' → ds.length = n)
    (hg : Gl X x := by rfl) (hdb : (x == ("__debug__" : Str)) = false := by decide +kernel) (he : starEach (e :: es) X.env = (false, eval e X.env) :: starEach es X.env := by rfl) (hpl : (backTo pos (starEach es X.env)).any (·.1) = false := by rfl) : GE X Wx (.Call (.Name x p) (e :: es) [] pos) (mCallN F ix cD ms msNil) := by
  refine ⟨fun pins s sh H Q I ⟨W, sl, st, hr', hs, q⟩ => wpAny_Call_Name_kw (ld_glob I hg d.mg ?_ hdb)⟩
  refine PySem.W.callWith_K (h₀ := X.base) I.ok.mod.kin d.kp (thn (ha.run pos pins s sh H (fun vs H1 => ∃ W2 ds st2, HR X.K W2 H1 st2 ∧ repL X.K W2 vs ds ∧ ds.length = n ∧ Post (nv X) W2 H1 Q (fun cls dd H' => Wx cls dd sh H') (F (arr ix (ds ++ ([] ++ cD))) st2)) I ?_) fun us s1 ⟨vs, H1, I1, r, W2, ds, st2, h2, l1, n1, p2⟩ => ⟨I1.kIn, ?_⟩) he hpl
  · exact rdL_bind hr' hs q fun ds st1 W1 vs H1 e1 x1 h1 s1 l1 p1 => ⟨W1, ds, st1, h1, l1, hn _ _ _ _ e1, p1⟩
  · exact run_N (ws := []) (zs := []) (es := []) d b hr g tk I1 r .nil h2 l1 rfl n1 rfl p2
/-- f(k = v, ..) -/
theorem ge_callNk (d : DfN X.prog X.w X.K X.mg X.base k x f fd ps F) (b : BindN X.K fd ps 0 ks ix cD) (hr : Room k X.A) (g : Gd X) (tk : Takes X Wx) (hk : GK X Wx kws mk) (hm : ∀ sl st ds st', mk sl st = .ok ds st' → ds.length = ks.length)
    (hall : (backToKw pos (keywordEach kws X.env)).all (·.1.isSome) = true := by rfl) (hks : (backToKw pos (keywordEach kws X.env)).filterMap (·.1) = ks := by rfl) (hg : Gl X x := by rfl) (hdb : (x == ("__debug__" : Str)) = false := by decide +kernel)
    (hpl : ((backTo pos (starEach [] X.env)).any (·.1) || (backToKw pos (keywordEach kws X.env)).any (·.1.isNone)) = false := by rfl) : GE X Wx (.Call (.Name x p) [] kws pos) (mCallN F ix cD msNil mk) := by
  refine ⟨fun pins s sh H Q I ⟨W, sl, st, hr', hs, q⟩ => wpAny_Call_Name_kw (ld_glob I hg d.mg ?_ hdb)⟩
  refine PySem.W.callWith_KW0 (h₀ := X.base) I.ok.mod.kin d.kp hall (thn (hk.run pos pins s sh H (fun zs H1 => ∃ W2 es st2, HR X.K W2 H1 st2 ∧ repL X.K W2 zs es ∧ es.length = ks.length ∧ Post (nv X) W2 H1 Q (fun cls dd H' => Wx cls dd sh H') (F (arr ix ([] ++ (es ++ cD))) st2)) I ?_) fun ws s1 ⟨zs, H1, I1, r, W2, es, st2, h2, l1, n1, p2⟩ => ?_) hpl
  · exact rdL_bind hr' hs q fun ds st1 W1 vs H1 e1 x1 h1 s1 l1 p1 => ⟨W1, ds, st1, h1, l1, hm _ _ _ _ e1, p1⟩
  · rw [hks]
    exact ⟨I1.kIn, run_N (us := []) (vs := []) (ds := []) d b hr g tk I1 .nil r h2 rfl l1 rfl n1 p2⟩
end
/-! ### the binding, from what K holds -/
section
variable {K : PySem.W.Frag} {x : Str} {st : Stmt} {f : Addr} {doc pm cdv ct kV oc : Value} {od an : Option Addr} {osl : Array (Option Value)} {ps ks : List Str} {n : Nat} {ix : List Nat} {cD : List D}
theorem funX_mk {dV : Value} (l : K.lookup f = some ⟨oc, od, .func (PySem.W.fnOf x x (defArgs st) (defBody st) (defScope st) dV kV doc pm an cdv ct), osl⟩) (c : PySem.W.codeIn K cdv x = true) :
    FunX K x st f (PySem.W.fnOf x x (defArgs st) (defBody st) (defScope st) dV kV doc pm an cdv ct) := ⟨oc, od, dV, kV, doc, pm, an, cdv, ct, osl, rfl, l, c⟩
/-- positional defaults alone -/
theorem bindN_T {T : Addr} {o : Obj} {its : Array Value} {m : Nat} {cs : List Value} (lT : K.lookup T = some o) (oT : o.data = .seq its m) (hc : CDefs K cs cD) (hl : ix.length = ps.length) (hb : ∀ i ∈ ix, i < n + (ks.length + cD.length))
    (h : ∀ us ws : List Value, us.length = n → ws.length = ks.length → ∃ k, bindArgs (PySem.W.fnOf x x (defArgs st) (defBody st) (defScope st) (.ref T) kV doc pm an cdv ct) ⟨us, ks.zip ws⟩ = seqItems? (.ref T) >>= k ∧ k (some its) = pure (ps.zip (perm ix (us ++ (ws ++ cs))))) :
    BindN K (PySem.W.fnOf x x (defArgs st) (defBody st) (defScope st) (.ref T) kV doc pm an cdv ct) ps n ks ix cD := by
  refine ⟨⟨cs, hc, fun s us ws X l1 l2 => ?_⟩, hl, hb⟩
  obtain ⟨k, e1, e2⟩ := h us ws l1 l2
  refine BindsTo.of_looks fun M => ?_
  rw [e1]
  exact looks_items X lT oT (.of_pure e2)
/-- keyword-only ones alone; lk: those that lack -/
theorem bindN_K {D : Addr} {lk : List (Str × Value)} {cs : List Value} (hq : ∀ q ∈ lk, PySem.W.nsIn K D q.1 = some (some q.2)) (hc : CDefs K cs cD) (hl : ix.length = ps.length) (hb : ∀ i ∈ ix, i < n + (ks.length + cD.length))
    (h : ∀ us ws : List Value, us.length = n → ws.length = ks.length → KwChain D lk (bindArgs (PySem.W.fnOf x x (defArgs st) (defBody st) (defScope st) .none (.ref D) doc pm an cdv ct) ⟨us, ks.zip ws⟩) (ps.zip (perm ix (us ++ (ws ++ cs))))) :
    BindN K (PySem.W.fnOf x x (defArgs st) (defBody st) (defScope st) .none (.ref D) doc pm an cdv ct) ps n ks ix cD :=
  ⟨⟨cs, hc, fun s us ws X l1 l2 => BindsTo.of_looks fun M => KwChain.looks X hq (h us ws l1 l2)⟩, hl, hb⟩
/-- none lack -/
theorem bindN_0 {dV : Value} (hl : ix.length = ps.length) (hb : ∀ i ∈ ix, i < n + (ks.length + 0))
    (h : ∀ us ws : List Value, us.length = n → ws.length = ks.length → bindArgs (PySem.W.fnOf x x (defArgs st) (defBody st) (defScope st) dV kV doc pm an cdv ct) ⟨us, ks.zip ws⟩ = pure (ps.zip (perm ix (us ++ (ws ++ []))))) :
    BindN K (PySem.W.fnOf x x (defArgs st) (defBody st) (defScope st) dV kV doc pm an cdv ct) ps n ks ix [] :=
  ⟨⟨[], .nil, fun s us ws X l1 l2 => .of_eq (h us ws l1 l2)⟩, hl, hb⟩
end
theorem cdef_none {K : PySem.W.Frag} : CDef K .none .none := ⟨.non, rfl, fun _ => rfl⟩
theorem cdef_int {K : PySem.W.Frag} {i : Int} {t : Tok} : CDef K (.int i t) (.int i) := ⟨.int i, ⟨t, rfl⟩, fun _ => rfl⟩
theorem cdef_str {K : PySem.W.Frag} {z : Str} {t : Tok} : CDef K (.str z t) (.str z) := ⟨.str z, ⟨t, rfl⟩, fun _ => rfl⟩
theorem cdef_nilT {K : PySem.W.Frag} {a : Addr} {n : Nat} {osl : Array (Option Value)} (l : K.lookup a = some ⟨.type "tuple", none, .seq #[] n, osl⟩) : CDef K (.ref a) (Gc []) :=
  ⟨.ref a, rfl, fun W => ⟨a, [], rfl, .inl ⟨_, _, _, l, rfl, rfl, rfl, (by show 0 ≤ sizeLine; decide), .nil⟩, rfl⟩⟩
end Pv
set_option Elab.async false
set_option linter.all false
set_option maxRecDepth 100000
set_option maxHeartbeats 1000000
set_option pp.maxSteps 1500
namespace Pv
open PySem PySem.Spec L2
open PyProof.Rows hiding St signs cutD pairD
/-! ### valid clusters: their hosts -/
theorem NetB.mono {n : Net} {h h' b : Nat} (B : NetB n h b) (hh : h ≤ h') : NetB n h' b :=
  ⟨Nat.le_trans B.hl hh, Nat.le_trans B.rl (Nat.mul_le_mul hh hh), B.hb, B.rb, B.mb⟩
theorem NetV.ok {n : Net} {b : Nat} (V : NetV n) (B : NetB n 12 b) : NetOk n := by
  have nm : ∀ {k : Str}, hasH n k = true → (PyData.str k).canLay0 = true := fun {k} hk => by
    obtain ⟨x, hx, e⟩ := List.any_eq_true.mp hk
    rw [← beq_iff_eq.mp e]
    exact (name_lay (V.nm x hx)).1
  refine ⟨Nat.le_trans B.hl (by decide), Nat.le_trans B.rl (by decide), fun x hx => ?_, fun r hr => ?_⟩
  · obtain ⟨a, c⟩ := name_lay (V.nm x hx)
    exact ⟨Nat.le_trans c (by decide), a⟩
  · obtain ⟨a, c, _⟩ := V.rd r hr
    exact ⟨nm a, nm c⟩
theorem NetV.inj {n : Net} (V : NetV n) {x y : Host} (hx : x ∈ n.hosts) (hy : y ∈ n.hosts) (e : x.n = y.n) : x = y := by
  have nd : (n.hosts.map (·.n)).Nodup := V.asc.imp fun {a b} h => fun q => by subst q; rw [ltX_ord.irr] at h; cases h
  have key : ∀ {l : List Host}, (l.map (·.n)).Nodup → x ∈ l → y ∈ l → x = y := fun {l} => by
    induction l with
    | nil => intro _ h; cases h
    | cons a l ih =>
      intro nd h1 h2
      rw [List.map_cons, List.nodup_cons] at nd
      rcases List.mem_cons.mp h1 with p | p <;> rcases List.mem_cons.mp h2 with q | q
      · rw [p, q]
      · exact absurd (List.mem_map.mpr ⟨y, q, by rw [← p, e]⟩) nd.1
      · exact absurd (List.mem_map.mpr ⟨x, p, by rw [← q, ← e]⟩) nd.1
      · exact ih nd.2 p q
  exact key nd hx hy
theorem NetV.has {n : Net} {y : Host} (hy : y ∈ n.hosts) : hasH n y.n = true := List.any_eq_true.mpr ⟨y, hy, by simp⟩
theorem NetV.clk {n : Net} (V : NetV n) {y : Host} (hy : y ∈ n.hosts) : clk n y.n = some y := by
  obtain ⟨c, h1, h2, h3⟩ := clk_some (NetV.has hy)
  rw [h1, V.inj h3 hy h2]
theorem clk_none {n : Net} {h : Str} (hh : hasH n h = false) : clk n h = none := by
  unfold clk
  rw [List.find?_eq_none]
  intro y hy e
  have : hasH n h = true := List.any_eq_true.mpr ⟨y, List.mem_reverse.mp hy, e⟩
  rw [this] at hh; cases hh
/-! ### the clusters by hand of k01-k09 -/
def handN : List Net := [⟨[⟨"amy", 1, 2, 2⟩, ⟨"bob", 0, 3, 1⟩, ⟨"cid", 2, 0, 2⟩], [("amy", "bob", 0), ("bob", "cid", 0), ("cid", "amy", 2)], some 4, "more"⟩,
  ⟨[⟨"amy", 1, 2, 2⟩], [], none, "wait"⟩,
  ⟨[⟨"amy", 1, 2, 2⟩, ⟨"bob", 0, 3, 1⟩], [], some 0, "wait"⟩,
  ⟨[⟨"amy", 1, 2, 2⟩, ⟨"bob", 0, 3, 1⟩], [("amy", "bob", 1), ("bob", "amy", 0)], some 0, "more"⟩,
  ⟨[⟨"amy", 1, 2, 2⟩, ⟨"bob", 0, 3, 1⟩, ⟨"cid", 2, 0, 2⟩], [("amy", "bob", 9), ("amy", "cid", 1)], none, "wait"⟩,
  ⟨[⟨"a", 70, 0, 9⟩, ⟨"b", 70, 0, 9⟩, ⟨"c", 70, 0, 9⟩, ⟨"d", 70, 0, 9⟩, ⟨"e", 70, 0, 9⟩, ⟨"f", 70, 0, 9⟩, ⟨"g", 70, 0, 9⟩, ⟨"h", 70, 0, 9⟩, ⟨"i", 70, 0, 9⟩], [("a", "b", 0), ("b", "c", 1), ("c", "d", 2), ("d", "e", 3), ("e", "f", 4), ("f", "g", 5), ("g", "h", 6), ("h", "i", 7), ("i", "h", 99)], some 5000, "more"⟩]
theorem hand_ok : ∀ n ∈ handN, NetV n ∧ NetB n 12 (10 ^ 40) := by
  have mk : ∀ n : Net, ((n.hosts.map (·.n)).Pairwise fun a b => ltX a b = true) → n.hosts ≠ [] → (∀ h ∈ n.hosts, nameB h.n = true ∧ 0 ≤ h.s ∧ 0 ≤ h.f ∧ 1 ≤ h.r ∧ h.s.natAbs ≤ 10 ^ 40 ∧ h.f.natAbs ≤ 10 ^ 40 ∧ h.r.natAbs ≤ 10 ^ 40) → ((n.roads.map prS).Pairwise fun a b => ltP a b = true) →
      (∀ r ∈ n.roads, hasH n r.1 = true ∧ hasH n r.2.1 = true ∧ r.1 ≠ r.2.1 ∧ 0 ≤ r.2.2 ∧ r.2.2.natAbs ≤ 10 ^ 40) → (∀ k, n.most = some k → 0 ≤ k ∧ k.natAbs ≤ 10 ^ 40) → (n.rule = "more" ∨ n.rule = "wait") → (n.most = none → n.rule = "wait") → n.hosts.length ≤ 12 → n.roads.length ≤ 144 → NetV n ∧ NetB n 12 (10 ^ 40) :=
    fun n h1 h2 h3 h4 h5 h6 h7 h8 h9 h10 => ⟨⟨h1, h2, fun h hh => (h3 h hh).1, fun h hh => ⟨(h3 h hh).2.1, (h3 h hh).2.2.1, (h3 h hh).2.2.2.1⟩, h4, fun r hr => ⟨(h5 r hr).1, (h5 r hr).2.1, (h5 r hr).2.2.1, (h5 r hr).2.2.2.1⟩, fun k hk => (h6 k hk).1, h7, h8⟩,
      ⟨h9, h10, fun h hh => (h3 h hh).2.2.2.2, fun r hr => (h5 r hr).2.2.2.2, fun k hk => (h6 k hk).2⟩⟩
  unfold handN
  simp only [List.forall_mem_cons]
  refine ⟨?_, ?_, ?_, ?_, ?_, ?_, fun _ h => (nomatch h)⟩
  all_goals
    refine mk _ (by decide +kernel) (by decide) (by decide +kernel) (by decide +kernel) (by decide +kernel) ?_ ?_ ?_ (by decide) (by decide)
  all_goals first | (intro k hk; cases hk; decide) | (intro k hk; cases hk) | exact .inl rfl | exact .inr rfl | (intro _; rfl) | (intro h; cases h)
end Pv
set_option Elab.async false
set_option linter.all false
set_option maxRecDepth 100000
set_option maxHeartbeats 1000000
set_option pp.maxSteps 1500
namespace Pv
open PySem PySem.Spec L2
open PyProof.Rows hiding St signs cutD pairD
/-! ### clusters, as the document has them -/
/-! ### chains of steps -/
abbrev CStep := Str × Int
def dStep (s : CStep) : D := .tuple [.str s.1, .int s.2]
def stepOf (n : Net) : D → Option CStep
  | .tuple [.str h, .int t] => if hasH n h = true then some (h, t) else none
  | _ => none
def stepsOf (n : Net) : List D → Option (List CStep)
  | [] => some []
  | d :: ds => match stepOf n d with
    | none => none
    | some s => (stepsOf n ds).map (s :: ·)
theorem stepOf_eq {n : Net} {d : D} {s : CStep} (h : stepOf n d = some s) : d = dStep s ∧ hasH n s.1 = true := by
  unfold stepOf at h
  split at h
  · split at h
    · cases h; exact ⟨rfl, by assumption⟩
    · cases h
  · cases h
theorem stepOf_d {n : Net} {s : CStep} (h : hasH n s.1 = true) : stepOf n (dStep s) = some s := by
  show (if hasH n s.1 = true then some (s.1, s.2) else none) = _
  rw [if_pos h]
theorem stepsOf_eq {n : Net} : ∀ {ds : List D} {ss : List CStep}, stepsOf n ds = some ss → ds = ss.map dStep ∧ ∀ s ∈ ss, hasH n s.1 = true
  | [], ss, h => by cases h; exact ⟨rfl, fun _ h => (nomatch h)⟩
  | d :: ds, ss, h => by
    unfold stepsOf at h
    cases e : stepOf n d with
    | none => rw [e] at h; cases h
    | some s =>
      rw [e] at h
      obtain ⟨us, h1, h2⟩ := Option.map_eq_some_iff.mp h
      subst h2
      obtain ⟨a, b⟩ := stepOf_eq e
      obtain ⟨c, f⟩ := stepsOf_eq h1
      exact ⟨by rw [List.map_cons, ← a, ← c], List.forall_mem_cons.mpr ⟨b, f⟩⟩
theorem stepsOf_d {n : Net} : ∀ {ss : List CStep}, (∀ s ∈ ss, hasH n s.1 = true) → stepsOf n (ss.map dStep) = some ss
  | [], _ => rfl
  | s :: ss, h => by
    rw [List.map_cons]
    unfold stepsOf
    rw [stepOf_d (h s List.mem_cons_self), stepsOf_d fun x hx => h x (List.mem_cons_of_mem _ hx)]
    rfl
theorem stepsOf_none {n : Net} : ∀ {ds : List D}, stepsOf n ds = none ↔ ds.all (fun d => (stepOf n d).isSome) = false
  | [] => by simp [stepsOf]
  | d :: ds => by
    unfold stepsOf
    cases e : stepOf n d with
    | none => simp [e]
    | some s =>
      rw [List.all_cons, e]
      simp only [Option.map_eq_none_iff, Option.isSome_some, Bool.true_and]
      exact stepsOf_none
def goOn (n : Net) (s l : CStep) : Bool := if s.1 = l.1 then decide (s.2 ≤ l.2) else match leastOf n s.1 l.1 with
  | none => false
  | some k => decide (k ≤ l.2 - s.2)
def goAll (n : Net) : List CStep → Bool
  | [] => true
  | [_] => true
  | s :: l :: r => goOn n s l && goAll n (l :: r)
def rateOk (n : Net) (ss : List CStep) (s : CStep) : Bool := match clk n s.1 with
  | some c => decide (((ss.countP fun z => z == s : Nat) : Int) ≤ c.r)
  | none => false
def chainP (n : Net) (ss : List CStep) : Bool := goAll n ss && ss.all (rateOk n ss)
def chainV (n : Net) : D → Bool
  | .tuple ds => (match stepsOf n ds with | some ss => chainP n ss | none => false)
  | _ => false
theorem goAll_zip (n : Net) : ∀ ss : List CStep, goAll n ss = (ss.zip (ss.drop 1)).all fun p => goOn n p.1 p.2
  | [] => rfl
  | [_] => rfl
  | s :: l :: r => by
    unfold goAll
    rw [goAll_zip n (l :: r)]
    rfl
/-! later by b -/
def shS' (b : Int) (s : CStep) : CStep := (s.1, s.2 + b)
theorem goOn_sh (n : Net) (b : Int) (s l : CStep) : goOn n (shS' b s) (shS' b l) = goOn n s l := by
  unfold goOn shS'
  simp only
  split
  · rw [Bool.eq_iff_iff, decide_eq_true_eq, decide_eq_true_eq]; omega
  · cases leastOf n s.1 l.1 with
    | none => rfl
    | some k =>
      simp only
      rw [Bool.eq_iff_iff, decide_eq_true_eq, decide_eq_true_eq]; omega
theorem goAll_sh (n : Net) (b : Int) : ∀ ss : List CStep, goAll n (ss.map (shS' b)) = goAll n ss
  | [] => rfl
  | [_] => rfl
  | s :: l :: r => by
    have := goAll_sh n b (l :: r)
    rw [List.map_cons] at this
    rw [List.map_cons, List.map_cons]
    unfold goAll
    rw [goOn_sh, this]
theorem shS_inj {b : Int} {s l : CStep} : (shS' b s == shS' b l) = (s == l) := by
  rw [Bool.eq_iff_iff, beq_iff_eq, beq_iff_eq]
  unfold shS'
  constructor
  · intro h
    have h1 := congrArg Prod.fst h
    have h2 := congrArg Prod.snd h
    simp only at h1 h2
    exact Prod.ext h1 (by omega)
  · intro h; rw [h]
theorem chainP_sh (n : Net) (b : Int) (ss : List CStep) : chainP n (ss.map (shS' b)) = chainP n ss := by
  unfold chainP
  rw [goAll_sh, List.all_map]
  congr 1
  congr 1
  funext s
  show rateOk n (ss.map (shS' b)) (shS' b s) = rateOk n ss s
  unfold rateOk
  rw [List.countP_map]
  have e : ((fun z => z == shS' b s) ∘ shS' b) = fun z => z == s := by
    funext z
    exact shS_inj
  rw [e]
  rfl
theorem eqv_step (s l : CStep) : PyData.eqv (dStep s) (dStep l) = (s == l) := by
  show (s.1 == l.1 && (decide (s.2 = l.2) && true)) = _
  rw [Bool.and_true, Bool.eq_iff_iff, Bool.and_eq_true, beq_iff_eq, beq_iff_eq, decide_eq_true_eq]
  exact ⟨fun h => Prod.ext h.1 h.2, fun h => by rw [h]; exact ⟨rfl, rfl⟩⟩
theorem get_Tat {S : Sto} {r : Nat} {kvs : List (List Key × D)} (h : S[r]? = some (.dctT kvs)) (a b : Str) (z : D) : fGet (Rf r) (.tuple [.str a, .str b]) z S = .ok ((lookD kvs [.inr a, .inr b]).getD z) S := by
  unfold fGet dlook
  simp only [Int.toNat_natCast, h]
  simp only [keysOf, keyOf, Option.map_some]
  cases lookD kvs [.inr a, .inr b] <;> rfl
theorem isDct_Tat {S : Sto} {r : Nat} {kvs : List (List Key × D)} (h : S[r]? = some (.dctT kvs)) : isDct S (Rf r) = true := by
  unfold isDct
  simp only [Int.toNat_natCast, h]
theorem get_Kat {S : Sto} {r : Nat} {kvs : List (Key × D)} (h : S[r]? = some (.dct kvs)) (a : Str) : fIx (Rf r) (.str a) S = (match lookD kvs (.inr a) with | some d => .ok d S | none => .bad) := by
  unfold fIx dlook
  simp only [Int.toNat_natCast, h]
  simp only [Pv.keyOf, Option.map_some]
  cases lookD kvs (.inr a) <;> rfl
/-! the run that follows a chain -/
def aheadB (n : Net) (ss : List CStep) : D → Bool
  | .none => true
  | .int a => (match ss with
    | [] => true
    | s :: _ => match clk n s.1 with
      | some c => decide (-c.s ≤ a) && decide (a ≤ c.f)
      | none => false)
  | _ => false
def folR (n : Net) (o : Option Int) (k : Nat) (s : CStep) : Int := match clk n s.1 with
  | some c => if k = 0 then s.2 + (match o with | none => c.f | some a => a) else s.2 - c.s
  | none => 0
def folW (n : Net) (o : Option Int) : Nat → Option Str → List CStep → List Ev
  | _, _, [] => []
  | k, p, s :: r => ⟨s.1, s.2, folR n o k s, match p with | none => none | some q => if q = s.1 then none else some (k - 1)⟩ :: folW n o (k + 1) (some s.1) r
def fol (n : Net) (o : Option Int) (ss : List CStep) : List Ev := folW n o 0 none ss
theorem folW_len (n : Net) (o : Option Int) : ∀ (k : Nat) (p : Option Str) (ss : List CStep), (folW n o k p ss).length = ss.length
  | _, _, [] => rfl
  | k, p, s :: r => by unfold folW; rw [List.length_cons, folW_len n o (k + 1) (some s.1) r, List.length_cons]
theorem folW_sh (n : Net) (o : Option Int) (b : Int) : ∀ (k : Nat) (p : Option Str) (ss : List CStep), (∀ s ∈ ss, hasH n s.1 = true) → folW n o k p (ss.map (shS' b)) = (folW n o k p ss).map (shE b)
  | _, _, [], _ => rfl
  | k, p, s :: r, h => by
    rw [List.map_cons]
    unfold folW
    rw [List.map_cons]
    have ih := folW_sh n o b (k + 1) (some s.1) r fun x hx => h x (List.mem_cons_of_mem _ hx)
    show _ :: folW n o (k + 1) (some s.1) (r.map (shS' b)) = _
    rw [ih]
    congr 1
    obtain ⟨c, hc, _⟩ := clk_some (h s List.mem_cons_self)
    unfold shE
    have e1 : folR n o k (shS' b s) = folR n o k s + b := by
      unfold folR shS'
      simp only [hc]
      split <;> omega
    rw [e1]
    rfl
def evSc (e : Ev) : Sc := (e.h, e.t, e.r, dLet e.l)
theorem rf_evs (n : Net) (b : Int) (es : List Ev) : rf n ((es.map (shE b)).map dEv) = rf n (es.map dEv) := by
  have e1 : (es.map (shE b)).map dEv = (es.map evSc).map (dSc b) := by rw [List.map_map, List.map_map]; rfl
  have e2 : es.map dEv = (es.map evSc).map (dSc 0) := by
    rw [List.map_map]
    refine List.map_congr_left fun e _ => ?_
    show dEv e = .tuple [.str e.h, .int (e.t + 0), .int (e.r + 0), dLet e.l]
    rw [Int.add_zero, Int.add_zero]; rfl
  rw [e1, e2, rf_sh]
theorem stepOf_sh (n : Net) (b : Int) (s : CStep) : stepOf n (dStep (shS' b s)) = (stepOf n (dStep s)).map (shS' b) := by
  show (if hasH n s.1 = true then some (s.1, s.2 + b) else none) = (if hasH n s.1 = true then some (s.1, s.2) else none).map (shS' b)
  split <;> rfl
theorem stepsOf_sh (n : Net) (b : Int) : ∀ ss : List CStep, stepsOf n ((ss.map (shS' b)).map dStep) = (stepsOf n (ss.map dStep)).map (List.map (shS' b))
  | [] => rfl
  | s :: ss => by
    rw [List.map_cons, List.map_cons, List.map_cons]
    unfold stepsOf
    rw [stepOf_sh, stepsOf_sh n b ss]
    cases stepOf n (dStep s) with
    | none => rfl
    | some t =>
      cases stepsOf n (ss.map dStep) with
      | none => rfl
      | some ts => rfl
theorem chainV_sh (n : Net) (b : Int) (ss : List CStep) : chainV n (.tuple ((ss.map (shS' b)).map dStep)) = chainV n (.tuple (ss.map dStep)) := by
  unfold chainV
  simp only
  rw [stepsOf_sh]
  cases stepsOf n (ss.map dStep) with
  | none => rfl
  | some ts => exact chainP_sh n b ts
theorem aheadB_sh (n : Net) (b : Int) (ss : List CStep) (d : D) : aheadB n (ss.map (shS' b)) d = aheadB n ss d := by
  cases d <;> first | rfl | (cases ss <;> rfl)
/-- a run's sizes -/
def okSt (ss : List CStep) : Bool := decide (ss.length ≤ 10) && ss.all fun s => decide (s.1.length ≤ 10) && ((PyData.str s.1).canLay0 && decide (s.2.natAbs ≤ 100))
theorem okSt_ok {ss : List CStep} (h : okSt ss = true) {b : Int} (hb : b.natAbs ≤ 10000) : Ok (.tuple ((ss.map (shS' b)).map dStep)) 5000 2 ∧ ss.length ≤ 10 := by
  unfold okSt at h
  simp only [Bool.and_eq_true, decide_eq_true_eq, List.all_eq_true] at h
  refine ⟨(Ok.tup (m := 260) (k := 1) (c := 10) (fun d hd => ?_) (by rw [List.length_map, List.length_map]; exact h.1)).mono (by decide) (by decide), h.1⟩
  rw [List.map_map] at hd
  obtain ⟨s, hs, rfl⟩ := List.mem_map.mp hd
  obtain ⟨h1, h2, h3⟩ := h.2 s hs
  refine (Ok.tup (m := 104) (k := 0) (c := 2) (fun d hd => ?_) (by simp)).mono (by decide) (by decide)
  simp only [List.mem_cons, List.not_mem_nil, or_false] at hd
  rcases hd with rfl | rfl
  · exact ok_str h2 h1
  · exact (ok_int (i := s.2 + b) (by omega)).mono (by decide) (Nat.le_refl _)
def evEq (a c : Ev) : Bool := a.h == c.h && (decide (a.t = c.t) && (decide (a.r = c.r) && decide (a.l = c.l)))
theorem evEq_eq {a c : Ev} (h : evEq a c = true) : a = c := by
  obtain ⟨h1, t1, r1, l1⟩ := a
  obtain ⟨h2, t2, r2, l2⟩ := c
  unfold evEq at h
  simp only [Bool.and_eq_true, beq_iff_eq, decide_eq_true_eq] at h
  obtain ⟨rfl, rfl, rfl, rfl⟩ := h
  rfl
def evsEq : List Ev → List Ev → Bool
  | [], [] => true
  | a :: as, c :: cs => evEq a c && evsEq as cs
  | _, _ => false
theorem evsEq_eq : ∀ {as cs : List Ev}, evsEq as cs = true → as = cs
  | [], [], _ => rfl
  | a :: as, c :: cs, h => by
    unfold evsEq at h
    rw [Bool.and_eq_true] at h
    rw [evEq_eq h.1, evsEq_eq h.2]
  | [], _ :: _, h => by cases h
  | _ :: _, [], h => by cases h
end Pv
set_option Elab.async false
set_option linter.all false
set_option maxRecDepth 100000
set_option maxHeartbeats 1600000
namespace Pv
open PySem PySem.Spec L2
open PyProof.Rows hiding St signs cutD pairD
/-! ### zip of a list and a tuple, in either order -/
/-- what is asked of the two iterators: I it i: it stands at i; L: what it goes over -/
structure Nx (prog : Program) (w : World) (it l : Addr) (xs : Array Value) (I : Heap → Nat → Prop) (L : Heap → Prop) : Prop where
  item : ∀ {A : Around} {E : Value → Shared → Prop} {s : Shared} {k : Nat} {x : Value} {Q : Value → Shared → Prop}, I s.heap k → L s.heap → xs[k]? = some x → (∀ h', I h' (k + 1) → Heap.SameBut it s.heap h' → Q x { s with heap := h' }) → wpAny (model prog w) A (Builtin.SmallTypes.nextOf (.ref it)) Q E s
  stop : ∀ {A : Around} {E : Value → Shared → Prop} {s : Shared} {k : Nat} {Q : Value → Shared → Prop}, A.handled = none → I s.heap k → L s.heap → xs[k]? = none → (∀ h' e, Heap.ExtBut it s.heap h' → (∃ o, h'.get? e = some o ∧ o.cls = .type "StopIteration") → E (.ref e) { s with heap := h' }) → wpAny (model prog w) A (Builtin.SmallTypes.nextOf (.ref it)) Q E s
  mv : ∀ {c : Addr} {h h' : Heap} {k : Nat}, I h k → Heap.ExtBut c h h' → it ≠ c → I h' k
  ml : ∀ {c : Addr} {h h' : Heap}, L h → Heap.ExtBut c h h' → l ≠ c → L h'
  up : ∀ {h h' : Heap} {k : Nat}, I h k → (∀ o, h.get? it = some o → h'.get? it = some o) → I h' k
theorem nx_list {prog : Program} {w : World} {it l : Addr} {xs : Array Value} : Nx prog w it l xs (fun h k => h.IsListIter it l k) (fun h => h.IsList l xs) :=
  ⟨fun a b c d => wpAny_nextOf_list_item a b c d, fun a b c d e => wpAny_nextOf_list_end a b c d e, fun a b c => a.extBut b c, fun a b c => a.extBut b c, fun a b => a.at b⟩
theorem nx_tuple {prog : Program} {w : World} {it l : Addr} {xs : Array Value} : Nx prog w it l xs (fun h k => h.IsTupleIter it l k) (fun h => h.IsTuple l xs) :=
  ⟨fun a b c d => RZ.nextOf_tuple_item a b c d, fun a b c d e => RZ.nextOf_tuple_end a b c d e, fun a b c => a.extBut b c, fun a b c => a.extBut b c, fun a b => a.at b⟩
section
variable {prog : Program} {w : World} {A : Around} {E : Value → Shared → Prop} {s : Shared} {z TI TO i1 i2 l1 l2 : Addr} {k1 k2 : Nat} {xs ys : Array Value} {x y a b : Value} {I1 I2 : Heap → Nat → Prop} {L1 L2 : Heap → Prop}
theorem zipN_item {Q : Option Value → Shared → Prop} (N1 : Nx prog w i1 l1 xs I1 L1) (N2 : Nx prog w i2 l2 ys I2 L2) (D : ZipApart z TI TO i1 i2 l1 l2) (hz : IsZip s.heap z TI TO .none) (hTI : IsPair s.heap TI (.ref i1) (.ref i2)) (hTO : IsPair s.heap TO a b)
    (h1 : I1 s.heap k1) (h2 : I2 s.heap k2) (c1 : L1 s.heap) (c2 : L2 s.heap) (hx : xs[k1]? = some x) (hy : ys[k2]? = some y)
    (hQ : ∀ h', IsZip h' z TI TO (rawInt s.heap.objs.size) → IsPair h' TO x y → I1 h' (k1 + 1) → I2 h' (k2 + 1) → IsPair h' s.heap.objs.size x y → (∀ c o, c ≠ z → c ≠ TO → c ≠ i1 → c ≠ i2 → s.heap.get? c = some o → h'.get? c = some o) → Q (some (.ref s.heap.objs.size)) { s with heap := h' }) :
    wpAny (model prog w) A (pyNext (.ref z)) Q E s := by
  have hT : s.TypeIs (.ref z) "zip" := ⟨_, hz, rfl⟩
  unfold pyNext
  refine wpAny_bind (wpAny_attempt (wpAny_callSpecial?_slot (name := Str.ofString "__next__") hT F.slot_zip_next (wpAny_call_entry F.slot_zip_next hT F.entry_zip_next ?_ (F.args_zip_next_1 _))))
  refine (show wpAny _ _ (field (.ref z) 2 >>= _) _ _ _ from wpAny_bind (wpAny_field hz rfl (x := .bool false) rfl ?_))
  refine (show wpAny _ _ (field (.ref z) 3 >>= _) _ _ _ from wpAny_bind (wpAny_field hz rfl (x := .ref TI) rfl ?_))
  refine wpAny_bind (wpAny_seqItems hTI rfl ?_)
  refine (show wpAny _ _ (Builtin.SmallTypes.ownedTupleIsFree (.ref z) >>= _) _ _ _ from wpAny_bind ?_)
  unfold Builtin.SmallTypes.ownedTupleIsFree
  refine wpAny_bind (wpAny_field hz rfl (x := .none) rfl (wpAny_pure ?_))
  simp only [if_true]
  refine wpAny_bind (wpAny_rule ?_)
  refine wpAny_bind (wpAny_field hz rfl (x := .ref TO) rfl ?_)
  refine wpAny_bind (wpAny_setField_rec hz (by simp) fun g1 z1 m1 => ?_)
  refine wpAny_bind ?_
  simp only [List.zipIdx_cons, List.zipIdx_nil, List.forIn_cons, List.forIn_nil]
  refine wpAny_bind (wpAny_bind (wpAny_onRaise ?_))
  refine (show wpAny _ _ (Builtin.SmallTypes.nextOf (.ref i1) >>= _) _ _ _ from wpAny_bind (N1.item (N1.mv h1 m1.extBut D.i1z) (N1.ml c1 m1.extBut D.l1z) hx fun g2 n2 m2 => wpAny_pure ?_))
  have t2 : IsPair g2 TO a b := m2.extBut _ _ D.TOi1 (m1.extBut _ _ D.TOz hTO)
  refine wpAny_bind (wpAny_seqItems t2 rfl ?_)
  refine wpAny_bind (wpAny_updateSeq_pair t2 fun g3 t3 m3 => ?_)
  refine wpAny_bind (wpAny_letGo (wpAny_pure ?_))
  replace t3 : IsPair g3 TO x b := t3
  refine wpAny_bind (wpAny_bind (wpAny_onRaise ?_))
  refine (show wpAny _ _ (Builtin.SmallTypes.nextOf (.ref i2) >>= _) _ _ _ from wpAny_bind (N2.item (N2.mv (N2.mv (N2.mv h2 m1.extBut D.i2z) m2.extBut D.i12.symm) m3.extBut D.TOi2.symm) (N2.ml (N2.ml (N2.ml c2 m1.extBut D.l2z) m2.extBut D.l2i1) m3.extBut D.l2TO) hy fun g4 n4 m4 => wpAny_pure ?_))
  have t4 : IsPair g4 TO x b := m4.extBut _ _ D.TOi2 t3
  refine wpAny_bind (wpAny_seqItems t4 rfl ?_)
  refine wpAny_bind (wpAny_updateSeq_pair t4 fun g5 t5 m5 => ?_)
  refine wpAny_bind (wpAny_letGo (wpAny_pure (wpAny_pure ?_)))
  replace t5 : IsPair g5 TO x y := t5
  refine wpAny_bind (wpAny_seqItems t5 rfl ?_)
  refine wpAny_bind (wpAny_newTuple ?_)
  have sz : g5.objs.size = s.heap.objs.size := by rw [m5.1, m4.1, m3.1, m2.1, m1.1]
  have z5 : IsZip g5 z TI TO .ellipsis := m5.extBut _ _ D.TOz.symm (m4.extBut _ _ D.i2z.symm (m3.extBut _ _ D.TOz.symm (m2.extBut _ _ D.i1z.symm z1)))
  have keep5 : ∀ c o, c ≠ z → c ≠ TO → c ≠ i1 → c ≠ i2 → s.heap.get? c = some o → g5.get? c = some o := fun c o q1 q2 q3 q4 e => m5.extBut _ _ q2 (m4.extBut _ _ q4 (m3.extBut _ _ q2 (m2.extBut _ _ q3 (m1.extBut _ _ q1 e))))
  have n15 : I1 g5 (k1 + 1) := N1.mv (N1.mv (N1.mv n2 m3.extBut D.TOi1.symm) m4.extBut D.i12) m5.extBut D.TOi1.symm
  have n25 : I2 g5 (k2 + 1) := N2.mv n4 m5.extBut D.TOi2.symm
  have zl : z < g5.objs.size := Heap.lt_size z5
  refine (show wpAny _ _ (Builtin.SmallTypes.ownedTupleHandOut (.ref z) (.ref g5.objs.size) >>= _) _ _ _ from wpAny_bind ?_)
  unfold Builtin.SmallTypes.ownedTupleHandOut
  have z6 : IsZip (g5.push { cls := .type "tuple", data := .seq #[x, y] }) z TI TO .ellipsis := Heap.get?_push_of_some _ z5
  refine wpAny_bind (wpAny_setField_rec z6 (by simp) fun g7 z7 m7 => ?_)
  refine wpAny_setField_rec z7 (by simp) fun g8 z8 m8 => ?_
  have up : ∀ c o, c ≠ z → g5.get? c = some o → g8.get? c = some o := fun c o q e => m8.extBut _ _ q (m7.extBut _ _ q (Heap.get?_push_of_some _ e))
  have pr : IsPair g8 g5.objs.size x y := m8.extBut _ _ (Nat.ne_of_gt zl) (m7.extBut _ _ (Nat.ne_of_gt zl) (Heap.get?_push_size _ rfl))
  have z8' : IsZip g8 z TI TO (rawInt g5.objs.size) := z8
  rw [sz] at z8' pr
  refine wpAny_pure ⟨_, rfl, wpAny_pure ?_⟩
  show Q (some (.ref g5.objs.size)) _
  rw [sz]
  exact hQ g8 z8' (up _ _ D.TOz t5) (N1.up n15 fun o e => up _ o D.i1z e) (N2.up n25 fun o e => up _ o D.i2z e) pr fun c o q1 q2 q3 q4 e => up c o q1 (keep5 c o q1 q2 q3 q4 e)
theorem zipN_end {Q : Option Value → Shared → Prop} (hh : A.handled = none) (N1 : Nx prog w i1 l1 xs I1 L1) (N2 : Nx prog w i2 l2 ys I2 L2) (D : ZipApart z TI TO i1 i2 l1 l2) (hz : IsZip s.heap z TI TO .none) (hTI : IsPair s.heap TI (.ref i1) (.ref i2)) (hTO : IsPair s.heap TO a b)
    (h1 : I1 s.heap k1) (h2 : I2 s.heap k2) (c1 : L1 s.heap) (c2 : L2 s.heap) (hend : xs[k1]? = none ∨ ys[k2]? = none)
    (hQ : ∀ h', (∀ c o, c ≠ z → c ≠ TO → c ≠ i1 → c ≠ i2 → s.heap.get? c = some o → h'.get? c = some o) → Q none { s with heap := h' }) :
    wpAny (model prog w) A (pyNext (.ref z)) Q E s := by
  have hT : s.TypeIs (.ref z) "zip" := ⟨_, hz, rfl⟩
  have out : ∀ (h' : Heap) (e : Addr), (∀ c o, c ≠ z → c ≠ TO → c ≠ i1 → c ≠ i2 → s.heap.get? c = some o → h'.get? c = some o) → (∃ o, h'.get? e = some o ∧ o.cls = .type "StopIteration") →
      wpAny (model prog w) A (do if ← isInstance (.ref e) (.type "StopIteration") then pure none else throw (.ref e)) Q E { s with heap := h' } := fun h' e hk ⟨o, ho, hc⟩ => by
    refine wpAny_bind (wpAny_isInstance (T := "StopIteration") (b := true) ⟨o, ho, hc⟩ isSubtype_stop ?_)
    exact wpAny_pure (hQ _ hk)
  unfold pyNext
  refine wpAny_bind (wpAny_attempt (wpAny_callSpecial?_slot (name := Str.ofString "__next__") hT F.slot_zip_next (wpAny_call_entry F.slot_zip_next hT F.entry_zip_next ?_ (F.args_zip_next_1 _))))
  refine (show wpAny _ _ (field (.ref z) 2 >>= _) _ _ _ from wpAny_bind (wpAny_field hz rfl (x := .bool false) rfl ?_))
  refine (show wpAny _ _ (field (.ref z) 3 >>= _) _ _ _ from wpAny_bind (wpAny_field hz rfl (x := .ref TI) rfl ?_))
  refine wpAny_bind (wpAny_seqItems hTI rfl ?_)
  refine (show wpAny _ _ (Builtin.SmallTypes.ownedTupleIsFree (.ref z) >>= _) _ _ _ from wpAny_bind ?_)
  unfold Builtin.SmallTypes.ownedTupleIsFree
  refine wpAny_bind (wpAny_field hz rfl (x := .none) rfl (wpAny_pure ?_))
  simp only [if_true]
  refine wpAny_bind (wpAny_rule ?_)
  refine wpAny_bind (wpAny_field hz rfl (x := .ref TO) rfl ?_)
  refine wpAny_bind (wpAny_setField_rec hz (by simp) fun g1 z1 m1 => ?_)
  replace z1 : IsZip g1 z TI TO .ellipsis := z1
  refine wpAny_bind ?_
  simp only [List.zipIdx_cons, List.zipIdx_nil, List.forIn_cons, List.forIn_nil]
  refine wpAny_bind (wpAny_bind (wpAny_onRaise ?_))
  cases hx : xs[k1]? with
  | none =>
    refine (show wpAny _ _ (Builtin.SmallTypes.nextOf (.ref i1) >>= _) _ _ _ from wpAny_bind (N1.stop hh (N1.mv h1 m1.extBut D.i1z) (N1.ml c1 m1.extBut D.l1z) hx fun g2 e m2 he => ?_))
    obtain ⟨oe, hoe, hce⟩ := he
    have z2 : IsZip g2 z TI TO .ellipsis := m2 _ _ D.i1z.symm z1
    have ne : e ≠ z := fun q => by subst q; rw [z2] at hoe; cases hoe; simp at hce
    refine wpAny_setField_rec z2 (by simp) fun g3 _ m3 => out g3 e (fun c o q1 _ q3 _ q => m3.extBut _ _ q1 (m2 _ _ q3 (m1.extBut _ _ q1 q))) ⟨oe, m3.extBut _ _ ne hoe, hce⟩
  | some x =>
    have hy : ys[k2]? = none := hend.elim (fun h => by rw [hx] at h; cases h) id
    refine (show wpAny _ _ (Builtin.SmallTypes.nextOf (.ref i1) >>= _) _ _ _ from wpAny_bind (N1.item (N1.mv h1 m1.extBut D.i1z) (N1.ml c1 m1.extBut D.l1z) hx fun g2 n2 m2 => wpAny_pure ?_))
    have t2 : IsPair g2 TO a b := m2.extBut _ _ D.TOi1 (m1.extBut _ _ D.TOz hTO)
    refine wpAny_bind (wpAny_seqItems t2 rfl ?_)
    refine wpAny_bind (wpAny_updateSeq_pair t2 fun g3 t3 m3 => ?_)
    refine wpAny_bind (wpAny_letGo (wpAny_pure ?_))
    refine wpAny_bind (wpAny_bind (wpAny_onRaise ?_))
    refine (show wpAny _ _ (Builtin.SmallTypes.nextOf (.ref i2) >>= _) _ _ _ from wpAny_bind (N2.stop hh (N2.mv (N2.mv (N2.mv h2 m1.extBut D.i2z) m2.extBut D.i12.symm) m3.extBut D.TOi2.symm) (N2.ml (N2.ml (N2.ml c2 m1.extBut D.l2z) m2.extBut D.l2i1) m3.extBut D.l2TO) hy fun g4 e m4 he => ?_))
    obtain ⟨oe, hoe, hce⟩ := he
    have z4 : IsZip g4 z TI TO .ellipsis := m4 _ _ D.i2z.symm (m3.extBut _ _ D.TOz.symm (m2.extBut _ _ D.i1z.symm z1))
    have ne : e ≠ z := fun q => by subst q; rw [z4] at hoe; cases hoe; simp at hce
    refine wpAny_setField_rec z4 (by simp) fun g5 _ m5 => out g5 e (fun c o q1 q2 q3 q4 q => m5.extBut _ _ q1 (m4 _ _ q4 (m3.extBut _ _ q2 (m2.extBut _ _ q3 (m1.extBut _ _ q1 q))))) ⟨oe, m5.extBut _ _ ne hoe, hce⟩
end
/-! the zip object of a list and a tuple -/
abbrev zm1 (h : Heap) (l1 : Addr) : Heap := h.push { cls := .type "list_iterator", data := .fields #[.ref l1, .int 0 0] }
abbrev zm2 (h : Heap) (l1 l2 : Addr) : Heap := (zm1 h l1).push { cls := .type "tuple_iterator", data := .fields #[.ref l2, .int 0 0] }
abbrev zm3 (h : Heap) (l1 l2 : Addr) : Heap := (zm2 h l1 l2).push { cls := .type "tuple", data := .seq #[.ref h.objs.size, .ref (zm1 h l1).objs.size] }
abbrev zm4 (h : Heap) (l1 l2 : Addr) : Heap := (zm3 h l1 l2).push { cls := .type "tuple", data := .seq #[.none, .none] }
abbrev zm5 (h : Heap) (l1 l2 : Addr) : Heap := (zm4 h l1 l2).push { cls := .type "zip", data := .fields #[.none, .bool false, .bool false, .ref (zm2 h l1 l2).objs.size, .ref (zm3 h l1 l2).objs.size] }
theorem meets_zm (l1 l2 : Addr) (xs ys : Array Value) :
    Meets (Builtin.«zip.__new__» ⟨[.type "zip", .ref l1, .ref l2], []⟩) (fun _ R s => s.heap.IsList l1 xs ∧ s.heap.IsTuple l2 ys ∧ R (.ok (.ret (.ref (zm4 s.heap l1 l2).objs.size))) { s with heap := zm5 s.heap l1 l2 }) :=
  .of_wp fun prog w A R s h => by
    obtain ⟨hp, g, d, tk, os⟩ := s; obtain ⟨hl1, hl2, h⟩ := h
    have hsub := sub_zip
    have q1 : Heap.IsList (Shared.heap ⟨hp, g, d, tk, os⟩) l1 xs := hl1
    have q2 : Heap.IsTuple (Shared.heap ⟨hp.push { cls := .type "list_iterator", data := .fields #[.ref l1, .int 0 0] }, g, d, tk, os⟩) l2 ys := Heap.IsTuple.push hl2 _
    wp_walk using wpAny_pyIter_list q1, wpAny_pyIter_tuple q2
    exact ⟨_, rfl, h⟩
theorem call_zm {prog : Program} {w : World} {A : Around} {E : Value → Shared → Prop} {s : Shared} {l1 l2 : Addr} {xs ys : Array Value} {Q : Value → Shared → Prop} (hl1 : s.heap.IsList l1 xs) (hl2 : s.heap.IsTuple l2 ys)
    (h : ∀ h', IsZip h' (s.heap.objs.size + 4) (s.heap.objs.size + 2) (s.heap.objs.size + 3) .none → IsPair h' (s.heap.objs.size + 2) (.ref s.heap.objs.size) (.ref (s.heap.objs.size + 1)) → IsPair h' (s.heap.objs.size + 3) .none .none →
      h'.IsListIter s.heap.objs.size l1 0 → h'.IsTupleIter (s.heap.objs.size + 1) l2 0 → (∀ c o, s.heap.get? c = some o → h'.get? c = some o) → Q (.ref (s.heap.objs.size + 4)) { s with heap := h' }) :
    wpAny (model prog w) A (call (.type "zip") [.ref l1, .ref l2]) Q E s := by
  refine callType_new F.called_zip (by decide) (F.typeCall_zip_2 _ _) (F.newCall_zip_2 _ _) (fun obj => F.args_object_init_3 obj _ _) F.entry_zip_new (meets_zm l1 l2 xs ys) ⟨hl1, hl2, ?_⟩
  have z1 : (zm1 s.heap l1).objs.size = s.heap.objs.size + 1 := Heap.size_push ..
  have z2 : (zm2 s.heap l1 l2).objs.size = s.heap.objs.size + 2 := by rw [Heap.size_push, z1]
  have z3 : (zm3 s.heap l1 l2).objs.size = s.heap.objs.size + 3 := by rw [Heap.size_push, z2]
  have z4 : (zm4 s.heap l1 l2).objs.size = s.heap.objs.size + 4 := by rw [Heap.size_push, z3]
  have g5 : (zm5 s.heap l1 l2).get? (zm4 s.heap l1 l2).objs.size = some _ := Heap.get?_push_size _ rfl
  have g4 : (zm5 s.heap l1 l2).get? (zm3 s.heap l1 l2).objs.size = some _ := Heap.get?_push_of_some _ (Heap.get?_push_size _ rfl)
  have g3 : (zm5 s.heap l1 l2).get? (zm2 s.heap l1 l2).objs.size = some _ := Heap.get?_push_of_some _ (Heap.get?_push_of_some _ (Heap.get?_push_size _ rfl))
  have g2 : (zm5 s.heap l1 l2).get? (zm1 s.heap l1).objs.size = some _ := Heap.get?_push_of_some _ (Heap.get?_push_of_some _ (Heap.get?_push_of_some _ (Heap.get?_push_size _ rfl)))
  have g1 : (zm5 s.heap l1 l2).get? s.heap.objs.size = some _ := Heap.get?_push_of_some _ (Heap.get?_push_of_some _ (Heap.get?_push_of_some _ (Heap.get?_push_of_some _ (Heap.get?_push_size _ rfl))))
  show _ ∧ _
  rw [z2, z3, z4] at g5
  rw [z1, z2] at g3
  rw [z3] at g4
  rw [z1] at g2
  rw [z4]
  exact ⟨⟨_, g5, rfl⟩, h _ g5 g3 g4 ⟨_, g1, rfl, rfl⟩ ⟨_, g2, rfl, rfl⟩ fun c o x =>
    Heap.get?_push_of_some _ (Heap.get?_push_of_some _ (Heap.get?_push_of_some _ (Heap.get?_push_of_some _ (Heap.get?_push_of_some _ x))))⟩
/-- the list at a, the tuple at b, item by item -/
def ItzM (K : PySem.W.Frag) (a b : Addr) : It :=
  ⟨fun i H => ∃ (xs ys : List V) (x y : V), SqL K H a xs ∧ SqT K H b ys ∧ xs[i]? = some x ∧ ys[i]? = some y,
    fun i H v H' => ∃ T x y, v = .ref T ∧ H T = none ∧ H' = upd H T (.tup [x, y]) ∧ (∀ xs, SqL K H a xs → xs[i]? = some x) ∧ ∀ ys, SqT K H b ys → ys[i]? = some y,
    fun i H => ∃ xs ys : List V, SqL K H a xs ∧ SqT K H b ys ∧ (xs.length ≤ i ∨ ys.length ≤ i)⟩
theorem turn_zm {P : Program} {w : World} {K : PySem.W.Frag} {elts : List Expr} {kk : Nat} {tpos : Pos} {a b z TI TO i1 i2 : Addr} (D : ZipApart z TI TO i1 i2 a b) :
    Turn P w K (.Tuple elts kk tpos) (ItzM K a b) [z, TI, TO, i1, i2] z (fun i h => IsZip h z TI TO .none ∧ IsPair h TI (.ref i1) (.ref i2) ∧ (∃ x y, IsPair h TO x y) ∧ h.IsListIter i1 a i ∧ h.IsTupleIter i2 b i) where
  mem := by simp
  obj := fun i h st c hc => by
    obtain ⟨hz, hTI, ⟨x, y, hTO⟩, ⟨o1, e1, _, d1⟩, ⟨o2, e2, _, d2⟩⟩ := st
    have e' : c = z ∨ c = TI ∨ c = TO ∨ c = i1 ∨ c = i2 := by simpa using hc
    rcases e' with q | q | q | q | q
    · rw [q]; exact ⟨_, hz, fun v q => nomatch q⟩
    · rw [q]; exact ⟨_, hTI, fun v q => nomatch q⟩
    · rw [q]; exact ⟨_, hTO, fun v q => nomatch q⟩
    · rw [q]; exact ⟨o1, e1, fun v q => by rw [d1] at q; cases q⟩
    · rw [q]; exact ⟨o2, e2, fun v q => by rw [d2] at q; cases q⟩
  keep := fun i h h' st k => by
    obtain ⟨hz, hTI, ⟨x, y, hTO⟩, h1, h2⟩ := st
    exact ⟨k z (by simp) _ hz, k TI (by simp) _ hTI, ⟨x, y, k TO (by simp) _ hTO⟩, h1.at fun o q => k i1 (by simp) o q, h2.at fun o q => k i2 (by simp) o q⟩
  item := by
    intro X hP hw hK hc i pins s σ H E I hf st hg
    subst hP hw hK
    obtain ⟨hz, hTI, ⟨x0, y0, hTO⟩, h1, h2⟩ := st
    obtain ⟨xs, ys, x, y, hqx, hqy, hx, hy⟩ := hg
    obtain ⟨its, rv, p, _⟩ := I.list hqx
    obtain ⟨its2, rv2, p2, _⟩ := I.tuple hqy
    obtain ⟨u, hu, ru⟩ := rv.get hx
    obtain ⟨u2, hu2, ru2⟩ := rv2.get hy
    have hzl : z < s.heap.objs.size := Heap.lt_size hz
    refine zipN_item nx_list nx_tuple D hz hTI hTO h1 h2 p.isList (show s.heap.IsTuple b its2.toArray from p2) (x := u) (y := u2) (by simpa using hu) (by simpa using hu2) fun h' z' TO' h1' h2' hT hk => ?_
    refine ⟨_, rfl, wpAny_letOwnedTupleGo_zip (s := { s with heap := h' }) z' fun h'' z'' sb => ?_⟩
    have hT2 : h''.get? s.heap.objs.size = some { cls := .type "tuple", data := .seq #[u, u2] } := (sb.2 _ (Nat.ne_of_gt hzl)).trans hT
    have new : ObjOk X.prog X.w (upd H s.heap.objs.size (.tup [x, y])) h'' s.heap.objs.size (.tup [x, y]) :=
      ⟨by show 2 ≤ sizeLine; decide, [u, u2], .cons ru (.cons ru2 .nil), ⟨_, hT2, rfl, _, rfl⟩⟩
    have I1 : L2.Inv X pins σ (upd H s.heap.objs.size (.tup [x, y])) { s with heap := h'' } :=
      I.turnedNew (t' := s.toks) (ch := [z, TI, TO, i1, i2]) (fun c o hb q => (sb.2 c (fun q' => hb (by simp [q']))).trans (hk c o (fun q' => hb (by simp [q'])) (fun q' => hb (by simp [q'])) (fun q' => hb (by simp [q'])) (fun q' => hb (by simp [q'])) q)) hf (Nat.le_refl _) new
    refine ⟨.ref s.heap.objs.size, _, I1, rfl, ⟨_, x, y, rfl, I.hok.fresh (Nat.le_refl _), rfl, fun l hl => by rw [I.list_inj hl hqx]; exact hx, fun l hl => by rw [I.tuple_inj hl hqy]; exact hy⟩, ⟨z'', ?_, ⟨u, u2, ?_⟩, ?_, ?_⟩, fun c hcm => ?_⟩
    · exact (sb.2 _ D.TIz).trans (hk _ _ D.TIz D.TITO D.TIi1 D.TIi2 hTI)
    · exact (sb.2 _ D.TOz).trans TO'
    · exact Heap.IsListIter.at h1' fun o q => (sb.2 _ D.i1z).trans q
    · exact Heap.IsTupleIter.at h2' fun o q => (sb.2 _ D.i2z).trans q
    · have hlt : c < s.heap.objs.size := by
        have e' : c = z ∨ c = TI ∨ c = TO ∨ c = i1 ∨ c = i2 := by simpa using hcm
        rcases e' with q | q | q | q | q
        · rw [q]; exact hzl
        · rw [q]; exact Heap.lt_size hTI
        · rw [q]; exact Heap.lt_size hTO
        · rw [q]; obtain ⟨_, e1, _⟩ := h1; exact Heap.lt_size e1
        · rw [q]; obtain ⟨_, e2, _⟩ := h2; exact Heap.lt_size e2
      rw [upd_ne (Nat.ne_of_lt hlt)]
      exact (hf c hcm).1
  done := by
    intro X hP hw hK hc i pins s σ H E I hf st hg
    subst hP hw hK
    obtain ⟨hz, hTI, ⟨x0, y0, hTO⟩, h1, h2⟩ := st
    obtain ⟨xs, ys, hqx, hqy, hend⟩ := hg
    obtain ⟨its, rv, p, _⟩ := I.list hqx
    obtain ⟨its2, rv2, p2, _⟩ := I.tuple hqy
    have l1 := rv.length
    have l2 := rv2.length
    have he : its.toArray[i]? = none ∨ its2.toArray[i]? = none := by
      rcases hend with q | q
      · exact .inl (by simp; omega)
      · exact .inr (by simp; omega)
    exact zipN_end (I.ok.hd hc) nx_list nx_tuple D hz hTI hTO h1 h2 p.isList (show s.heap.IsTuple b its2.toArray from p2) he fun h' hk => ⟨rfl, I.turnedL (t' := s.toks) (ch := [z, TI, TO, i1, i2]) (fun c o hb q =>
      hk c o (fun q' => hb (by simp [q'])) (fun q' => hb (by simp [q'])) (fun q' => hb (by simp [q'])) (fun q' => hb (by simp [q'])) q) hf⟩
  self := fun A i s Q E st h => wpAny_pyIter_zip st.1 h
def iZipM (K : PySem.W.Frag) (ta : TA) : TI := fun σ H R => ta σ H fun vs H1 => ∃ a b xs ys, vs = [.ref a, .ref b] ∧ SqL K H1 a xs ∧ SqT K H1 b ys ∧ R (ItzM K a b) H1
theorem pi_zipM {X : Cx} {e e2 : Expr} {ta : TA} {p pos tpos : Pos} {elts : List Expr} {kk : Nat} (hg : Gl X "zip") (hm : X.mg "zip" = none) (ha : PA X [e, e2] ta)
    (hs : starEach [e, e2] X.env = (false, eval e X.env) :: starEach [e2] X.env := by rfl) (hpl : (backTo pos (starEach [e2] X.env)).any (·.1) = false := by rfl) :
    PI X (.Tuple elts kk tpos) (.Call (.Name "zip" p) [e, e2] [] pos) (iZipM X.K ta) := by
  refine ⟨fun pins s σ H R I h => ?_⟩
  refine Call_ (ld_blt I hg hm PyProof.Rows.boot_zip (PyProof.Rows.callWith_type1 (thn (ha.run pos pins s σ H _ I h) fun us s1 ⟨vs, H1, I1, r1, q1⟩ => ?_) hs hpl))
  obtain ⟨a, b, xs, ys, ex, hqx, hqy, q⟩ := q1
  subst ex
  cases r1 with
  | cons r rr =>
    cases rr with
    | cons r' rr =>
      cases rr
      cases r
      cases r'
      have fresh5 : ∀ c, c ∈ [s1.heap.objs.size + 4, s1.heap.objs.size + 2, s1.heap.objs.size + 3, s1.heap.objs.size, s1.heap.objs.size + 1] → FpOk X pins H1 c := fun c hcm => by
        have hle : s1.heap.objs.size ≤ c := by
          simp only [List.mem_cons, List.not_mem_nil, or_false] at hcm
          rcases hcm with q | q | q | q | q <;> rw [q] <;> first | exact Nat.le_refl _ | exact Nat.le_add_right _ _
        exact I1.fpOk hle (I1.hok.fresh hle)
      obtain ⟨its, rv, p1, _⟩ := I1.list hqx
      obtain ⟨its2, rv2, p2, _⟩ := I1.tuple hqy
      obtain ⟨o2, ho2, _⟩ := id p2
      refine call_zm p1.isList (show s1.heap.IsTuple b its2.toArray from p2) fun h' hz hTI hTO h1 h2 hk => wpAny_pyIter_zip hz ?_
      have I2 : L2.Inv X pins σ H1 { s1 with heap := h' } := I1.kept (t' := s1.toks) hk
      exact ⟨s1.heap.objs.size + 4, [s1.heap.objs.size + 4, s1.heap.objs.size + 2, s1.heap.objs.size + 3, s1.heap.objs.size, s1.heap.objs.size + 1], _, _, H1, rfl, I2, turn_zm (PySem.W.ktu_apart s1.heap.objs.size a b p1.lt (Heap.lt_size ho2)), ⟨hz, hTI, ⟨_, _, hTO⟩, h1, h2⟩, fresh5, q⟩
/-- the items of a list and of a tuple together -/
def zipOfM (x y : Pv.D) (st : Sto) : R Src :=
  match sideOf x st, sideOf y st with
  | some (false, s), some (true, t) => .ok ⟨List.zipWith pairD s.items t.items, fun st => s.keep st ∧ t.keep st⟩ st
  | _, _ => .bad
def mZipM (a b : M) : MI := fun sl st => (a sl st).bind fun x st => (b sl st).bind fun y st => zipOfM x y st
theorem src_zipM {xs ys : List D} {st : Sto} : zipOfM (.list xs) (.tuple ys) st = .ok ⟨List.zipWith pairD xs ys, fun st => always st ∧ always st⟩ st := rfl
section
variable {K : PySem.W.Frag} {W : Wd}
theorem walk_zipM {a b : Addr} {ds es : List Pv.D} {k1 k2 : Sto → Prop} [DecidablePred k1] [DecidablePred k2] (h1 : WalkK K (Itl K a) W ⟨ds, k1⟩) (h2 : WalkK K (Itt K b) W ⟨es, k2⟩) : WalkK K (ItzM K a b) W ⟨List.zipWith pairD ds es, fun st => k1 st ∧ k2 st⟩ := by
  refine walk_pair h1 h2 (fun H _ ⟨xs, p1, p2⟩ ⟨ys, q1, q2⟩ => ⟨xs, ys, p1, q1, ?_⟩) (fun H i ⟨xs, x, p1, p2⟩ ⟨ys, y, q1, q2⟩ => ⟨xs, ys, x, y, p1, q1, p2, q2⟩) (fun H i v H' ⟨T, x, y, e1, e2, e3, e4, e5⟩ => ⟨T, x, y, e1, e2, e3, ⟨rfl, e4⟩, ⟨rfl, e5⟩⟩)
  by_cases h : ds.length ≤ es.length
  · left; rw [Nat.min_eq_left h]; exact p2
  · right; rw [Nat.min_eq_right (by omega)]; exact q2
end
section
variable {X : Cx} {Wx : WX} {ea eb e : Expr} {ma mb mc : M} {pos p tpos : Pos} {elts : List Expr} {kk : Nat}
theorem gi_zipM (hm : X.mg "zip" = none) (ha : GE X Wx ea ma) (hb : GE X Wx eb mb) (hg : Gl X "zip" := by rfl)
    (hs2 : starEach [eb] X.env = (false, eval eb X.env) :: starEach [] X.env := by rfl) (hs : starEach [ea, eb] X.env = (false, eval ea X.env) :: starEach [eb] X.env := by rfl) (hpl : (backTo pos (starEach [eb] X.env)).any (·.1) = false := by rfl) :
    GI X Wx (.Tuple elts kk tpos) (.Call (.Name "zip" p) [ea, eb] [] pos) (mZipM ma mb) := by
  refine PI.imp (pi_zipM hg hm (pa_cons ha (pa_cons hb pa_nil hs2) hs) hs hpl) fun sh H R ⟨W, sl, st, hr, hs, q⟩ => ?_
  refine rd_bindI hr hs q fun d1 st1 W1 v1 H1 e1 x1 h1 s1 r1 p1 => ?_
  refine rd_bindI h1 s1 p1 fun d2 st2 W2 v2 H2 e2 x2 h2 s2 r2 p2 => ?_
  unfold zipOfM at p2
  split at p2
  · rename_i s t q1 q2
    obtain ⟨a, xs, g1, g2, g3⟩ := side_rep h2 (x2.rep r1) q1
    obtain ⟨a', xs', g4, g5, g6⟩ := side_rep h2 r2 q2
    subst g1; subst g4
    rcases g3 with ⟨k1, k2, k3⟩ | ⟨k1, k2, k3⟩
    · rcases g6 with ⟨j1, j2, j3⟩ | ⟨j1, j2, j3⟩
      · cases j1
      · exact ⟨a, a', xs, xs', rfl, k2, j2, p2 W2 H2 _ .refl h2 (walk_zipM k3 j3)⟩
    · cases k1
  · exact p2.elim
end
end Pv
set_option Elab.async false
set_option linter.all false
set_option maxRecDepth 100000
set_option maxHeartbeats 1000000
set_option pp.maxSteps 400
namespace Pv
open PySem PySem.Spec L2
open PyProof.Rows hiding St signs cutD pairD
/-! ### while, with so many turns at most -/
def whileL (t : MT) (body : MS) (fg : List Nat) : Nat → Sl → Sto → RS
  | 0, _, _ => .bad
  | n + 1, sl, st => (t sl st).thenS fun b st1 => if b = true then (match body sl st1 with
    | .nx sl2 st2 => whileL t body fg n (wipeD sl2 fg) st2
    | .ct sl2 st2 => whileL t body fg n (wipeD sl2 fg) st2
    | .bk sl2 st2 => .nx (wipeD sl2 fg) st2
    | r => r) else .nx sl st1
def sWhile (fg : List Nat) (n : Nat) (t : MT) (body : MS) : MS := fun sl st => whileL t body fg n (wipeD sl fg) st
@[simp] theorem e_while {fg : List Nat} {n : Nat} {t : MT} {body : MS} {sl : Sl} {st : Sto} : sWhile fg n t body sl st = whileL t body fg n (wipeD sl fg) st := rfl
section
variable {X : Cx} {Wx : WX}
theorem gs_while {c : Expr} {body : List Stmt} {mt : MT} {mb : MS} {pos : Pos} (fg : List Nat) (n : Nat) (hp : PassesOwn (model X.prog X.w) X.A X.env X.xe) (hc : GT X Wx c mt) (hb : GSs X Wx body mb) : GS X Wx (.While c body [] pos) (sWhile fg n mt mb) := by
  refine PS.imp (ps_while hp hc hb) fun D sh H ⟨W, sl, st, hr, hs, p⟩ => ?_
  refine ⟨fun m σ H' => σ.length = sh.length ∧ ∃ W' sl' st', HR (nv X).K W' H' st' ∧ SR (nv X).K W' σ sl' ∧ PostS (nv X) sh.length Wx W' H' D (whileL mt mb fg m sl' st'), ⟨n, rfl, W, _, st, hr, hs.wipe, p⟩, ?_⟩
  rintro m σ H1 ⟨hl, W1, sl1, st1, h1, s1, p1⟩
  cases m with
  | zero => exact p1.elim
  | succ m =>
    rw [← hl] at p1
    refine rdT_bindS h1 s1 p1 fun b st2 W2 H2 e2 x2 h2 s2 p2 => ?_
    cases b with
    | false =>
      rw [if_neg Bool.false_ne_true]
      rw [if_neg Bool.false_ne_true] at p2
      exact p2 W2 σ H2 rfl .refl h2 s2
    | true =>
      rw [if_pos rfl]
      rw [if_pos rfl] at p2
      refine ⟨fun σ' H' => σ'.length = sh.length ∧ ∃ W' sl' st', HR (nv X).K W' H' st' ∧ SR (nv X).K W' σ' sl' ∧ PostS (nv X) sh.length Wx W' H' D (whileL mt mb fg m sl' st'), fun σ' H' h => ⟨m, Nat.lt_succ_self _, h⟩, W2, sl1, st2, h2, s2, ?_⟩
      cases q : mb sl1 st2 with
      | nx sl3 st3 =>
        rw [q] at p2
        intro W3 sh3 H3 l3 x3 h3 s3
        rw [hl] at l3 p2
        exact ⟨l3, W3, _, st3, h3, s3.wipe, PostS.ext x3 p2⟩
      | ct sl3 st3 =>
        rw [q] at p2
        intro W3 sh3 H3 l3 x3 h3 s3
        rw [hl] at l3 p2
        exact ⟨l3, W3, _, st3, h3, s3.wipe, PostS.ext x3 p2⟩
      | bk sl3 st3 =>
        rw [q] at p2
        intro W3 sh3 H3 l3 x3 h3 s3
        exact p2 W3 sh3 H3 l3 x3 h3 s3.wipe
      | rt d st3 => rw [q] at p2; exact p2
      | exc a b => rw [q] at p2; exact p2
      | bad => rw [q] at p2; exact p2
end
end Pv
set_option Elab.async false
set_option linter.all false
set_option maxRecDepth 100000
set_option maxHeartbeats 1000000
set_option pp.maxSteps 400
namespace Pv
open PySem PySem.Spec L2
open PyProof.Rows hiding St signs cutD pairD
/-! ### tuples whose object is known (Gc): made by a display, by +; their count -/
section
variable {X : Cx} {Wx : WX} {pins : List (Addr × Obj)} {σ : L2.St} {H : Hp} {s : Shared}
theorem SqZ.ob {a : Addr} {xs : List V} (I : L2.Inv X pins σ H s) (h : SqZ X.K H a xs) : ∃ (o : Obj) (its : List Value), s.heap.get? a = some o ∧ o.cls = .type "tuple" ∧ o.dict = none ∧ (∃ n, o.data = .seq its.toArray n) ∧ Vals xs its ∧ xs.length ≤ sizeLine := by
  rcases h with ⟨o, its, n, h1, h2, h3, h4, h5, h6⟩ | ⟨o, h1, h2⟩
  · exact ⟨o, its.toList, I.kIn a o h1, h2, h3, ⟨n, by simpa using h4⟩, h6, by rw [h6.length]; simpa using h5⟩
  · obtain ⟨e, z, its, r, o', e', c', n, d'⟩ := (show s.heap.get? a = some o ∧ ObjOk X.prog X.w H s.heap a (.tup xs) from I.hok a _ h1)
    rw [e] at e'; cases e'
    exact ⟨o, its, e, c', h2, ⟨n, d'⟩, r, z⟩
/-- (e, ..) laid down so -/
def mkTupZ (ds : List D) (st : Sto) : R D := if ds.length ≤ sizeLine then .ok (Gc ds) st else .bad
def mTupZ (ms : Ms) : M := fun sl st => (ms sl st).bind mkTupZ
@[simp] theorem e_tupZ {ms : Ms} {sl : Sl} {st : Sto} : mTupZ ms sl st = (ms sl st).bind mkTupZ := rfl
def tTupZ (t : TA) : TE := fun σ H Q => t σ H fun vs H1 => vs.length ≤ sizeLine ∧ ∀ p o, H1 p = none → o.dict = none → Q (.ref p) (upd H1 p (.frz o (.tup vs)))
theorem pe_tupZ {es : List Expr} {t : TA} {pos : Pos} {x1} (h : PA X es t) : PE X (.Tuple es x1 pos) (tTupZ t) := by
  refine ⟨fun pins s σ H Q I hq => ?_⟩
  refine wpAny_Tuple_spliced (thn (h.run pos pins s σ H _ I hq) fun us s1 ⟨xs, H1, I1, r, z, q⟩ => ⟨by rw [← r.length]; exact z, ?_⟩)
  have hf : H1 s1.heap.objs.size = none := I1.hok.fresh (Nat.le_refl _)
  let ob : Obj := { cls := .type "tuple", data := .seq us.toArray }
  refine ⟨.ref s1.heap.objs.size, upd H1 s1.heap.objs.size (.frz ob (.tup xs)), I1.laid (t' := s1.toks) (fun b u e => Heap.get?_push_of_some _ e) (Nat.le_refl _) ?_, rfl, q _ ob hf rfl⟩
  exact ⟨Heap.get?_push_size _ rfl, z, us, r, ⟨_, Heap.get?_push_size _ rfl, rfl, _, rfl⟩⟩
theorem ge_tupZ {es : List Expr} {ms : Ms} {c} {pos : Pos} (h : GA X Wx es ms) : GE X Wx (.Tuple es c pos) (mTupZ ms) := by
  refine (pe_tupZ h).imp fun sh H Q ⟨W, sl, st, hr, hs, p⟩ => ?_
  refine rdL_bind hr hs p fun ds st1 W1 vs H1 e1 x1 h1 s1 r1 p1 => ?_
  unfold mkTupZ at p1
  split at p1
  · rename_i hz
    refine ⟨by rw [repL_length r1]; exact hz, fun b o hb ho => ?_⟩
    obtain ⟨h2, x2⟩ := h1.new (o := .frz o (.tup vs)) hb
    exact p1 _ (.ref b) _ x2 h2 ⟨b, vs, rfl, .inr ⟨o, upd_same, ho⟩, x2.repL r1⟩
  · exact p1.elim
theorem addZ_at {a b : List D} {st : Sto} (h : a.length + b.length ≤ sizeLine) : fAdd (Gc a) (Gc b) st = .ok (Gc (a ++ b)) st := if_pos h
/-! t.count(x) -/
def tCntZ (K : PySem.W.Frag) (ta tb : TE) : TE := fun σ H Q => ta σ H fun x H1 => ∃ a, x = .ref a ∧ (∃ xs, SqZ K H1 a xs) ∧ tb σ H1 fun y H2 => ∃ xs ds d, SqT K H2 a xs ∧ DpAll K H2 xs ds ∧ Dp K H2 y d ∧ PyData.canLayAll0 ds = true ∧ d.canLay0 = true ∧ min (PyData.depthAll ds) d.depth ≤ 64 ∧ Q (.int ((ds.countP fun z => PyData.eqv z d : Nat) : Int)) H2
theorem pe_cntZ {ea eb : Expr} {ta tb : TE} {apos pos : Pos} (hg : Gd0 X) (ho : PE X ea ta) (he : PE X eb tb) (m : M1 X ea "count" apos eb pos) : PE X (.Call (.Attribute ea "count" apos) [eb] [] pos) (tCntZ X.K ta tb) := by
  refine ⟨fun pins s σ H Q I h => ?_⟩
  refine wpAny_Call_method m.base m.few m.line PySem.F.plainAttrs_tuple PySem.F.slot_tuple_count PySem.F.type_tuple_count (thn (ho.run pins s σ H _ I h) fun u s1 ⟨x, H1, I1, rx, a, ex, ⟨xs, d⟩, q1⟩ => ?_)
  subst ex
  obtain rfl : u = Value.ref a := rx
  obtain ⟨o, its, e1, e2, e3, _⟩ := SqZ.ob I1 d
  obtain ⟨t1, t2⟩ := seq_type (h := s1.heap) (s := s1) e1 e2 e3
  refine ⟨t1, t2, ?_⟩
  rw [m.trees]
  refine Calls.callWith_builtin rfl (Calls.evalArgs_plain (Calls.spliced_cons (thn (he.run pins s1 σ H1 _ I1 q1) fun iv s2 ⟨y, H2, I2, ry, xs2, ds, d2, g1, g2, g3, g4, g5, g6, g7⟩ => Calls.spliced_nil ?_)))
  obtain ⟨its2, rv2, pl2, _⟩ := I2.tuple g1
  obtain ⟨as, ra⟩ := Dp.readsAll I2 ds xs2 its2 g2 rv2
  obtain ⟨bs, rb⟩ := Dp.reads I2 d2 y iv g3 ry
  exact PySem.SeqAt.count_tuple_data (show s2.heap.IsTuple a its2.toArray from pl2) ra rb (PyData.plainAll_of_canLay0 _ g4) (PyData.plain_of_canLay0 _ g5) (by have := hg.un; omega) ⟨.int _, H2, I2.tok _, ⟨_, rfl⟩, g7⟩
def isGc : D → Option (List D)
  | .dict [(.none, .tuple ds)] => some ds
  | _ => none
def mCntZ (a b : M) : M := fun sl st => (a sl st).bind fun o st => match isGc o with
  | some ds => (b sl st).bind fun d st => lift (cntD ds (deref st d)) st
  | none => .bad
@[simp] theorem e_cntZ {a b : M} {sl : Sl} {st : Sto} : mCntZ a b sl st = (a sl st).bind fun o st => match isGc o with
  | some ds => (b sl st).bind fun d st => lift (cntD ds (deref st d)) st
  | none => .bad := rfl
@[simp] theorem isGc_at {ds : List D} : isGc (Gc ds) = some ds := rfl
theorem ge_countZ {ea eb : Expr} {ma mb : M} {apos pos : Pos} (g : Gd0 X) (ha : GE X Wx ea ma) (hb : GE X Wx eb mb) (m : M1 X ea "count" apos eb pos := by exact ⟨rfl, rfl, rfl, rfl⟩) : GE X Wx (.Call (.Attribute ea "count" apos) [eb] [] pos) (mCntZ ma mb) := by
  refine PE.imp (pe_cntZ g ha hb m) fun sh H Q ⟨W, sl, st, hr, hs, q⟩ => ?_
  refine rd_bind hr hs q fun d1 st1 W1 v1 H1 e1 x1 h1 s1 r1 p1 => ?_
  unfold isGc at p1
  split at p1
  · rename_i ds hds
    split at hds
    · cases hds
      obtain ⟨a, xs, q1, q2, l0⟩ := r1
      refine ⟨a, q1, ⟨xs, q2.mono h1.sub⟩, ?_⟩
      refine rd_bind h1 s1 p1 fun d2 st2 W2 v2 H2 e2 x2 h2 s2 r2 p2 => ?_
      unfold cntD lift at p2
      split at p2
      · rename_i dd hdd
        split at hdd
        · rename_i hc
          cases hdd
          exact ⟨xs, ds, deref st2 d2, (q2.mono x2.fr).T h2.sub, repL_dp h2.sub ds hc.1 (x2.repL l0), rep_dpR h2 r2 rfl hc.2.1, hc.1, hc.2.1, hc.2.2, p2.val h2 rfl⟩
        · cases hdd
      · exact p2.elim
    · cases hds
  · exact p1.elim
end
end Pv
set_option Elab.async false
set_option linter.all false
set_option maxRecDepth 100000
set_option maxHeartbeats 1000000
set_option pp.maxSteps 400
namespace Pv
open PySem PySem.Spec L2
open PyProof.Rows hiding St signs cutD pairD
/-! ### words that are never reached -/
def mBad : M := fun _ _ => .bad
def sBad : MS := fun _ _ => .bad
def iBad : MI := fun _ _ => .bad
section
variable {X : Cx} {Wx : WX}
theorem ge_bad {e : Expr} : GE X Wx e mBad := ⟨fun _ _ _ _ _ _ ⟨_, _, _, _, _, p⟩ => p.elim⟩
theorem gs_bad {s : Stmt} : GS X Wx s sBad := ⟨fun _ _ _ _ _ _ ⟨_, _, _, _, _, p⟩ => p.elim⟩
theorem gi_bad {tg e : Expr} : GI X Wx tg e iBad := ⟨fun _ _ _ _ _ _ ⟨_, _, _, _, _, p⟩ => p.elim⟩
end
/-! ### what a turn of a loop leaves behind is forgotten -/
def fzSl (g : Nat → Option D) : Sl → Option Sl
  | [] => some []
  | none :: r => (fzSl g r).map (none :: ·)
  | some d :: r => (fz g d).bind fun e => (fzSl g r).map (some e :: ·)
theorem fzSl_get {g : Nat → Option D} : ∀ {sl sl2 : Sl}, fzSl g sl = some sl2 → sl2.length = sl.length ∧ ∀ (i : Nat) (e : D), sl2[i]? = some (some e) → ∃ d, sl[i]? = some (some d) ∧ fz g d = some e
  | [], _, h => by cases h; exact ⟨rfl, fun i e q => by simp at q⟩
  | none :: r, sl2, h => by
    obtain ⟨t, h1, h2⟩ := Option.map_eq_some_iff.mp (show (fzSl g r).map (none :: ·) = some sl2 from h)
    obtain ⟨a, b⟩ := fzSl_get h1
    subst h2
    refine ⟨by simp [a], fun i e q => ?_⟩
    cases i with
    | zero => simp at q
    | succ i => exact b i e q
  | some d :: r, sl2, h => by
    obtain ⟨e1, h1, h2⟩ := Option.bind_eq_some_iff.mp (show (fz g d).bind (fun e => (fzSl g r).map (some e :: ·)) = some sl2 from h)
    obtain ⟨t, h3, h4⟩ := Option.map_eq_some_iff.mp h2
    obtain ⟨a, b⟩ := fzSl_get h3
    subst h4
    refine ⟨by simp [a], fun i e q => ?_⟩
    cases i with
    | zero => simp at q; subst q; exact ⟨d, rfl, h1⟩
    | succ i => exact b i e q
def cutR (n : Nat) (fg : List Nat) (sl : Sl) (st : Sto) : Option (Sl × Sto) :=
  if st.length = n then some (sl, st) else match fzSl (lookF 6 n st) (wipeD sl fg), fzS (lookF 6 n st) (st.take n) with
    | some a, some b => some (a, b)
    | _, _ => none
def sCut (fg : List Nat) (m : MS) : MS := fun sl st => match m sl st with
  | .nx sl' st' => (match cutR st.length fg sl' st' with | some (a, b) => .nx a b | none => .bad)
  | .ct sl' st' => (match cutR st.length fg sl' st' with | some (a, b) => .ct a b | none => .bad)
  | r => r
section
variable {K : PySem.W.Frag} {W W1 : Wd} {H H1 : Hp} {st st1 : Sto} {sh : L2.St} {sl1 a : Sl} {b : Sto} {fg : List Nat}
theorem cutR_rep (hn : W.rho.length = st.length) (x1 : Ext W H W1 H1) (h1 : HR K W1 H1 st1) (s1 : SR K W1 sh sl1) (e : cutR st.length fg sl1 st1 = some (a, b)) : ∃ W2, Ext W H W2 H1 ∧ HR K W2 H1 b ∧ SR K W2 sh a := by
  unfold cutR at e
  split at e
  · cases e; exact ⟨W1, x1, h1, s1⟩
  · split at e
    · rename_i a' b' q1 q2
      cases e
      obtain ⟨p, q⟩ := fin_hr h1 x1 st.length hn 6 q2
      refine ⟨_, q, p, ?_⟩
      have s2 := s1.wipe (vs := fg)
      obtain ⟨l1, l2⟩ := fzSl_get q1
      refine ⟨s2.len.trans l1.symm, fun i e he => ?_⟩
      obtain ⟨d, e1, e2⟩ := l2 i e he
      obtain ⟨v, f1, f2⟩ := s2.at_ i d e1
      exact ⟨v, f1, fz_rep (lookF_rep h1 6) (finW_F h1) d v e f2 e2⟩
    · cases e
end
section
variable {X : Cx} {Wx : WX}
theorem gss_cut (fg : List Nat) {body : List Stmt} {m : MS} (h : GSs X Wx body m) : GSs X Wx body (sCut fg m) := by
  refine PSs.imp h fun D sh H ⟨W, sl, st, hr, hs, p⟩ => ⟨W, sl, st, hr, hs, ?_⟩
  unfold sCut at p
  cases e : m sl st with
  | nx sl' st' =>
    rw [e] at p
    intro W1 sh1 H1 l1 x1 h1 s1
    simp only at p
    split at p
    · rename_i a b q
      obtain ⟨W2, y1, y2, y3⟩ := cutR_rep hr.len x1 h1 s1 q
      exact p W2 sh1 H1 l1 y1 y2 y3
    · exact p.elim
  | ct sl' st' =>
    rw [e] at p
    intro W1 sh1 H1 l1 x1 h1 s1
    simp only at p
    split at p
    · rename_i a b q
      obtain ⟨W2, y1, y2, y3⟩ := cutR_rep hr.len x1 h1 s1 q
      exact p W2 sh1 H1 l1 y1 y2 y3
    · exact p.elim
  | bk sl' st' => rw [e] at p; exact p
  | rt d st' => rw [e] at p; exact p
  | exc x st' => rw [e] at p; exact p
  | bad => rw [e] at p; exact p
end
/-- slots that hold nothing of what comes behind -/
def SlC (n : Nat) (Z : Sl) : Prop := ∀ g : Nat → Option D, (∀ r, r < n → g r = some (Rf r)) → fzSl g Z = some Z
theorem SlC.nil {n : Nat} : SlC n [] := fun _ _ => rfl
theorem SlC.none {n : Nat} {Z : Sl} (h : SlC n Z) : SlC n (none :: Z) := fun g hg => by show (fzSl g Z).map _ = _; rw [h g hg]; rfl
theorem SlC.clean {n : Nat} {Z : Sl} {d : D} (hd : d.canLay0 = true) (h : SlC n Z) : SlC n (some d :: Z) := fun g hg => by
  show (fz g d).bind (fun e => (fzSl g Z).map (some e :: ·)) = _
  rw [fz_clean d hd, h g hg]; rfl
theorem SlC.rf {n r : Nat} {Z : Sl} (hr : r < n) (h : SlC n Z) : SlC n (some (Rf r) :: Z) := fun g hg => by
  show (g ((r : Int)).toNat).bind (fun e => (fzSl g Z).map (some e :: ·)) = _
  rw [Int.toNat_natCast, hg r hr, h g hg]; rfl
theorem SlC.gs {n : Nat} {Z : Sl} {ds : List D} (hd : PyData.canLayAll0 ds = true) (h : SlC n Z) : SlC n (some (Gs ds) :: Z) := fun g hg => by
  show ((fzL g ds).map Gs).bind (fun e => (fzSl g Z).map (some e :: ·)) = _
  rw [fzL_clean ds hd, h g hg]; rfl
theorem wipe_get (sl : Sl) (i : Nat) : ∀ vs : List Nat, (wipeD sl vs)[i]? = if i ∈ vs then sl[i]?.map (fun _ => Option.none) else sl[i]?
  | [] => by simp [wipeD]
  | v :: vs => by
    unfold wipeD
    by_cases h : v = i
    · subst h
      rw [List.getElem?_set, if_pos rfl, if_pos List.mem_cons_self]
      by_cases hl : v < sl.length
      · rw [if_pos (by rw [wipeD_length]; exact hl), List.getElem?_eq_getElem hl]; rfl
      · rw [if_neg (by rw [wipeD_length]; exact hl), List.getElem?_eq_none (by omega)]; rfl
    · rw [List.getElem?_set_ne h, wipe_get sl i vs]
      have : (i ∈ v :: vs) ↔ i ∈ vs := by simp [Ne.symm h]
      simp only [this]
theorem wipe_twice (sl : Sl) (vs : List Nat) : wipeD (wipeD sl vs) vs = wipeD sl vs := by
  refine List.ext_getElem? fun i => ?_
  rw [wipe_get (wipeD sl vs) i vs, wipe_get sl i vs]
  split
  · rw [Option.map_map]; rfl
  · rfl
theorem cut_app {fg : List Nat} {m : MS} {sl sl' Z : Sl} {st more : Sto} (e : m sl st = .nx sl' (st ++ more)) (hw : wipeD sl' fg = Z) (hz : SlC st.length Z) (hs : StC st) : ∃ sl2, sCut fg m sl st = .nx sl2 st ∧ wipeD sl2 fg = Z := by
  unfold sCut
  rw [e]
  unfold cutR
  by_cases hm : (st ++ more).length = st.length
  · have : more = [] := by
      rw [List.length_append] at hm
      exact List.length_eq_zero_iff.mp (by omega)
    subst this
    exact ⟨sl', by simp, hw⟩
  · refine ⟨Z, ?_, ?_⟩
    · simp only [if_neg hm]
      rw [hw, hz _ (fun r hr => by unfold lookF; rw [if_pos hr]), List.take_append_of_le_length (Nat.le_refl _), List.take_length, hs]
    · rw [← hw]; exact wipe_twice sl' fg
end Pv
set_option Elab.async false
set_option linter.all false
set_option maxRecDepth 100000
set_option maxHeartbeats 1000000
set_option pp.maxSteps 400
namespace Pv
open PySem PySem.Spec L2
open PyProof.Rows hiding St signs cutD pairD
theorem SlC.str {n : Nat} {Z : Sl} {z : Str} (h : SlC n Z) : SlC n (some (.str z) :: Z) := fun g hg => by
  show (some (PyData.str z)).bind (fun e => (fzSl g Z).map (some e :: ·)) = _
  rw [h g hg]; rfl
/-! ### s.split(t), s.join(xs) -/
def mSm (f : Str → F1) (a b : M) : M := fun sl st => (a sl st).bind fun o st => match o with
  | .str z => (b sl st).bind fun d st => f z d st
  | _ => .bad
def fSplit (z : Str) : F1 := fun d st => match deref st d with
  | .str b => if (b.length == 0) = false ∧ z.length + 2 ≤ sizeLine then .ok (.list ((Txt.split z b).map .str)) st else .bad
  | _ => .bad
def joinD (z : Str) (ds : List D) : Option D := match strsOfD ds with
  | some ys => if (ys.map (·.length)).sum + ys.length * z.length ≤ 16777216 then some (.str (Txt.join z ys)) else none
  | none => none
def fJoin (z : Str) : F1 := fun d st => match deref st d with
  | .list ds => lift (joinD z ds) st
  | .tuple ds => lift (joinD z ds) st
  | _ => .bad
def mSplit : M → M → M := mSm fSplit
def mJoin : M → M → M := mSm fJoin
@[simp] theorem e_sm {f : Str → F1} {a b : M} {sl : Sl} {st : Sto} : mSm f a b sl st = (a sl st).bind fun o st => match o with
  | .str z => (b sl st).bind fun d st => f z d st
  | _ => .bad := rfl
@[simp] theorem e_split {a b : M} {sl : Sl} {st : Sto} : mSplit a b sl st = (a sl st).bind fun o st => match o with
  | .str z => (b sl st).bind fun d st => fSplit z d st
  | _ => .bad := rfl
@[simp] theorem e_join {a b : M} {sl : Sl} {st : Sto} : mJoin a b sl st = (a sl st).bind fun o st => match o with
  | .str z => (b sl st).bind fun d st => fJoin z d st
  | _ => .bad := rfl
section
variable {X : Cx} {Wx : WX} {ea eb e : Expr} {ma mb mc : M} {pos p apos : Pos}
theorem ge_split (ha : GE X Wx ea ma) (hb : GE X Wx eb mb) (hs : starEach [eb] X.env = [(false, eval eb X.env)] := by rfl) (hbase : attributeBase ea "split" X.env (eval ea X.env) = eval ea X.env := by rfl) (hline : (apos.endLine == pos.line) = true := by rfl) :
    GE X Wx (.Call (.Attribute ea "split" apos) [eb] [] pos) (mSplit ma mb) := by
  refine PE.imp (pe_split ha hb hs hbase hline) fun sh H Q ⟨W, sl, st, hr, hs, q⟩ => ?_
  refine rd_bind hr hs q fun d1 st1 W1 v1 H1 e1 x1 h1 s1 r1 p1 => ?_
  split at p1
  · rename_i z
    refine ⟨⟨z, r1⟩, rd_bind h1 s1 p1 fun d2 st2 W2 v2 H2 e2 x2 h2 s2 r2 p2 => ?_⟩
    unfold fSplit at p2
    split at p2
    · rename_i b hb
      split at p2
      · rename_i hc
        exact ⟨z, b, r1, by rw [rep_dstr h2 r2 hb], hc.1, hc.2, p2.lst h2 (repL_strsB _)⟩
      · exact p2.elim
    · exact p2.elim
  · exact p1.elim
theorem ge_join (ha : GE X Wx ea ma) (hb : GE X Wx eb mb) (hs : starEach [eb] X.env = [(false, eval eb X.env)] := by rfl) (hbase : attributeBase ea "join" X.env (eval ea X.env) = eval ea X.env := by rfl) (hline : (apos.endLine == pos.line) = true := by rfl) :
    GE X Wx (.Call (.Attribute ea "join" apos) [eb] [] pos) (mJoin ma mb) := by
  refine PE.imp (pe_join ha hb hs hbase hline) fun sh H Q ⟨W, sl, st, hr, hs, q⟩ => ?_
  refine rd_bind hr hs q fun d1 st1 W1 v1 H1 e1 x1 h1 s1 r1 p1 => ?_
  split at p1
  · rename_i z
    refine ⟨⟨z, r1⟩, rd_bind h1 s1 p1 fun d2 st2 W2 v2 H2 e2 x2 h2 s2 r2 p2 => ?_⟩
    have key : ∀ ds : List D, Post (nv X) W2 H2 Q (fun cls dd H' => Wx cls dd sh H') (lift (joinD z ds) st2) → ∀ (a : Addr) (xs : List V), v2 = .ref a → repL X.K W2 xs ds → (SqL X.K H2 a xs ∨ SqT X.K H2 a xs) →
        ∃ c q, ∃ ys : List Str, v1 = .str c ∧ [v2] = [.ref q] ∧ (SqL X.K H2 q (ys.map V.str) ∨ SqT X.K H2 q (ys.map V.str)) ∧ (ys.map (·.length)).sum + ys.length * c.length ≤ 16777216 ∧ Q (.str (Txt.join c ys)) H2 := fun ds p2 a xs ev hl hq => by
      unfold joinD lift at p2
      split at p2
      · rename_i d hd
        split at hd
        · rename_i ys hy
          split at hd
          · rename_i hc
            cases hd
            rw [strs_of_D hy] at hl
            rw [repL_strsV hl] at hq
            exact ⟨z, a, ys, r1, by rw [ev], hq, hc, p2.val h2 rfl⟩
          · cases hd
        · cases hd
      · exact p2.elim
    unfold fJoin at p2
    split at p2
    · rename_i ds hd
      obtain ⟨a, xs, ev, hH, hl⟩ := rep_dlist h2 r2 hd
      exact key ds p2 a xs ev hl (.inl (.inl (.inl hH)))
    · rename_i ds hd
      obtain ⟨a, xs, ev, hH, hl⟩ := rep_dtuple h2 r2 hd
      exact key ds p2 a xs ev hl (.inr hH)
    · exact p2.elim
  · exact p1.elim
end
/-! ### xs.extend(ys) -/
def fExt (o d : D) (st : Sto) : R D :=
  match o with
  | .dict [(.int r, .none)] => (match st[r.toNat]?, deref st d with | some (.lst ds), .list es => if ds.length + es.length ≤ sizeLine then .ok .none (st.set r.toNat (.lst (ds ++ es))) else .bad | _, _ => .bad)
  | _ => .bad
def mExt : M → M → M := mLm fExt
@[simp] theorem e_ext {a b : M} {sl : Sl} {st : Sto} : mExt a b sl st = (a sl st).bind fun o st => if isLst st o = true then (b sl st).bind fun d st => fExt o d st else .bad := rfl
section
variable {X : Cx} {Wx : WX} {ea eb e : Expr} {ma mb mc : M} {pos p apos : Pos}
theorem ge_extend {ea eb : Expr} {ma mb : M} (ha : GE X Wx ea ma) (hb : GE X Wx eb mb) (hbase : attributeBase ea "extend" X.env (eval ea X.env) = eval ea X.env := by rfl)
    (hfew : ((backTo pos (starEach (eb :: []) X.env)).all (fun x => !x.1) && (backToKw pos (keywordEach [] X.env)).all (fun x => x.1.isSome) && decide ((eb :: ([] : List Expr)).length + ([] : List Keyword).length + (if ([] : List Keyword).isEmpty then 0 else 1) < 30)) = true := by rfl)
    (hline : (apos.endLine == pos.line) = true := by rfl) (hs : starEach (eb :: []) X.env = (false, eval eb X.env) :: starEach [] X.env := by rfl) (hplain : (backTo pos (starEach [] X.env)).any (·.1) = false := by rfl) :
    GE X Wx (.Call (.Attribute ea "extend" apos) [eb] [] pos) (mExt ma mb) := by
  refine PE.imp (pe_bm PySem.F.plainAttrs_list PySem.F.slot_list_extend PySem.F.type_list_extend mt_extend ha (pa_cons hb pa_nil hs) hbase hfew hline hs hplain) fun sh H Q ⟨W, sl, st, hr, hs, q⟩ => ?_
  refine rd_bind hr hs q fun d1 st1 W1 v1 H1 e1 x1 h1 s1 r1 p1 => ?_
  split at p1
  · rename_i hl
    obtain ⟨r, a, ds, xs, eo, ev, hrho, hst, hH, hL⟩ := isLst_rep h1 r1 hl
    subst eo; subst ev
    refine ⟨.inl ⟨rfl, xs, .inl (.inl hH)⟩, ?_⟩
    refine rd_bind h1 s1 p1 fun d2 st2 W2 v2 H2 e2 x2 h2 s2 r2 p2 => ?_
    have p2 : Post (nv X) W2 H2 Q (fun cls dd H' => Wx cls dd sh H') (match st2[r]?, deref st2 d2 with | some (.lst ds), .list es => if ds.length + es.length ≤ sizeLine then .ok .none (st2.set r (.lst (ds ++ es))) else .bad | _, _ => .bad) := p2
    split at p2
    · rename_i ds2 es2 hd2 he2
      split at p2
      · rename_i hz
        obtain ⟨b, hb, _, xs2, g1, g2⟩ := h2.at' hd2
        rw [x2.at r a hrho] at hb
        cases hb
        obtain ⟨c, zs, ez, hz1, hz2⟩ := rep_dlist h2 r2 he2
        refine ⟨a, c, xs2, zs, rfl, by rw [ez], g1, hz1, by rw [repL_length g2, repL_length hz2]; exact hz, ?_⟩
        obtain ⟨h3, x3⟩ := h2.set (o := .lst (xs2 ++ zs)) (m := .lst (ds2 ++ es2)) (x2.at r a hrho) hd2 ⟨_, upd_same, repL_append g2 hz2⟩
        exact p2 W2 .non _ x3 h3 rfl
      · exact p2.elim
    · exact p2.elim
  · exact p1.elim
end
/-! ### dict(pairs) -/
def pairOfD : D → Option (Key × D)
  | .tuple [k, v] => (keyOf k).map fun c => (c, v)
  | _ => none
def pairsOfD : List D → Option (List (Key × D))
  | [] => some []
  | d :: ds => match pairOfD d, pairsOfD ds with | some p, some ps => some (p :: ps) | _, _ => none
def fDictP : F1 := fun x st => match deref st x with
  | .list ds => (match pairsOfD ds with | some ps => .ok (Rf st.length) (st ++ [.dct (mergeD [] ps)]) | none => .bad)
  | _ => .bad
def mDictP : M → M := mOp1 fDictP
@[simp] theorem e_dictP {a : M} {sl : Sl} {st : Sto} : mDictP a sl st = (a sl st).bind fun x st => fDictP x st := rfl
theorem fDictP_nx (x : D) (st : Sto) (ex : XV) (s2 : Sto) : fDictP x st ≠ .exc ex s2 := by
  intro h
  unfold fDictP at h
  split at h
  · split at h <;> cases h
  · cases h
section
variable {K : PySem.W.Frag} {W : Wd} {H : Hp} {st : Sto}
theorem pairs_rep (hs : ∀ b o, W.F b = some o → H b = some o) : ∀ {ds : List D} {xs : List V} {ps : List (Key × D)}, repL K W xs ds → pairsOfD ds = some ps →
    ∃ (as : List Addr) (kvs : List (Key × V)), xs = as.map V.ref ∧ repP K W kvs ps ∧ Paired (fun p kv => SqT K H p [kV kv.1, kv.2]) as kvs
  | [], xs, ps, h, e => by
    cases h; cases e
    exact ⟨[], [], rfl, .nil, .nil⟩
  | d :: ds, xs, ps, ⟨v, us, e1, r, l⟩, e => by
    simp only [pairsOfD] at e
    split at e
    · rename_i p qs hp hq
      cases e
      obtain ⟨as, kvs, q1, q2, q3⟩ := pairs_rep hs l hq
      unfold pairOfD at hp
      split at hp
      · rename_i kd vd
        obtain ⟨c, hc, rfl⟩ := Option.map_eq_some_iff.mp hp
        obtain ⟨a, ws, ev, hF, w1, us1, f1, r1, w2, us2, f2, r2, f3⟩ := r
        subst ev; subst e1; subst q1; subst f2; subst f1
        cases f3
        rw [keyOf_rep r1 hc] at hF
        exact ⟨a :: as, (c, w2) :: kvs, rfl, .cons ⟨rfl, r2⟩ q2, .cons (.inl (.inl (hs _ _ hF))) q3⟩
      · cases hp
    · cases e
end
section
variable {X : Cx} {Wx : WX} {ea eb e : Expr} {ma mb mc : M} {pos p apos : Pos}
theorem ge_dictP (g : Gd X) (hm : X.mg "dict" = none) (ha : GE X Wx ea ma) (hg : Gl X "dict" := by rfl)
    (he : starEach (ea :: []) X.env = (false, eval ea X.env) :: starEach [] X.env := by rfl) (hpl : (backTo pos (starEach [] X.env)).any (·.1) = false := by rfl) :
    GE X Wx (.Call (.Name "dict" p) [ea] [] pos) (mDictP ma) := by
  refine ge_callT1 (call_dictP g.calm) fDictP_nx ?_ hg hm (by decide +kernel) ha (by decide +kernel) (by decide +kernel) he hpl
  intro W H st x dx Q hr r q
  unfold fDictP at q
  split at q
  · rename_i ds hd
    split at q
    · rename_i ps hp
      obtain ⟨a, xs, ev, hH, hl⟩ := rep_dlist hr r hd
      obtain ⟨as, kvs, q1, q2, q3⟩ := pairs_rep hr.sub hl hp
      subst ev; subst q1
      refine ⟨a, as, kvs, rfl, .inl (.inl hH), q3, fun b hb => ?_⟩
      obtain ⟨h2, x2⟩ := hr.newM (o := .dK (mergeK [] kvs)) (m := .dct (mergeD [] ps)) hb ⟨_, upd_same, merge_rep (repP_mono (W := W) (W' := ⟨W.F, W.rho ++ [b]⟩) (fun _ _ z => z) (fun r c z => by show (W.rho ++ [b])[r]? = some c; rw [List.getElem?_append_left (List.getElem?_eq_some_iff.mp z).1]; exact z) q2) .nil⟩
      exact q _ (.ref b) _ x2 h2 ⟨st.length, b, rfl, rfl, by rw [← hr.len]; simp⟩
    · exact q.elim
  · exact q.elim
end
/-! ### k in d, k not in d -/
def fDin (neg : Bool) : F2 := fun y x st => match dlook st x y with
  | some o => .ok (.bool (o.isSome != neg)) st
  | none => .bad
def mDin (neg : Bool) : M → M → M := mOp2 (fDin neg)
@[simp] theorem e_din {neg : Bool} {a b : M} {sl : Sl} {st : Sto} : mDin neg a b sl st = (a sl st).bind fun y st => (b sl st).bind fun x st => fDin neg y x st := rfl
section
variable {X : Cx} {Wx : WX} {ea eb e : Expr} {ma mb mc : M} {pos p apos : Pos}
theorem din_read {neg : Bool} {W : Wd} {H : Hp} {st : Sto} {sl : Sl} {sh : L2.St} {Q : VK} (hr : HR X.K W H st) (hs : SR X.K W sh sl) (p : Post (nv X) W H Q (fun cls dd H' => Wx cls dd sh H') (mDin neg ma mb sl st)) :
    rd (nv X) Wx ma sh H fun y H1 => rd (nv X) Wx mb sh H1 fun x H2 => ∃ a o, x = .ref a ∧ DGet H2 a y o ∧ Q (.bl (o.isSome != neg)) H2 := by
  refine rd_bind hr hs p fun d1 st1 W1 v1 H1 e1 x1 h1 s1 r1 p1 => ?_
  refine rd_bind h1 s1 p1 fun d2 st2 W2 v2 H2 e2 x2 h2 s2 r2 p2 => ?_
  unfold fDin at p2
  split at p2
  · rename_i o ho
    obtain ⟨a, ov, ev, g, q1, q2⟩ := dlook_rep h2 r2 (x2.rep r1) ho
    have es : ov.isSome = o.isSome := by
      cases o with
      | none => rw [q2 rfl]; rfl
      | some d => obtain ⟨w, hw, _⟩ := q1 d rfl; rw [hw]; rfl
    exact ⟨a, ov, ev, g, by rw [es]; exact p2.val h2 rfl⟩
  · exact p2.elim
theorem ge_din (g : Gd0 X) (ha : GE X Wx ea ma) (hb : GE X Wx eb mb) (hm : behindInMarks .In eb = false := by first | exact nobehind _ (by decide) (by decide) | rfl) : GE X Wx (.Compare ea [.In] [eb] pos) (mDin false ma mb) :=
  PE.imp (pe_cmp (pc_din (by have := g.un; omega) ha hb) hm) fun sh H Q ⟨W, sl, st, hr, hs, q⟩ => by
    have := din_read hr hs q
    simpa [tDIn] using this
theorem ge_dnotin (g : Gd0 X) (ha : GE X Wx ea ma) (hb : GE X Wx eb mb) (hm : behindInMarks .NotIn eb = false := by first | exact nobehind _ (by decide) (by decide) | rfl) : GE X Wx (.Compare ea [.NotIn] [eb] pos) (mDin true ma mb) :=
  PE.imp (pe_cmp (pc_dnotin (by have := g.un; omega) ha hb) hm) fun sh H Q ⟨W, sl, st, hr, hs, q⟩ => by
    have := din_read hr hs q
    simpa [tDNotIn] using this
theorem din_readT {neg : Bool} {W : Wd} {H : Hp} {st : Sto} {sl : Sl} {sh : L2.St} {Q : Bool → Hp → Prop} (hr : HR X.K W H st) (hs : SR X.K W sh sl) (p : PostT (nv X) W H Q (fun cls dd H' => Wx cls dd sh H') (mTb (mDin neg ma mb) sl st)) :
    rd (nv X) Wx ma sh H fun y H1 => rd (nv X) Wx mb sh H1 fun x H2 => ∃ a o, x = .ref a ∧ DGet H2 a y o ∧ Q (o.isSome != neg) H2 := by
  have p : PostT (nv X) W H Q (fun cls dd H' => Wx cls dd sh H') ((ma sl st).bind fun d1 st1 => (mb sl st1).bind fun d2 st2 => (fDin neg d1 d2 st2).bind fun d st => match d with | .bool b => R.ok b st | _ => .bad) := by
    rw [mTb, mDin] at p
    rw [show (mOp2 (fDin neg) ma mb sl st).bind _ = _ from tb_bind (m := ma) (f := fun d1 st1 => (mb sl st1).bind fun d2 st2 => fDin neg d1 d2 st2) (g := fun d1 st1 => (mb sl st1).bind fun d2 st2 => (fDin neg d1 d2 st2).bind fun d st => match d with | .bool b => R.ok b st | _ => .bad) fun d st => by
      cases mb sl st <;> rfl] at p
    exact p
  refine rd_bindT hr hs p fun d1 st1 W1 v1 H1 e1 x1 h1 s1 r1 p1 => ?_
  refine rd_bindT h1 s1 p1 fun d2 st2 W2 v2 H2 e2 x2 h2 s2 r2 p2 => ?_
  unfold fDin at p2
  split at p2
  · rename_i o ho
    obtain ⟨a, ov, ev, g, q1, q2⟩ := dlook_rep h2 r2 (x2.rep r1) ho
    have es : ov.isSome = o.isSome := by
      cases o with
      | none => rw [q2 rfl]; rfl
      | some d => obtain ⟨w, hw, _⟩ := q1 d rfl; rw [hw]; rfl
    exact ⟨a, ov, ev, g, by rw [es]; exact p2.now h2⟩
  · exact p2.elim
theorem gt_din (g : Gd0 X) (ha : GE X Wx ea ma) (hb : GE X Wx eb mb) (hm : behindInMarks .In eb = false := by first | exact nobehind _ (by decide) (by decide) | rfl) : GT X Wx (.Compare ea [.In] [eb] pos) (mTb (mDin false ma mb)) :=
  PT.imp (pt_cmp (pc_din (by have := g.un; omega) ha hb) hm) fun sh H Q ⟨W, sl, st, hr, hs, q⟩ => by
    have := din_readT hr hs q
    simpa [tDIn, tB] using this
theorem gt_dnotin (g : Gd0 X) (ha : GE X Wx ea ma) (hb : GE X Wx eb mb) (hm : behindInMarks .NotIn eb = false := by first | exact nobehind _ (by decide) (by decide) | rfl) : GT X Wx (.Compare ea [.NotIn] [eb] pos) (mTb (mDin true ma mb)) :=
  PT.imp (pt_cmp (pc_dnotin (by have := g.un; omega) ha hb) hm) fun sh H Q ⟨W, sl, st, hr, hs, q⟩ => by
    have := din_readT hr hs q
    simpa [tDNotIn, tB] using this
end
/-! ### a text so many times -/
instance {x : Str} {n : Int} : Decidable (MulOk x n) := by unfold MulOk; infer_instance
def dMulT : D → D → Option D
  | .str a, .int n => if MulOk a n then some (.str (Txt.mul a n)) else none
  | _, _ => none
def mMulT : M → M → M := mOp2 (onD2 dMulT)
@[simp] theorem e_mulT {a b : M} {sl : Sl} {st : Sto} : mMulT a b sl st = (a sl st).bind fun x st => (b sl st).bind fun y st => onD2 dMulT x y st := rfl
section
variable {X : Cx} {Wx : WX} {ea eb e : Expr} {ma mb mc : M} {pos p apos : Pos}
theorem op_mulT : OpR X (binaryOp .Mult) (fun x y H Q => ∃ a n, x = .str a ∧ y = .int n ∧ MulOk a n ∧ Q (.str (Txt.mul a n)) H) := by
  intro pins s sh H x y v u Q I rx ry ⟨a, n, ex, ey, ok, q⟩
  subst ex ey
  obtain ⟨t, rfl⟩ := rx
  obtain ⟨t', rfl⟩ := ry
  exact PySem.SB.mul ok fun t' k => ⟨.str (Txt.mul a n), H, I.tok _, ⟨_, rfl⟩, q⟩
theorem ge_mulT (ha : GE X Wx ea ma) (hb : GE X Wx eb mb) : GE X Wx (.BinOp ea .Mult eb pos) (mMulT ma mb) := by
  refine ge_op2 onD2_nx ?_ (pe_op op_mulT ha hb)
  intro W H st x y dx dy Q hr rx ry p0
  obtain ⟨d, e, p⟩ := onD2_post p0
  unfold dMulT at e
  split at e
  · rename_i a n ha hn
    split at e
    · rename_i ok
      cases e
      exact ⟨a, n, rep_dstr hr rx ha, rep_dint hr ry hn, ok, p.val hr rfl⟩
    · cases e
  · cases e
end
end Pv
set_option Elab.async false
set_option linter.all false
set_option maxRecDepth 100000
set_option maxHeartbeats 4000000
namespace Gstampahead_k12_stamps_read
open PySem PySem.Spec L2 Pv LamX
open PyProof.Rows hiding St
def b__law_feed : MS := sRet (mDct ((mC (.str "cells"), mLc (mIter (mSl (mVar 0) (moNone) (moSome (mC (.int 63))))) (.nm 1) (tYesM) (mInt (mVar 1)) [1]) :: (mC (.str "next"), mC (.int 0)) :: (mC (.str "left"), mC (.int 0)) :: (mC (.str "drawn"), mC (.int 0)) :: []))
def F__law_feed : Fn := fnK 2 b__law_feed
def b__law_draw : MS := sSeq (sAsg (mAdd (mIx (mVar 0) (mC (.str "drawn"))) (mC (.int 1))) (tgSub (mVar 0) (mC (.str "drawn")))) (sSeq (sIf (mTb (mCmp .Gt (mIx (mVar 0) (mC (.str "left"))) (mC (.int 0)))) (sSeq (sAsg (mMod (mInt (mIx (mVar 0) (mC (.str "left")))) (mVar 1)) (tgName 2)) (sSeq (sAsg (mFdiv (mIx (mVar 0) (mC (.str "left"))) (mVar 1)) (tgSub (mVar 0) (mC (.str "left")))) (sRet (mVar 2)))) (sNil)) (sSeq (sPar2 3 4 (msCons (mIx (mVar 0) (mC (.str "next"))) (msCons (mIx (mVar 0) (mC (.str "cells"))) (msNil)))) (sSeq (sAsg (mAdd (mVar 3) (mC (.int 1))) (tgSub (mVar 0) (mC (.str "next")))) (sSeq (sAsg (mIf (mTb (mCmp .NotEq (mVar 4) (mLst (msNil)))) (mIx (mVar 4) (mMod (mInt (mVar 3)) (mLen (mVar 4)))) (mC (.int 399185))) (tgName 5)) (sSeq (sIf (mAndT (mTb (mCmp .GtE (mVar 5) (mPow (mC (.int 10)) (mC (.int 18))))) (mTb (mCmp .Lt (mVar 3) (mLen (mVar 4))))) (sSeq (sAsg (mFdiv (mVar 5) (mVar 1)) (tgSub (mVar 0) (mC (.str "left")))) (sRet (mMod (mInt (mVar 5)) (mVar 1)))) (sNil)) (sSeq (sAsg (mMod (mInt (mAdd (mAdd (mMulS (mMod (mInt (mVar 5)) (mC (.int 1000000093))) (mC (.int 7))) (mMulS (mC (.int 89123)) (mIx (mVar 0) (mC (.str "drawn"))))) (mC (.int 1241)))) (mC (.int 2147483629))) (tgName 6)) (sSeq (sAsg (mMod (mInt (mAdd (mAdd (mMulS (mVar 6) (mVar 6)) (mMulS (mC (.int 90811)) (mIx (mVar 0) (mC (.str "drawn"))))) (mC (.int 1225)))) (mC (.int 2147483489))) (tgName 6)) (sRet (mMod (mInt (mFdiv (mMod (mInt (mAdd (mMulS (mVar 6) (mVar 6)) (mMulS (mC (.int 965)) (mVar 6)))) (mC (.int 2147482951))) (mC (.int 32)))) (mVar 1))))))))))
def F__law_draw : Fn := fnP 7 b__law_draw
def b__law_pick : MS := sRet (mIx (mVar 1) (mCall F__law_draw (msCons (mVar 0) (msCons (mLen (mVar 1)) (msNil)))))
def F__law_pick : Fn := fnP 2 b__law_pick
def b__law_spoilt : MS := sSeq (sPar2 2 3 (msCons (mCall F__law_draw (msCons (mVar 0) (msCons (mAdd (mLen (mVar 1)) (mC (.int 1))) (msNil)))) (msCons (mCall F__law_draw (msCons (mVar 0) (msCons (mC (.int 4)) (msNil)))) (msNil)))) (sSeq (sIf (mTb (mCmp .Eq (mVar 3) (mC (.int 0)))) (sRet (mAdd (mSl (mVar 1) (moNone) (moSome (mVar 2))) (mSl (mVar 1) (moSome (mAdd (mVar 2) (mC (.int 1)))) (moNone)))) (sNil)) (sSeq (sIf (mTb (mCmp .Eq (mVar 3) (mC (.int 1)))) (sRet (mAdd (mAdd (mSl (mVar 1) (moNone) (moSome (mVar 2))) (mSl (mVar 1) (moSome (mVar 2)) (moSome (mAdd (mVar 2) (mC (.int 1)))))) (mSl (mVar 1) (moSome (mVar 2)) (moNone)))) (sNil)) (sSeq (sAsg (mCall F__law_pick (msCons (mVar 0) (msCons (mLst (msCons (mC (.str "-")) (msCons (mC (.str ".")) (msCons (mC (.str "0")) (msCons (mC (.str "1")) (msCons (mC (.str " ")) (msCons (mC (.str "\n")) (msCons (mC (.str "a")) (msCons (mC (.str "+")) (msCons (mC (.str "--")) (msCons (mC (.str "00")) (msCons (mC (.str "_")) (msNil))))))))))))) (msNil)))) (tgName 4)) (sRet (mAdd (mAdd (mSl (mVar 1) (moNone) (moSome (mVar 2))) (mVar 4)) (mSl (mVar 1) (moSome (mAdd (mVar 2) (mInt (mCmp .Eq (mVar 3) (mC (.int 2)))))) (moNone)))))))
def F__law_spoilt : Fn := fnP 5 b__law_spoilt
def b__law_error (a dd : Nat) (c : Str) : MS := sSeq (sAsg (mLst (msCons (mIsE a dd c ([].contains c) (mVar 0)) (msCons (mIsE a dd c ([("NotUsable" : Str)].contains c) (mVar 0)) (msCons (mIsE a dd c ([].contains c) (mVar 0)) (msCons (mIsE a dd c ([("InvalidText" : Str)].contains c) (mVar 0)) (msNil)))))) (tgName 1)) (sSeq (sIf (mOrT (mTb (mCmp .NotEq (mCnt (mVar 1) (mC (.bool true))) (mC (.int 1)))) (mNotT (mTru (mIsE a dd c ([("NotUsable" : Str), ("InvalidText" : Str)].contains c) (mVar 0))))) (sRet (mTup (msCons (mC (.str "odd")) (msNil)))) (sNil)) (sSeq (sIf (mAndT (mTru (mIx (mVar 1) (mC (.int 0)))) (mTru (mIsE a dd c ([].contains c) (mVar 0)))) (sRet (mTup (msCons (mC (.str "paper")) (msCons (mFld a dd c "word" (mVar 0)) (msCons (mFld a dd c "at" (mVar 0)) (msNil)))))) (sNil)) (sSeq (sIf (mAndT (mTru (mIx (mVar 1) (mC (.int 1)))) (mTru (mIsE a dd c ([("NotUsable" : Str)].contains c) (mVar 0)))) (sRet (mTup (msCons (mC (.str "no")) (msCons (mFld a dd c "word" (mVar 0)) (msCons (mFld a dd c "at" (mVar 0)) (msNil)))))) (sNil)) (sRet (mIf (mAndT (mTru (mIx (mVar 1) (mC (.int 3)))) (mTru (mIsE a dd c ([("InvalidText" : Str)].contains c) (mVar 0)))) (mTup (msCons (mC (.str "text")) (msCons (mFld a dd c "line" (mVar 0)) (msCons (mFld a dd c "field" (mVar 0)) (msNil))))) (mTup (msCons (mC (.str "odd")) (msNil))))))))
abbrev cs__law_heard : List Str := ["NotUsable", "InvalidText"]
def b__law_heard (a dd : Nat) (c : Str) : MS := sRet (mCallE 2 (b__law_error a dd c) (mVar 1))
def sF__law_heard : R Pv.D → R Pv.D := saidR "told" cs__law_heard 2 1 b__law_heard
theorem ind__law_heard : ∀ (a dd : Nat) (x : XV) (st : Sto), x.1 ∈ cs__law_heard → handR 2 1 b__law_heard a dd x st = handR 2 1 b__law_heard 0 0 x st := by
  intro a dd x st hx
  obtain ⟨c, fs⟩ := x
  simp only [List.mem_cons, List.not_mem_nil, or_false] at hx
  rcases hx with rfl | rfl
  all_goals (cases h0 : List.lookup ("at" : Str) ((nmD (fs.map fun p => .str p.1)).zip (fs.map (·.2))) <;> cases h1 : List.lookup ("field" : Str) ((nmD (fs.map fun p => .str p.1)).zip (fs.map (·.2))) <;> cases h2 : List.lookup ("line" : Str) ((nmD (fs.map fun p => .str p.1)).zip (fs.map (·.2))) <;> cases h3 : List.lookup ("word" : Str) ((nmD (fs.map fun p => .str p.1)).zip (fs.map (·.2))) <;> (unfold handR b__law_heard b__law_error; simp -implicitDefEqProofs [slE, exD, mkLst, mkLstM, isLst, fApp, isLstD, fCnt, cntD, mkTup, deref, sz_le, sz_lt, PyData.canLayAll0, PyData.canLay0, PyData.depthAll, PyData.depth, PyData.eqv, fIx, dlook, dIx, atI, ixN, dAddT, mCallE, startD, okOnly, h0, h1, h2, h3]))
def b_want : MS := sIf (mNotT (mTru (mVar 0))) (sRaise "NotUsable" ["word", "at"] (msCons (mVar 1) (msCons (mNeg (mC (.int 1))) (msNil)))) (sNil)
def F_want : Fn := fnP 2 b_want
def b_is_integer : MS := sRet (mAnd (mIsi .int (mVar 0)) (mNot (mIsi .bool (mVar 0))))
def F_is_integer : Fn := fnP 1 b_is_integer
def b_is_number : MS := sRet (mAnd (mCall F_is_integer (msCons (mVar 0) (msNil))) (mCmp .GtE (mVar 0) (mC (.int 0))))
def F_is_number : Fn := fnP 1 b_is_number
def b_number_of : MS := sSeq (sIf (mOrT (mNotT (mTb (mChain .LtE .LtE (mC (.int 1)) (mLen (mVar 0)) (mC (.int 60))))) (mNotT (mTru (mAll (mLc (mIter (mVar 0)) (.nm 1) (tYesM) (mCmp .In (mVar 1) (mC (.str "0123456789"))) [1]))))) (sRet (mC .none)) (sNil)) (sRet (mIf (mAndT (mTb (mCmp .Eq (mIx (mVar 0) (mC (.int 0))) (mC (.str "0")))) (mTb (mCmp .NotEq (mVar 0) (mC (.str "0"))))) (mC .none) (mInt (mVar 0))))
def F_number_of : Fn := fnP 2 b_number_of
def b_integer_of : MS := sSeq (sIf (mTb (mCmp .NotEq (mSl (mVar 0) (moNone) (moSome (mC (.int 1)))) (mC (.str "-")))) (sRet (mCall F_number_of (msCons (mVar 0) (msNil)))) (sNil)) (sSeq (sAsg (mCall F_number_of (msCons (mSl (mVar 0) (moSome (mC (.int 1))) (moNone)) (msNil))) (tgName 1)) (sRet (mIf (mOrT (mTb (mIsN (mVar 1))) (mTb (mCmp .Eq (mVar 1) (mC (.int 0))))) (mC .none) (mNeg (mVar 1)))))
def F_integer_of : Fn := fnP 2 b_integer_of
def b_stamp_read : MS := sSeq (sExpr (mCall F_want (msCons (mIsi .str (mVar 0)) (msCons (mC (.str "text")) (msNil))))) (sSeq (sExpr (mCall F_want (msCons (mCall F_is_number (msCons (mVar 1) (msNil))) (msCons (mC (.str "line")) (msNil))))) (sSeq (sExpr (mCall F_want (msCons (mCall F_is_number (msCons (mVar 2) (msNil))) (msCons (mC (.str "field")) (msNil))))) (sSeq (sAsg (mSplit (mVar 0) (mC (.str "."))) (tgName 3)) (sSeq (sAsg (mIf (mTb (mCmp .Eq (mLen (mVar 3)) (mC (.int 2)))) (mTup (msCons (mCall F_integer_of (msCons (mIx (mVar 3) (mC (.int 0))) (msNil))) (msCons (mCall F_number_of (msCons (mIx (mVar 3) (mC (.int 1))) (msNil))) (msNil)))) (mTup (msCons (mC .none) (msCons (mC .none) (msNil))))) (tgName 4)) (sSeq (sIf (mTb (mCmp .In (mC .none) (mVar 4))) (sRaise "InvalidText" ["line", "field"] (msCons (mVar 1) (msCons (mVar 2) (msNil)))) (sNil)) (sRet (mVar 4)))))))
def F_stamp_read : Fn := fnP 5 b_stamp_read
def b__law_size : MS := sSeq (sIf (mOrT (mNotT (mTb (mChain .LtE .LtE (mC (.int 1)) (mLen (mVar 0)) (mC (.int 60))))) (mTb (mCmp .NotEq (mLc (mIter (mVar 0)) (.nm 1) (mTb (mCmp .NotIn (mVar 1) (mC (.str "0123456789")))) (mVar 1) [1]) (mLst (msNil))))) (sRet (mNeg (mC (.int 1)))) (sNil)) (sRet (mIf (mOrT (mTb (mCmp .Eq (mVar 0) (mC (.str "0")))) (mTb (mCmp .NotEq (mIx (mVar 0) (mC (.int 0))) (mC (.str "0"))))) (mInt (mVar 0)) (mNeg (mC (.int 1)))))
def F__law_size : Fn := fnP 2 b__law_size
def b__law_due : MS := sSeq (sAsg (mSplit (mVar 0) (mC (.str "."))) (tgName 3)) (sSeq (sIf (mTb (mCmp .NotEq (mLen (mVar 3)) (mC (.int 2)))) (sRet (mTup (msCons (mC (.str "text")) (msCons (mVar 1) (msCons (mVar 2) (msNil)))))) (sNil)) (sSeq (sAsg (mCmp .Eq (mSl (mIx (mVar 3) (mC (.int 0))) (moNone) (moSome (mC (.int 1)))) (mC (.str "-"))) (tgName 4)) (sSeq (sPar2 5 6 (msCons (mCall F__law_size (msCons (mIf (mTru (mVar 4)) (mSl (mIx (mVar 3) (mC (.int 0))) (moSome (mC (.int 1))) (moNone)) (mIx (mVar 3) (mC (.int 0)))) (msNil))) (msCons (mCall F__law_size (msCons (mIx (mVar 3) (mC (.int 1))) (msNil))) (msNil)))) (sSeq (sIf (mOrT (mTb (mCmp .Lt (mVar 5) (mC (.int 0)))) (mOrT (mTb (mCmp .Lt (mVar 6) (mC (.int 0)))) (mAndT (mTru (mVar 4)) (mTb (mCmp .Eq (mVar 5) (mC (.int 0))))))) (sRet (mTup (msCons (mC (.str "text")) (msCons (mVar 1) (msCons (mVar 2) (msNil)))))) (sNil)) (sRet (mTup (msCons (mC (.str "told")) (msCons (mTup (msCons (mIf (mTru (mVar 4)) (mNeg (mVar 5)) (mVar 5)) (msCons (mVar 6) (msNil)))) (msNil)))))))))
def F__law_due : Fn := fnP 7 b__law_due
def b__law_same : MS := sRet (mCmp .Eq (mReprF (mVar 0)) (mReprF (mVar 1)))
def F__law_same : Fn := fnP 2 b__law_same
def b__law_is_right (tb : Nat → Addr) : MS := sSeq (sAsg (mLstM (msCons (mSaid (tb 0) "_law_is_right.<locals>.<lambda>" sF__law_heard (mCallN F_stamp_read [0, 1, 2] [.int 0, .int 0] (msCons (mVar 0) (msNil)) (msNil))) (msNil))) (tgName 3)) (sSeq (sExpr (mApp (mVar 3) (mSaid (tb 0) "_law_is_right.<locals>.<lambda>" sF__law_heard (mCallN F_stamp_read [0, 1, 2] [.int 0] (msCons (mVar 0) (msNil)) (msCons (mVar 1) (msNil)))))) (sSeq (sExpr (mApp (mVar 3) (mSaid (tb 0) "_law_is_right.<locals>.<lambda>" sF__law_heard (mCallN F_stamp_read [0, 2, 1] [.int 0] (msCons (mVar 0) (msNil)) (msCons (mVar 2) (msNil)))))) (sSeq (sExpr (mApp (mVar 3) (mSaid (tb 0) "_law_is_right.<locals>.<lambda>" sF__law_heard (mCallN F_stamp_read [2, 1, 0] [] (msNil) (msCons (mVar 2) (msCons (mVar 1) (msCons (mVar 0) (msNil)))))))) (sSeq (sAsg (mLst (msCons (mCall F__law_due (msCons (mVar 0) (msCons (mC (.int 0)) (msCons (mC (.int 0)) (msNil))))) (msCons (mCall F__law_due (msCons (mVar 0) (msCons (mVar 1) (msCons (mC (.int 0)) (msNil))))) (msCons (mCall F__law_due (msCons (mVar 0) (msCons (mC (.int 0)) (msCons (mVar 2) (msNil))))) (msCons (mCall F__law_due (msCons (mVar 0) (msCons (mVar 1) (msCons (mVar 2) (msNil))))) (msNil)))))) (tgName 4)) (sRet (mCall F__law_same (msCons (mVar 3) (msCons (mVar 4) (msNil)))))))))
def F__law_is_right (tb : Nat → Addr) : Fn := fnP 5 (b__law_is_right tb)
def l0__law_are_refused (tb : Nat → Addr) : MS := sSeq (sAsg (mLstM (msCons (mSaid (tb 1) "_law_are_refused.<locals>.<lambda>" sF__law_heard (mCallN F_stamp_read [0, 1, 2] [.int 0, .int 0] (msCons (mVar 0) (msNil)) (msNil))) (msNil))) (tgName 1)) (sSeq (sExpr (mApp (mVar 1) (mSaid (tb 1) "_law_are_refused.<locals>.<lambda>" sF__law_heard (mCallN F_stamp_read [0, 1, 2] [] (msCons (mVar 0) (msNil)) (msCons (mNeg (mC (.int 1))) (msCons (mNeg (mC (.int 1))) (msNil))))))) (sIf (mNotT (mTru (mCall F__law_same (msCons (mVar 1) (msCons (mMulS (mLst (msCons (mTup (msCons (mC (.str "no")) (msCons (mC (.str "text")) (msCons (mNeg (mC (.int 1))) (msNil))))) (msNil))) (mC (.int 2))) (msNil)))))) (sRet (mC (.bool false))) (sNil)))
def l1__law_are_refused (tb : Nat → Addr) : MS := sSeq (sAsg (mLstM (msCons (mSaid (tb 1) "_law_are_refused.<locals>.<lambda>" sF__law_heard (mCallN F_stamp_read [0, 1, 2] [] (msCons (mC (.str "0.0")) (msNil)) (msCons (mVar 0) (msCons (mVar 0) (msNil))))) (msNil))) (tgName 1)) (sSeq (sExpr (mApp (mVar 1) (mSaid (tb 1) "_law_are_refused.<locals>.<lambda>" sF__law_heard (mCallN F_stamp_read [0, 2, 1] [.int 0] (msCons (mC (.str "x")) (msNil)) (msCons (mVar 0) (msNil)))))) (sIf (mNotT (mTru (mCall F__law_same (msCons (mVar 1) (msCons (mLst (msCons (mTup (msCons (mC (.str "no")) (msCons (mC (.str "line")) (msCons (mNeg (mC (.int 1))) (msNil))))) (msCons (mTup (msCons (mC (.str "no")) (msCons (mC (.str "field")) (msCons (mNeg (mC (.int 1))) (msNil))))) (msNil)))) (msNil)))))) (sRet (mC (.bool false))) (sNil)))
def b__law_are_refused (tb : Nat → Addr) : MS := sSeq (sFor [0, 1] (mIter (mLst (msCons (mC .none) (msCons (mC (.int 0)) (msCons (mC (.bool true)) (msCons (mTup (msNil)) (msCons (mLst (msCons (mC (.str "0.0")) (msNil))) (msCons (mTup (msCons (mC (.int 0)) (msCons (mC (.int 0)) (msNil)))) (msNil))))))))) (tgName 0) ((l0__law_are_refused tb))) (sSeq (sFor [0, 1] (mIter (mLst (msCons (mC .none) (msCons (mNeg (mC (.int 1))) (msCons (mC (.bool true)) (msCons (mC (.bool false)) (msCons (mC (.str "0")) (msCons (mTup (msCons (mC (.int 0)) (msNil))) (msCons (mLst (msCons (mC (.int 0)) (msNil))) (msNil)))))))))) (tgName 0) ((l1__law_are_refused tb))) (sRet (mC (.bool true))))
def F__law_are_refused (tb : Nat → Addr) : Fn := fnP 2 (b__law_are_refused tb)
def l0_law (tb : Nat → Addr) : MS := sAsg (mAdd (mVar 2) (mLst (msCons (mAdd (mMulT (mC (.str "9")) (mVar 3)) (mC (.str ".0"))) (msCons (mAdd (mC (.str "0.")) (mMulT (mC (.str "9")) (mVar 3))) (msCons (mAdd (mAdd (mAdd (mC (.str "-")) (mMulT (mC (.str "9")) (mVar 3))) (mC (.str "."))) (mMulT (mC (.str "1")) (mVar 3))) (msNil)))))) (tgName 2)
def l1_law (tb : Nat → Addr) : MS := sSeq (sPar2 5 6 (msCons (mCall F__law_pick (msCons (mVar 1) (msCons (mLst (msCons (mC (.int 0)) (msCons (mC (.int 1)) (msCons (mNeg (mC (.int 1))) (msCons (mC (.int 10)) (msCons (mNeg (mC (.int 10))) (msCons (mC (.int 123)) (msCons (mPow (mC (.int 10)) (mC (.int 59))) (msNil))))))))) (msNil)))) (msCons (mCall F__law_pick (msCons (mVar 1) (msCons (mLst (msCons (mC (.int 0)) (msCons (mC (.int 1)) (msCons (mC (.int 10)) (msCons (mC (.int 205)) (msCons (mPow (mC (.int 10)) (mC (.int 59))) (msNil))))))) (msNil)))) (msNil)))) (sSeq (sAsg (mAdd (mAdd (mStrI (mVar 5)) (mC (.str "."))) (mStrI (mVar 6))) (tgName 7)) (sSeq (sAsg (mCall F__law_spoilt (msCons (mVar 1) (msCons (mVar 7) (msNil)))) (tgName 8)) (sAsg (mAdd (mVar 2) (mLst (msCons (mVar 7) (msCons (mVar 8) (msCons (mCall F__law_spoilt (msCons (mVar 1) (msCons (mVar 8) (msNil)))) (msNil)))))) (tgName 2))))
def l2_law (tb : Nat → Addr) : MS := sIf (mNotT (mTru (mCall (F__law_is_right tb) (msCons (mVar 7) (msCons (mCall F__law_draw (msCons (mVar 1) (msCons (mC (.int 9)) (msNil)))) (msCons (mCall F__law_draw (msCons (mVar 1) (msCons (mC (.int 40)) (msNil)))) (msNil))))))) (sRet (mC (.bool false))) (sNil)
def b_law (tb : Nat → Addr) : MS := sSeq (sAsg (mCall F__law_feed (msCons (mVar 0) (msNil))) (tgName 1)) (sSeq (sAsg (mLst (msCons (mC (.str "")) (msCons (mC (.str ".")) (msCons (mC (.str "0")) (msCons (mC (.str "0.")) (msCons (mC (.str ".0")) (msCons (mC (.str "0.0")) (msCons (mC (.str "-0.0")) (msCons (mC (.str "-1.0")) (msCons (mC (.str "--1.0")) (msCons (mC (.str "1.-1")) (msCons (mC (.str "01.0")) (msCons (mC (.str "1.01")) (msCons (mC (.str "1.0.0")) (msCons (mC (.str "1 .0")) (msCons (mC (.str "1.0 ")) (msNil))))))))))))))))) (tgName 2)) (sSeq (sAsg (mAdd (mVar 2) (mLst (msCons (mC (.str " 1.0")) (msCons (mC (.str "1.0\n")) (msCons (mC (.str "+1.0")) (msCons (mC (.str "-4.0")) (msCons (mC (.str "12.3")) (msCons (mC (.str "1,0")) (msCons (mC (.str "a.0")) (msCons (mC (.str "-.0")) (msCons (mC (.str "-01.0")) (msCons (mC (.str "1_0.0")) (msCons (mC (.str "1.")) (msCons (mC (.str "1e1.0")) (msNil))))))))))))))) (tgName 2)) (sSeq (sFor [3] (mIter (mLst (msCons (mC (.int 59)) (msCons (mC (.int 60)) (msCons (mC (.int 61)) (msNil)))))) (tgName 3) ((l0_law tb))) (sSeq (sFor [4, 5, 6, 7, 8] (mRng1 (mC (.int 12))) (tgName 4) ((l1_law tb))) (sSeq (sFor [7] (mIter (mVar 2)) (tgName 7) ((l2_law tb))) (sRet (mCall (F__law_are_refused tb) msNil)))))))
def F_law (tb : Nat → Addr) : Fn := fnP 9 (b_law tb)
end Gstampahead_k12_stamps_read
set_option Elab.async false
set_option linter.all false
set_option maxRecDepth 100000
set_option maxHeartbeats 4000000
namespace Gstampahead_k12_stamps_read
open PySem PySem.Spec Pv
open L2 hiding keyOf
open PyProof.Rows hiding St signs
def fd (cs : List Pv.D) (sp lf dr : Int) : MO := .dct [(.inr "cells", .list cs), (.inr "next", .int sp), (.inr "left", .int lf), (.inr "drawn", .int dr)]
section
variable {cs : List Pv.D} {sp lf dr v m : Int} {st pre : Sto}
theorem pre_at (pre st : Sto) (m : MO) : (pre ++ m :: st)[pre.length]? = some m := by simp
theorem fd_cells : fIx (Rf pre.length) (.str "cells") (pre ++ fd cs sp lf dr :: st) = .ok (.list cs) (pre ++ fd cs sp lf dr :: st) := by
  unfold fIx dlook; simp [keyOf, lookD, pre_at, fd]
theorem fd_spot : fIx (Rf pre.length) (.str "next") (pre ++ fd cs sp lf dr :: st) = .ok (.int sp) (pre ++ fd cs sp lf dr :: st) := by
  unfold fIx dlook; simp [keyOf, lookD, pre_at, fd]
theorem fd_left : fIx (Rf pre.length) (.str "left") (pre ++ fd cs sp lf dr :: st) = .ok (.int lf) (pre ++ fd cs sp lf dr :: st) := by
  unfold fIx dlook; simp [keyOf, lookD, pre_at, fd]
theorem fd_drawn : fIx (Rf pre.length) (.str "drawn") (pre ++ fd cs sp lf dr :: st) = .ok (.int dr) (pre ++ fd cs sp lf dr :: st) := by
  unfold fIx dlook; simp [keyOf, lookD, pre_at, fd]
theorem set_spot : setO (pre ++ fd cs sp lf dr :: st) (Rf pre.length) (.str "next") (.int v) = some (pre ++ fd cs v lf dr :: st) := by
  unfold setO; simp [keyOf, putD, sizeLine_eq, pre_at, fd]
theorem set_left : setO (pre ++ fd cs sp lf dr :: st) (Rf pre.length) (.str "left") (.int v) = some (pre ++ fd cs sp v dr :: st) := by
  unfold setO; simp [keyOf, putD, sizeLine_eq, pre_at, fd]
theorem set_drawn : setO (pre ++ fd cs sp lf dr :: st) (Rf pre.length) (.str "drawn") (.int v) = some (pre ++ fd cs sp lf v :: st) := by
  unfold setO; simp [keyOf, putD, sizeLine_eq, pre_at, fd]
theorem fd_ok {g : Nat → Option Pv.D} (h : IntsD cs) : fzO g (fd cs sp lf dr) = some (fd cs sp lf dr) := by
  have e := fzL_clean (g := g) cs (ints_lay h)
  unfold fd
  show (fzP g _).map MO.dct = _
  simp [fzP, e, fz]
theorem StC_fd (h : IntsD cs) (t : StC st) : StC (fd cs sp lf dr :: st) := t.cons fun _ => fd_ok h
def mixA (c d : Int) : Int := (c % 1000000093 * 7 + 89123 * d + 1241) % 2147483629
def mixB (a d : Int) : Int := (a * a + 90811 * d + 1225) % 2147483489
def mixC (b : Int) : Int := (b * b + 965 * b) % 2147482951 / 32
theorem q_draw (hcs : IntsD cs) (hl : cs.length ≤ 63) (h0 : 0 < m) (h1 : m < 1073741824) :
    ∃ r sp' lf' dr', F__law_draw [Rf pre.length, .int m] (pre ++ fd cs sp lf dr :: st) = .ok (.int r) (pre ++ fd cs sp' lf' dr' :: st) ∧ 0 ≤ r ∧ r < m := by
  have bd : ∀ x : Int, 0 ≤ x % m ∧ x % m < m := fun x => ⟨Int.emod_nonneg _ (by omega), Int.emod_lt_of_pos _ h0⟩
  have m1 : ∀ x : Int, -18446744073709551616 < x % 2147483629 := fun x => by omega
  have m2 : ∀ x : Int, x % 2147483629 < 18446744073709551616 := fun x => by omega
  have m3 : ∀ x : Int, -18446744073709551616 < x % 2147483489 := fun x => by omega
  have m4 : ∀ x : Int, x % 2147483489 < 18446744073709551616 := fun x => by omega
  have fin : ∀ (d : Pv.D) (sp lf dr : Int), finR (pre.length + (st.length + 1)) (.ok d (pre ++ fd cs sp lf dr :: st)) = .ok d (pre ++ fd cs sp lf dr :: st) := fun d sp lf dr => fin_same (by simp)
  unfold F__law_draw b__law_draw
  simp only [fnP_e]
  by_cases hlf : 0 < lf
  · refine ⟨lf % m, sp, lf / m, dr + 1, ?_, bd _⟩
    simp [startD, fd_drawn, set_drawn, fd_left, dInt, dInt2, hlf, h0, h1, set_left, fin]
  · by_cases hc : cs = []
    · subst hc
      refine ⟨mixC (mixB (mixA 399185 (dr + 1)) (dr + 1)) % m, sp + 1, lf, dr + 1, ?_, bd _⟩
      simp [startD, fd_drawn, set_drawn, fd_left, dInt, dInt2, hlf, h0, h1, fd_spot, fd_cells, set2, set_spot, mkLst, dMulS, m1, m2, m3, m4, mixA, mixB, mixC, fin]
    · obtain ⟨c, hc2⟩ := at_mod (st := pre ++ fd cs (sp + 1) lf (dr + 1) :: st) (j := sp) hcs hc
      have hp : 0 < cs.length := Nat.pos_of_ne_zero fun z => hc (List.length_eq_zero_iff.mp z)
      have hne : cs.isEmpty = false := by cases cs with | nil => exact absurd rfl hc | cons _ _ => rfl
      have e1 : dCmp .NotEq (.list cs) (.list []) = some (.bool true) := by rw [cmp_ne_nilL (ints_lay hcs), hne]; rfl
      by_cases hb : 1000000000000000000 ≤ c
      · by_cases hs : sp < (cs.length : Int)
        · refine ⟨c % m, sp + 1, c / m, dr + 1, ?_, bd _⟩
          simp [startD, fd_drawn, set_drawn, fd_left, dInt, dInt2, hlf, h0, h1, fd_spot, fd_cells, set2, set_spot, mkLst, e1, dLen, hp, hc2, hb, hs, set_left, fin]
        · refine ⟨mixC (mixB (mixA c (dr + 1)) (dr + 1)) % m, sp + 1, lf, dr + 1, ?_, bd _⟩
          simp [startD, fd_drawn, set_drawn, fd_left, dInt, dInt2, hlf, h0, h1, fd_spot, fd_cells, set2, set_spot, mkLst, e1, dLen, hp, hc2, hb, hs, dMulS, m1, m2, m3, m4, mixA, mixB, mixC, fin]
      · refine ⟨mixC (mixB (mixA c (dr + 1)) (dr + 1)) % m, sp + 1, lf, dr + 1, ?_, bd _⟩
        simp [startD, fd_drawn, set_drawn, fd_left, dInt, dInt2, hlf, h0, h1, fd_spot, fd_cells, set2, set_spot, mkLst, e1, dLen, hp, hc2, hb, dMulS, m1, m2, m3, m4, mixA, mixB, mixC, fin]
theorem q_feed {ns : List Int} (hn : ns.length ≤ 63) (st : Sto) : F__law_feed [Gs (ns.map .int)] st = .ok (Rf st.length) (st ++ [fd (ns.map .int) 0 0 0]) := by
  unfold F__law_feed b__law_feed
  rw [fnK_e]
  have cut : cutD (ns.map PyData.int) none (some 63) = ns.map .int := by
    rw [show (some (63 : Int)) = some (((63 : Nat)) : Int) from rfl, cut_to, List.take_of_length_le (by rw [List.length_map]; exact hn)]
  have lc : mLc (mIter (mSl (mVar 0) (moNone) (moSome (mC (.int 63))))) (.nm 1) (tYesM) (mInt (mVar 1)) [1] [some (Gs (ns.map .int)), none] st = .ok (.list (ns.map .int)) st := by
    have := mLc_all (mi := mIter (mSl (mVar 0) (moNone) (moSome (mC (.int 63))))) (t := .nm 1) (te := mInt (mVar 1)) (vs := [1]) (sl := [some (Gs (ns.map .int)), none]) (st := st) (keep := always) (ds := ns.map .int) id (by simp [fSl, cut]) trivial (by rw [List.length_map]; exact sz_le (by omega)) fun d hd => by
      obtain ⟨i, _, rfl⟩ := List.mem_map.mp hd
      exact ⟨_, rfl, by simp [wipeD, dInt]⟩
    rw [this, List.map_id]
  simp [startD, mDct, pairsM, keyOf, mergeD, putD, fd, lc]
theorem ints_ns (ns : List Int) : IntsD (ns.map PyData.int) := fun c hc => by
  obtain ⟨i, _, e⟩ := List.mem_map.mp hc
  exact ⟨i, e.symm⟩
theorem q_any {xs : List Pv.D} (hcs : IntsD cs) (hl : cs.length ≤ 63) (hne : xs ≠ []) (hx : xs.length ≤ 1000000) :
    ∃ x sp' lf' dr', F__law_pick [Rf pre.length, .list xs] (pre ++ fd cs sp lf dr :: st) = .ok x (pre ++ fd cs sp' lf' dr' :: st) ∧ x ∈ xs := by
  have hp : 0 < xs.length := Nat.pos_of_ne_zero fun z => hne (List.length_eq_zero_iff.mp z)
  obtain ⟨r, sp', lf', dr', e, h0, h1⟩ := q_draw (pre := pre) (sp := sp) (lf := lf) (dr := dr) (st := st) (m := (xs.length : Int)) hcs hl (by omega) (by omega)
  obtain ⟨j, hj⟩ : ∃ j : Nat, r = (j : Int) := ⟨_, (Int.toNat_of_nonneg h0).symm⟩
  subst hj
  have hlt : j < xs.length := by omega
  have fin : ∀ (d : Pv.D) (sp lf dr : Int), finR (pre.length + (st.length + 1)) (.ok d (pre ++ fd cs sp lf dr :: st)) = .ok d (pre ++ fd cs sp lf dr :: st) := fun d sp lf dr => fin_same (by simp)
  refine ⟨xs[j], sp', lf', dr', ?_, List.getElem_mem hlt⟩
  unfold F__law_pick b__law_pick
  rw [fnP_e]
  simp [startD, e, ix_l (List.getElem?_eq_getElem hlt), fin]
theorem q_anyT {xs : List Pv.D} (hcs : IntsD cs) (hl : cs.length ≤ 63) (hne : xs ≠ []) (hx : xs.length ≤ 1000000) :
    ∃ x sp' lf' dr', F__law_pick [Rf pre.length, .tuple xs] (pre ++ fd cs sp lf dr :: st) = .ok x (pre ++ fd cs sp' lf' dr' :: st) ∧ x ∈ xs := by
  have hp : 0 < xs.length := Nat.pos_of_ne_zero fun z => hne (List.length_eq_zero_iff.mp z)
  obtain ⟨r, sp', lf', dr', e, h0, h1⟩ := q_draw (pre := pre) (sp := sp) (lf := lf) (dr := dr) (st := st) (m := (xs.length : Int)) hcs hl (by omega) (by omega)
  obtain ⟨j, hj⟩ : ∃ j : Nat, r = (j : Int) := ⟨_, (Int.toNat_of_nonneg h0).symm⟩
  subst hj
  have hlt : j < xs.length := by omega
  have fin : ∀ (d : Pv.D) (sp lf dr : Int), finR (pre.length + (st.length + 1)) (.ok d (pre ++ fd cs sp lf dr :: st)) = .ok d (pre ++ fd cs sp lf dr :: st) := fun d sp lf dr => fin_same (by simp)
  refine ⟨xs[j], sp', lf', dr', ?_, List.getElem_mem hlt⟩
  unfold F__law_pick b__law_pick
  rw [fnP_e]
  simp [startD, e, ix_t (List.getElem?_eq_getElem hlt), fin]
end
end Gstampahead_k12_stamps_read
set_option Elab.async false
set_option linter.all false
set_option maxRecDepth 100000
set_option maxHeartbeats 1000000
set_option pp.maxSteps 1500
namespace Gstampahead_k12_stamps_read
open PySem PySem.Spec Pv
open L2 hiding keyOf
open PyProof.Rows hiding St signs cutD pairD
/-! ### part: int -/
section
variable {st : Sto} {x : Pv.D}
theorem q_int (h : Cl x) : F_is_integer [x] st = .ok (.bool (isIntD x)) st := by
  unfold F_is_integer b_is_integer
  rw [fnP_e]
  cases x with
  | dict k => exact h.nodict.elim
  | _ => simp [startD, Ty.sub, isIntD]
theorem q_num (h : Cl x) : F_is_number [x] st = .ok (.bool (isNumD x)) st := by
  unfold F_is_number b_is_number
  rw [fnP_e]
  cases x with
  | dict k => exact h.nodict.elim
  | _ => simp [startD, isIntD, isNumD, q_int h]
end
/-! ### part: want -/
section
variable {st : Sto} {n : Net}
theorem q_want (hs : StC st) (b : Bool) {w : Str} (hw : (PyData.str w).canLay0 = true) : F_want [.bool b, .str w] st = if b = true then .ok .none st else .exc ("NotUsable", [("at", .int (-1)), ("word", .str w)]) st := by
  unfold F_want b_want
  rw [fnP_e]
  cases b with
  | true => simp [startD]
  | false =>
    simp [startD, dNeg, excOf]
end
/-! ### part: same -/
section
variable {st : Sto}
theorem q_same {xs : List Pv.D} {k : Nat} (ho : Ok (.list xs) (2 ^ 20) k) (hk : k ≤ 100) : F__law_same [Rf st.length, .list xs] (st ++ [.lst xs]) = .ok (.bool true) (st ++ [.lst xs]) := by
  unfold F__law_same b__law_same
  rw [fnP_e]
  have h1 : ∀ st, reprD st (.list xs) = some (.str (PyData.list xs).shown) := fun st => repr_ok ho (by decide) hk st
  have f : ∀ d, finR (st.length + 1) (.ok d (st ++ [.lst xs])) = .ok d (st ++ [.lst xs]) := fun d => fin_same (by simp)
  simp [startD, repr_last, h1, f]
end
section
variable {st : Sto}
theorem q_sameL {xs : List Pv.D} {k : Nat} (ho : Ok (.list xs) (2 ^ 20) k) (hk : k ≤ 100) : F__law_same [.list xs, .list xs] st = .ok (.bool true) st := by
  unfold F__law_same b__law_same
  rw [fnP_e]
  have h1 : ∀ st, reprD st (.list xs) = some (.str (PyData.list xs).shown) := fun st => repr_ok ho (by decide) hk st
  simp [startD, h1]
end
section
variable {st : Sto}
theorem q_sameF {x y s : Pv.D} (hx : reprF st x = some s) (hy : reprF st y = some s) (hs : ∃ z, s = .str z) : F__law_same [x, y] st = .ok (.bool true) st := by
  obtain ⟨z, rfl⟩ := hs
  unfold F__law_same b__law_same
  rw [fnP_e]
  have e : ∀ (a : M) sl st, mReprF a sl st = (a sl st).bind fun d st => lift (reprF st d) st := fun _ _ _ => rfl
  simp [-e_reprF, e, startD, hx, hy]
end
/-! ### part: num12 -/
section
variable {st : Sto}
open PySem.NumText in
def isDig (c : Nat) : Bool := decide (c ∈ (Str.ofString "0123456789").cps.toList)
theorem isDig_iff (c : Nat) : isDig c = true ↔ 48 ≤ c ∧ c ≤ 57 := by
  have e : (Str.ofString "0123456789").cps.toList = [48, 49, 50, 51, 52, 53, 54, 55, 56, 57] := by decide +kernel
  unfold isDig
  rw [e, decide_eq_true_eq]
  simp only [List.mem_cons, List.not_mem_nil, or_false]
  omega
theorem in_dig (c : Nat) : dCmp .In (.str ⟨#[c]⟩) (.str "0123456789") = some (.bool (isDig c)) := by
  show some (PyData.bool (strIn ⟨#[c]⟩ "0123456789")) = _
  unfold strIn isDig
  rw [PySem.StrLaws.found_one]
theorem notin_dig (c : Nat) : dCmp .NotIn (.str ⟨#[c]⟩) (.str "0123456789") = some (.bool (!isDig c)) := by
  show some (PyData.bool (!strIn ⟨#[c]⟩ "0123456789")) = _
  unfold strIn isDig
  rw [PySem.StrLaws.found_one]
def allDig (z : Str) : Bool := z.cps.toList.all isDig
def valT (z : Str) : Nat := PySem.NumText.digitsVal z.cps.toList
theorem len_cps (z : Str) : z.cps.toList.length = z.length := by simp [Str.length]
theorem int_dig {z : Str} (h : allDig z = true) (h1 : 1 ≤ z.length) (h2 : z.length ≤ 60) : dInt (.str z) = some (.int (valT z : Int)) := by
  show (if z.length ≤ 640 then (PySem.intText? z).map PyData.int else none) = _
  rw [if_pos (by omega), PySem.intText_digits (fun c hc => (isDig_iff c).mp (List.all_eq_true.mp h c hc)) (fun e => by have := len_cps z; rw [e] at this; simp at this; omega) (by omega)]
  rfl
/-- the number that a word writes -/
def numT (z : Str) : Option Nat := if 1 ≤ z.length ∧ z.length ≤ 60 ∧ allDig z = true then (if z.cps.toList.head? = some 48 ∧ ¬ (z == Str.ofString "0") = true then none else some (valT z)) else none
theorem head_eq {z : Str} {c : Nat} (h : z.cps.toList.head? = some c) (x : Nat) : ((⟨#[c]⟩ : Str) == ⟨#[x]⟩) = decide (z.cps.toList.head? = some x) := by
  rw [h]
  have : ((⟨#[c]⟩ : Str) == ⟨#[x]⟩) = decide ((⟨#[c]⟩ : Str) = ⟨#[x]⟩) := by
    rw [Bool.eq_iff_iff]; simp
  rw [this]
  congr 1
  simp
theorem ix_s0 {z : Str} {c : Nat} (hl : z.length ≤ 1000) (h : z.cps.toList.head? = some c) (st : Sto) : fIx (.str z) (.int 0) st = .ok (.str ⟨#[c]⟩) st := by
  have e : dIx (.str z) (.int 0) = some (.str ⟨#[c]⟩) := by
    show (if z.length ≤ sizeLine then (atI z.cps.toList 0).map fun c => PyData.str ⟨#[c]⟩ else none) = _
    rw [if_pos (sz_le hl)]
    cases hz : z.cps.toList with
    | nil => rw [hz] at h; cases h
    | cons a l =>
      rw [hz] at h
      cases h
      unfold atI ixN
      simp
  unfold fIx dlook
  simp [e]
theorem head_some {z : Str} (h : 1 ≤ z.length) : ∃ c, z.cps.toList.head? = some c := by
  have := len_cps z
  cases hz : z.cps.toList with
  | nil => rw [hz] at this; simp at this; omega
  | cons a l => exact ⟨a, rfl⟩
theorem lc_signs (z : Str) (hl : z.length ≤ 1000) (s1 : Option Pv.D) (st : Sto) : mLc (mIter (mVar 0)) (.nm 1) (tYesM) (mCmp .In (mVar 1) (mC (.str "0123456789"))) [1] [some (.str z), s1] st = .ok (.list (z.cps.toList.map fun c => .bool (isDig c))) st := by
  refine mLc_at (keep := always) z.cps.toList (fun c => .str ⟨#[c]⟩) _ (by simp; rfl) trivial (by rw [len_cps]; exact hl) fun c _ => ⟨_, rfl, ?_⟩
  have e := in_dig c
  simp -implicitDefEqProofs [wipeD, e]
theorem chain_len {n : Nat} : ∀ (a : M) (sl : Sl) (st : Sto), a sl st = .ok (.int (n : Int)) st → mTb (mChain .LtE .LtE (mC (.int 1)) a (mC (.int 60))) sl st = .ok (decide (1 ≤ n) && decide (n ≤ 60)) st := by
  intro a sl st h
  by_cases h1 : 1 ≤ n
  · have h1' : (1 : Int) ≤ (n : Int) := by omega
    by_cases h2 : n ≤ 60
    · have h2' : (n : Int) ≤ 60 := by omega
      simp -implicitDefEqProofs [h, h1', h2', h1, h2]
    · have h2' : ¬ (n : Int) ≤ 60 := by omega
      simp -implicitDefEqProofs [h, h1', h2', h1, h2]
  · have h1' : ¬ (1 : Int) ≤ (n : Int) := by omega
    simp -implicitDefEqProofs [h, h1', h1]
theorem cmp_s (a b : Str) : dCmp .Eq (.str a) (.str b) = some (.bool (a == b)) := rfl
theorem cmp_sn (a b : Str) : dCmp .NotEq (.str a) (.str b) = some (.bool (!(a == b))) := rfl
def optI : Option Nat → Pv.D
  | none => .none
  | some n => .int (n : Int)
theorem q_number_of {z : Str} (hl : z.length ≤ 1000) : F_number_of [.str z] st = .ok (optI (numT z)) st := by
  have hs : z.length ≤ sizeLine := sz_le hl
  have ln : ∀ st, mLen (mVar 0) [some (.str z), none] st = .ok (.int (z.length : Int)) st := fun st => by simp [len_s hs]
  have lc := lc_signs z hl none st
  have ch := chain_len (mLen (mVar 0)) [some (.str z), none] st (ln st)
  unfold F_number_of b_number_of
  rw [fnP_e]
  unfold numT
  by_cases h1 : 1 ≤ z.length ∧ z.length ≤ 60
  · rw [show (decide (1 ≤ z.length) && decide (z.length ≤ 60)) = true by simp [h1]] at ch
    cases hd : allDig z with
    | false =>
      have al : dAll (.list (z.cps.toList.map fun c => PyData.bool (isDig c))) = some (.bool false) := by rw [all_map]; exact congrArg (fun b => some (PyData.bool b)) hd
      simp -implicitDefEqProofs [-e_tb, startD, ch, lc, al, h1, optI]
    | true =>
      have al : dAll (.list (z.cps.toList.map fun c => PyData.bool (isDig c))) = some (.bool true) := by rw [all_map]; exact congrArg (fun b => some (PyData.bool b)) hd
      obtain ⟨c, hc⟩ := head_some h1.1
      have i0 := fun st => ix_s0 hl hc st
      have e0 : dCmp .Eq (.str ⟨#[c]⟩) (.str "0") = some (.bool (decide (z.cps.toList.head? = some 48))) := by
        rw [cmp_s]; exact congrArg (fun b => some (PyData.bool b)) (head_eq hc 48)
      have e1 := cmp_sn z "0"
      have iv := int_dig hd h1.1 h1.2
      by_cases g1 : z.cps.toList.head? = some 48
      · cases g2 : z == Str.ofString "0" with
        | false => simp -implicitDefEqProofs [-e_tb, startD, ch, lc, al, h1, i0, e0, e1, g1, g2, optI]; simp -implicitDefEqProofs [i0, e0, e1, g1, g2]
        | true => simp -implicitDefEqProofs [-e_tb, startD, ch, lc, al, h1, i0, e0, e1, g1, g2, optI]; simp -implicitDefEqProofs [i0, e0, e1, g1, g2, iv]
      · simp -implicitDefEqProofs [-e_tb, startD, ch, lc, al, h1, i0, e0, e1, g1, optI]; simp -implicitDefEqProofs [i0, e0, e1, g1, iv]
  · have : (decide (1 ≤ z.length) && decide (z.length ≤ 60)) = false := by
      rw [Bool.and_eq_false_iff, decide_eq_false_iff_not, decide_eq_false_iff_not]
      omega
    rw [this] at ch
    have hn : ¬ (1 ≤ z.length ∧ z.length ≤ 60 ∧ allDig z = true) := fun h => h1 ⟨h.1, h.2.1⟩
    rw [if_neg hn]
    simp -implicitDefEqProofs [-e_tb, startD, ch, optI]
end
/-! ### part: split12 -/
section
theorem spl_le (S : List Nat) : ∀ (k : Nat) (acc L : List Nat), ∀ p ∈ TL.spl S k acc L, p.length ≤ acc.length + L.length
  | k, acc, [], p, hp => by
    rw [TL.spl_nil] at hp
    rw [List.mem_singleton.mp hp]; omega
  | 0, acc, c :: r, p, hp => by
    unfold TL.spl at hp
    split at hp
    · rcases List.mem_cons.mp hp with q | q
      · rw [q]; omega
      · have := spl_le S _ [] r p q
        simp at this ⊢; omega
    · have := spl_le S 0 (acc ++ [c]) r p hp
      simp at this ⊢; omega
  | k + 1, acc, _ :: r, p, hp => by
    unfold TL.spl at hp
    have := spl_le S k acc r p hp
    simp at this ⊢; omega
theorem spl_cnt (S : List Nat) : ∀ (k : Nat) (acc L : List Nat), (TL.spl S k acc L).length ≤ L.length + 1
  | k, acc, [] => by rw [TL.spl_nil]; simp
  | 0, acc, c :: r => by
    unfold TL.spl
    split
    · have := spl_cnt S (S.length - 1) [] r
      simp; omega
    · have := spl_cnt S 0 (acc ++ [c]) r
      simp; omega
  | k + 1, acc, _ :: r => by
    unfold TL.spl
    have := spl_cnt S k acc r
    simp; omega
theorem split_small (z y : Str) (hy : TL.tl y ≠ []) (hk : y.cps.all (· < 256) = true) : (∀ p ∈ Txt.split z y, p.length ≤ z.length) ∧ (Txt.split z y).length ≤ z.length + 1 := by
  have e := TL.split_spl z y hy (TL.kind_ok hk)
  have lz : (TL.tl z).length = z.length := (TL.len_tl z).symm
  constructor
  · intro p hp
    have : TL.tl p ∈ (Txt.split z y).map TL.tl := List.mem_map.mpr ⟨p, hp, rfl⟩
    rw [e] at this
    have := spl_le _ 0 [] _ _ this
    rw [TL.len_tl p]
    simp only [List.length_nil, Nat.zero_add] at this
    omega
  · have h := spl_cnt (TL.tl y) 0 [] (TL.tl z)
    rw [← e, List.length_map] at h
    omega
end
/-! ### part: stamp12 -/
section
variable {st : Sto}
theorem dot_small (z : Str) : (∀ p ∈ Txt.split z (Str.ofString "."), p.length ≤ z.length) ∧ (Txt.split z (Str.ofString ".")).length ≤ z.length + 1 := split_small z _ (by decide +kernel) (by decide +kernel)
def lowT (z : Str) : Bool := cutS z none (some 1) == Str.ofString "-"
/-- the integer that a word writes -/
def intT (z : Str) : Option Int := if lowT z = true then (match numT (cutS z (some 1) none) with | some (n + 1) => some (-((n + 1 : Nat) : Int)) | _ => none) else (match numT z with | none => none | some n => some (n : Int))
def optZ : Option Int → Pv.D
  | none => .none
  | some n => .int n
theorem q_integer_of {z : Str} (hl : z.length ≤ 1000) : F_integer_of [.str z] st = .ok (optZ (intT z)) st := by
  have hs : z.length ≤ sizeLine := sz_le hl
  have c1 : ∀ st, fSl none (some 1) (.str z) st = .ok (.str (cutS z none (some 1))) st := fun st => by show (if z.length ≤ sizeLine then _ else _) = _; rw [if_pos hs]
  have c2 : ∀ st, fSl (some 1) none (.str z) st = .ok (.str (cutS z (some 1) none)) st := fun st => by show (if z.length ≤ sizeLine then _ else _) = _; rw [if_pos hs]
  have cl : (cutS z (some 1) none).length ≤ 1000 := Nat.le_trans (L2.cutS_length z _ _) hl
  have q1 := fun st => q_number_of (st := st) hl
  have q2 := fun st => q_number_of (st := st) cl
  have cn := cmp_sn (cutS z none (some 1)) "-"
  unfold F_integer_of b_integer_of
  rw [fnP_e]
  unfold intT lowT
  cases hw : cutS z none (some 1) == Str.ofString "-" with
  | false =>
    rw [hw] at cn
    cases hn : numT z with
    | none => simp -implicitDefEqProofs [startD, c1, cn, q1, hn, optI, optZ]
    | some n => simp -implicitDefEqProofs [startD, c1, cn, q1, hn, optI, optZ]
  | true =>
    rw [hw] at cn
    cases hn : numT (cutS z (some 1) none) with
    | none => simp -implicitDefEqProofs [startD, c1, cn, c2, q2, hn, optI, optZ]
    | some n =>
      cases n with
      | zero => simp -implicitDefEqProofs [startD, c1, cn, c2, q2, hn, optI, optZ]
      | succ n =>
        have h0 : ¬ ((n : Int) + 1 = 0) := by omega
        simp -implicitDefEqProofs [startD, c1, cn, c2, q2, hn, optI, optZ, dNeg, h0]
/-- the stamp that a text writes -/
def stamp2 : List Str → Option (Int × Nat)
  | [a, b] => (match intT a, numT b with | some i, some n => some (i, n) | _, _ => none)
  | _ => none
def stampT (z : Str) : Option (Int × Nat) := stamp2 (Txt.split z (Str.ofString "."))
theorem stamp2_no {parts : List Str} (h : parts.length ≠ 2) : stamp2 parts = none := match parts, h with
  | [], _ => rfl
  | [_], _ => rfl
  | [_, _], h => absurd rfl h
  | _ :: _ :: _ :: _, _ => rfl
def stampR (z : Str) (l f : Int) (st : Sto) : R Pv.D := match stampT z with
  | some (i, n) => .ok (.tuple [.int i, .int (n : Int)]) st
  | none => .exc ("InvalidText", [("field", .int f), ("line", .int l)]) st
theorem in_none (a b : Pv.D) (ha : a = .none ∨ ∃ i, a = .int i) (hb : b = .none ∨ ∃ i, b = .int i) : dCmp .In .none (.tuple [a, b]) = some (.bool (isNone a || isNone b)) := by
  rcases ha with rfl | ⟨i, rfl⟩ <;> rcases hb with rfl | ⟨j, rfl⟩ <;> rfl
theorem q_stamp_read (hs : StC st) {z : Str} (hl : z.length ≤ 900) {l f : Nat} (h1 : l ≤ 1000) (h2 : f ≤ 1000) : F_stamp_read [.str z, .int (l : Int), .int (f : Int)] st = stampR z l f st := by
  have hz : z.length + 2 ≤ sizeLine := sz_le (by omega)
  have wt := q_want (st := st) hs true (w := "text") (by decide +kernel)
  have wl := q_want (st := st) hs true (w := "line") (by decide +kernel)
  have wf := q_want (st := st) hs true (w := "field") (by decide +kernel)
  have n1 := q_num (st := st) (cl_int (i := (l : Int)) (by omega))
  have n2 := q_num (st := st) (cl_int (i := (f : Int)) (by omega))
  have i1 : isNumD (.int (l : Int)) = true := by unfold isNumD; simp
  have i2 : isNumD (.int (f : Int)) = true := by unfold isNumD; simp
  rw [i1] at n1
  rw [i2] at n2
  obtain ⟨d1, d2⟩ := dot_small z
  have sp : fSplit z (.str ".") st = .ok (.list ((Txt.split z (Str.ofString ".")).map .str)) st := by
    show (if _ then _ else _) = _
    rw [if_pos ⟨by decide +kernel, hz⟩]
  have exc : finR st.length (.exc ("InvalidText", [("field", .int (f : Int)), ("line", .int (l : Int))]) st) = .exc ("InvalidText", [("field", .int (f : Int)), ("line", .int (l : Int))]) st := fin_excN
  unfold F_stamp_read b_stamp_read
  rw [fnP_e]
  unfold stampR stampT
  generalize hparts : Txt.split z (Str.ofString ".") = parts at d1 sp
  have l0 : ∀ (a b : Pv.D) st, fIx (.list [a, b]) (.int 0) st = .ok a st := fun a b st => ix_l (j := 0) rfl
  have l1 : ∀ (a b : Pv.D) st, fIx (.list [a, b]) (.int 1) st = .ok b st := fun a b st => ix_l (j := 1) rfl
  by_cases hlen : parts.length = 2
  case neg =>
    have hl2 : ¬ ((parts.length : Int) = 2) := by omega
    have inn := in_none .none .none (.inl rfl) (.inl rfl)
    rw [stamp2_no hlen]
    simp -implicitDefEqProofs [startD, Ty.sub, wt, n1, wl, n2, wf, sp, hl2, mkTup, sz_le, inn, excOf, exc]
  case pos =>
    obtain ⟨a, b, rfl⟩ : ∃ a b, parts = [a, b] := by
      match parts, hlen with
      | [a, b], _ => exact ⟨a, b, rfl⟩
    have la : a.length ≤ 1000 := by have := d1 a (by simp); omega
    have lb : b.length ≤ 1000 := by have := d1 b (by simp); omega
    have qa := q_integer_of (st := st) la
    have qb := q_number_of (st := st) lb
    cases ha : intT a with
    | none =>
      rw [ha] at qa
      cases hb : numT b with
      | none =>
        rw [hb] at qb
        have inn := in_none .none .none (.inl rfl) (.inl rfl)
        simp -implicitDefEqProofs [startD, Ty.sub, wt, n1, wl, n2, wf, sp, mkTup, sz_le, l0, l1, qa, qb, stamp2, ha, hb, optZ, optI, inn, excOf, exc]
      | some n =>
        rw [hb] at qb
        have inn := in_none .none (.int (n : Int)) (.inl rfl) (.inr ⟨_, rfl⟩)
        simp -implicitDefEqProofs [startD, Ty.sub, wt, n1, wl, n2, wf, sp, mkTup, sz_le, l0, l1, qa, qb, stamp2, ha, hb, optZ, optI, inn, excOf, exc]
    | some i =>
      rw [ha] at qa
      cases hb : numT b with
      | none =>
        rw [hb] at qb
        have inn := in_none (.int i) .none (.inr ⟨_, rfl⟩) (.inl rfl)
        simp -implicitDefEqProofs [startD, Ty.sub, wt, n1, wl, n2, wf, sp, mkTup, sz_le, l0, l1, qa, qb, stamp2, ha, hb, optZ, optI, inn, excOf, exc]
      | some n =>
        rw [hb] at qb
        have inn := in_none (.int i) (.int (n : Int)) (.inr ⟨_, rfl⟩) (.inr ⟨_, rfl⟩)
        simp -implicitDefEqProofs [startD, Ty.sub, wt, n1, wl, n2, wf, sp, mkTup, sz_le, l0, l1, qa, qb, stamp2, ha, hb, optZ, optI, inn]
end
/-! ### part: law12 -/
section
variable {st : Sto}
theorem q_heardB (hs : StC st) (l f : Int) : sF__law_heard (.exc ("InvalidText", [("field", .int f), ("line", .int l)]) st) = .ok (.tuple [.str "text", .int l, .int f]) st := by
  unfold sF__law_heard saidR
  dsimp only
  rw [if_pos (by decide)]
  unfold handR b__law_heard b__law_error
  have z : ∀ st : Sto, finR st.length (R.ok (.tuple [.str "text", .int l, .int f]) st) = .ok (.tuple [.str "text", .int l, .int f]) st := fun st => by unfold finR; simp
  simp [mCallE, okOnly, slE, exD, mkLst, mkLstM, isLst, fApp, isLstD, fCnt, cntD, mkTup, deref, sz_le, sz_lt, PyData.canLayAll0, PyData.canLay0, PyData.depthAll, PyData.depth, PyData.eqv, fIx, dlook, dIx, atI, ixN, dAddT, nmD, List.lookup_cons, startD, z]
theorem q_heardU (hs : StC st) (w : Str) (k : Int) : sF__law_heard (.exc ("NotUsable", [("at", .int k), ("word", .str w)]) st) = .ok (.tuple [.str "no", .str w, .int k]) st := by
  unfold sF__law_heard saidR
  dsimp only
  rw [if_pos (by decide)]
  unfold handR b__law_heard b__law_error
  have z : ∀ st : Sto, finR st.length (R.ok (.tuple [.str "no", .str w, .int k]) st) = .ok (.tuple [.str "no", .str w, .int k]) st := fun st => by unfold finR; simp
  simp [mCallE, okOnly, slE, exD, mkLst, mkLstM, isLst, fApp, isLstD, fCnt, cntD, mkTup, deref, sz_le, sz_lt, PyData.canLayAll0, PyData.canLay0, PyData.depthAll, PyData.depth, PyData.eqv, fIx, dlook, dIx, atI, ixN, dAddT, nmD, List.lookup_cons, startD, z]
theorem q_heardT (d : Pv.D) : sF__law_heard (.ok d st) = .ok (.tuple [.str "told", d]) st := rfl
def sizeI : Option Nat → Int
  | none => -1
  | some n => (n : Int)
theorem q_size {z : Str} (hc : (PyData.str z).canLay0 = true) (hl : z.length ≤ 1000) : F__law_size [.str z] st = .ok (.int (sizeI (numT z))) st := by
  have hs : z.length ≤ sizeLine := sz_le hl
  have ln : ∀ st, mLen (mVar 0) [some (.str z), none] st = .ok (.int (z.length : Int)) st := fun st => by simp [len_s hs]
  have ch := chain_len (mLen (mVar 0)) [some (.str z), none] st (ln st)
  have lc : mLc (mIter (mVar 0)) (.nm 1) (mTb (mCmp .NotIn (mVar 1) (mC (.str "0123456789")))) (mVar 1) [1] [some (.str z), none] st = .ok (.list ((z.cps.toList.filter fun c => !isDig c).map fun c => .str ⟨#[c]⟩)) st := by
    refine mLc_if (keep := always) z.cps.toList (fun c => .str ⟨#[c]⟩) _ _ (by simp; rfl) trivial (by rw [len_cps]; exact hl) fun c _ => ⟨_, rfl, ?_, fun _ => by simp [wipeD]⟩
    have e := notin_dig c
    simp -implicitDefEqProofs [wipeD, e]
  have lay : PyData.canLayAll0 ((z.cps.toList.filter fun c => !isDig c).map fun c => PyData.str ⟨#[c]⟩) = true := (layAll_iff _).mpr fun d hd => by
    obtain ⟨c, hc2, rfl⟩ := List.mem_map.mp hd
    have hz : z.cps.all (· < 0x110000) = true := by simpa only [PyData.canLay0, PyData.strOk] using hc
    have := Array.all_eq_true'.mp hz c (by simpa using (List.mem_filter.mp hc2).1)
    simpa [PyData.canLay0, PyData.strOk] using this
  have ne := cmp_ne_nilL lay
  have emp : ((z.cps.toList.filter fun c => !isDig c).map fun c => PyData.str ⟨#[c]⟩).isEmpty = allDig z := by
    unfold allDig
    rw [List.isEmpty_map, Bool.eq_iff_iff, List.isEmpty_iff, List.filter_eq_nil_iff, List.all_eq_true]
    simp
  rw [emp] at ne
  unfold F__law_size b__law_size
  rw [fnP_e]
  unfold numT
  by_cases h1 : 1 ≤ z.length ∧ z.length ≤ 60
  · rw [show (decide (1 ≤ z.length) && decide (z.length ≤ 60)) = true by simp [h1]] at ch
    cases hd : allDig z with
    | false =>
      rw [hd] at ne
      simp -implicitDefEqProofs [-e_tb, startD, ch, lc, h1, mkLst, sz_le]
      simp -implicitDefEqProofs [lc, mkLst, sz_le, ne, dNeg, sizeI]
    | true =>
      rw [hd] at ne
      obtain ⟨c, hc⟩ := head_some h1.1
      have i0 := fun st => ix_s0 hl hc st
      have e0 : dCmp .NotEq (.str ⟨#[c]⟩) (.str "0") = some (.bool (!decide (z.cps.toList.head? = some 48))) := by
        rw [cmp_sn]; exact congrArg (fun b => some (PyData.bool (!b))) (head_eq hc 48)
      have e1 := cmp_s z "0"
      have iv := int_dig hd h1.1 h1.2
      by_cases g1 : z.cps.toList.head? = some 48
      · cases g2 : z == Str.ofString "0" with
        | false => simp -implicitDefEqProofs [-e_tb, startD, ch, lc, h1, mkLst, sz_le]; simp -implicitDefEqProofs [lc, mkLst, sz_le, ne, i0, e0, e1, g1, g2, dNeg, sizeI]
        | true => simp -implicitDefEqProofs [-e_tb, startD, ch, lc, h1, mkLst, sz_le]; simp -implicitDefEqProofs [lc, mkLst, sz_le, ne, i0, e0, e1, g1, g2, iv, sizeI]
      · cases g2 : z == Str.ofString "0" with
        | false => simp -implicitDefEqProofs [-e_tb, startD, ch, lc, h1, mkLst, sz_le]; simp -implicitDefEqProofs [lc, mkLst, sz_le, ne, i0, e0, e1, g1, g2, iv, sizeI]
        | true => simp -implicitDefEqProofs [-e_tb, startD, ch, lc, h1, mkLst, sz_le]; simp -implicitDefEqProofs [lc, mkLst, sz_le, ne, i0, e0, e1, g1, g2, iv, sizeI]
  · have : (decide (1 ≤ z.length) && decide (z.length ≤ 60)) = false := by
      rw [Bool.and_eq_false_iff, decide_eq_false_iff_not, decide_eq_false_iff_not]
      omega
    rw [this] at ch
    have hn : ¬ (1 ≤ z.length ∧ z.length ≤ 60 ∧ allDig z = true) := fun h => h1 ⟨h.1, h.2.1⟩
    rw [if_neg hn]
    simp -implicitDefEqProofs [-e_tb, startD, ch, dNeg, sizeI]
end
/-! ### part: due12 -/
section
variable {st : Sto}
theorem val_lt : ∀ (cs : List Nat) (acc : Nat), (∀ c ∈ cs, 48 ≤ c ∧ c ≤ 57) → cs.foldl (fun acc c => acc * 10 + (c - 48)) acc < (acc + 1) * 10 ^ cs.length
  | [], acc, _ => by simp
  | c :: cs, acc, h => by
    have hc := h c List.mem_cons_self
    have := val_lt cs (acc * 10 + (c - 48)) fun d hd => h d (List.mem_cons_of_mem _ hd)
    rw [List.foldl_cons, List.length_cons, Nat.pow_succ]
    refine Nat.lt_of_lt_of_le this ?_
    rw [Nat.mul_comm (10 ^ cs.length) 10, ← Nat.mul_assoc]
    exact Nat.mul_le_mul_right _ (by omega)
theorem numT_lt {z : Str} {n : Nat} (h : numT z = some n) : n < 10 ^ 60 := by
  unfold numT at h
  split at h
  · rename_i hc
    split at h
    · cases h
    · cases h
      have := val_lt z.cps.toList 0 fun c hx => (isDig_iff c).mp (List.all_eq_true.mp hc.2.2 c hx)
      rw [len_cps] at this
      have this : valT z < 10 ^ z.length := by simpa [valT, PySem.NumText.digitsVal] using this
      exact Nat.lt_of_lt_of_le this (Nat.pow_le_pow_right (by decide) hc.2.1)
  · cases h
theorem intT_lt {z : Str} {i : Int} (h : intT z = some i) : i.natAbs < 10 ^ 60 := by
  unfold intT at h
  split at h
  · cases hn : numT (cutS z (some 1) none) with
    | none => rw [hn] at h; cases h
    | some n =>
      rw [hn] at h
      cases n with
      | zero => cases h
      | succ n =>
        cases h
        have := numT_lt hn
        omega
  · cases hn : numT z with
    | none => rw [hn] at h; cases h
    | some n =>
      rw [hn] at h
      cases h
      have := numT_lt hn
      omega
def dueD (z : Str) (l f : Int) : Pv.D := match stampT z with
  | some (i, n) => .tuple [.str "told", .tuple [.int i, .int (n : Int)]]
  | none => .tuple [.str "text", .int l, .int f]
theorem due_ok (z : Str) {l f : Nat} (h1 : l ≤ 1000) (h2 : f ≤ 1000) : Ok (dueD z l f) 1000 3 := by
  have hw : ∀ w : Str, (PyData.str w).canLay0 = true → w.length ≤ 20 → Ok (.str w) 204 1 := fun w a b => (ok_str a b).mono (by decide) (by decide)
  unfold dueD
  cases hs : stampT z with
  | none =>
    exact (Ok.tup (m := 204) (k := 1) (c := 3) (fun d hd => by
      simp only [List.mem_cons, List.not_mem_nil, or_false] at hd
      rcases hd with rfl | rfl | rfl
      · exact hw _ (by decide +kernel) (by decide +kernel)
      · exact (ok_int (by omega)).mono (by decide) (by decide)
      · exact (ok_int (by omega)).mono (by decide) (by decide)) (by simp)).mono (by decide) (by decide)
  | some p =>
    obtain ⟨i, n⟩ := p
    have hb : i.natAbs < 10 ^ 60 ∧ n < 10 ^ 60 := by
      unfold stampT at hs
      generalize Txt.split z (Str.ofString ".") = parts at hs
      match parts, hs with
      | [a, b], hs =>
        cases ha : intT a with
        | none => simp only [stamp2, ha] at hs; cases hs
        | some i' =>
          cases hb : numT b with
          | none => simp only [stamp2, ha, hb] at hs; cases hs
          | some n' =>
            simp only [stamp2, ha, hb] at hs
            cases hs
            exact ⟨intT_lt ha, numT_lt hb⟩
    have h2 : Ok (.tuple [.int i, .int (n : Int)]) 204 1 := (Ok.tup (m := 64) (k := 0) (c := 2) (fun d hd => by
      simp only [List.mem_cons, List.not_mem_nil, or_false] at hd
      rcases hd with rfl | rfl
      · exact ok_int (by omega)
      · exact ok_int (by omega)) (by simp)).mono (by decide) (by decide)
    exact (Ok.tup (m := 204) (k := 1) (c := 3) (fun d hd => by
      simp only [List.mem_cons, List.not_mem_nil, or_false] at hd
      rcases hd with rfl | rfl
      · exact hw _ (by decide +kernel) (by decide +kernel)
      · exact h2) (by simp)).mono (by decide) (by decide)
theorem cut_lay {z : Str} (h : (PyData.str z).canLay0 = true) (lo hi : Option Int) : (PyData.str (cutS z lo hi)).canLay0 = true := by
  have e : ∀ z : Str, (PyData.str z).canLay0 = true ↔ ∀ c ∈ z.cps.toList, c < 0x110000 := by
    intro z
    simp only [PyData.canLay0, PyData.strOk, Array.all_eq_true', decide_eq_true_eq, Array.mem_toList_iff]
  rw [e] at h ⊢
  intro c hc
  unfold cutS at hc
  simp only at hc
  exact h c (List.mem_of_mem_drop (List.mem_of_mem_take hc))
theorem split_lay {z : Str} (h : (PyData.str z).canLay0 = true) : ∀ p ∈ Txt.split z (Str.ofString "."), (PyData.str p).canLay0 = true := by
  have e : ∀ z : Str, (PyData.str z).canLay0 = true ↔ ∀ c ∈ z.cps.toList, c < 0x110000 := by
    intro z
    simp only [PyData.canLay0, PyData.strOk, Array.all_eq_true', decide_eq_true_eq, Array.mem_toList_iff]
  intro p hp
  rw [e] at h ⊢
  have es := TL.split_spl z (Str.ofString ".") (by decide +kernel) (TL.kind_ok (by decide +kernel))
  have hm : TL.tl p ∈ (Txt.split z (Str.ofString ".")).map TL.tl := List.mem_map.mpr ⟨p, hp, rfl⟩
  rw [es] at hm
  have sub : ∀ (S : List Nat) (k : Nat) (acc L : List Nat), ∀ q ∈ TL.spl S k acc L, ∀ c ∈ q, c ∈ acc ∨ c ∈ L := by
    intro S k acc L
    induction L generalizing k acc with
    | nil => intro q hq c hc; rw [TL.spl_nil] at hq; rw [List.mem_singleton.mp hq] at hc; exact .inl hc
    | cons a L ih =>
      intro q hq c hc
      cases k with
      | zero =>
        unfold TL.spl at hq
        split at hq
        · rcases List.mem_cons.mp hq with r | r
          · rw [r] at hc; exact .inl hc
          · rcases ih _ _ q r c hc with t | t
            · cases t
            · exact .inr (List.mem_cons_of_mem _ t)
        · rcases ih _ _ q hq c hc with t | t
          · rcases List.mem_append.mp t with u | u
            · exact .inl u
            · exact .inr (by rw [List.mem_singleton.mp u]; exact List.mem_cons_self)
          · exact .inr (List.mem_cons_of_mem _ t)
      | succ k =>
        unfold TL.spl at hq
        rcases ih _ _ q hq c hc with t | t
        · exact .inl t
        · exact .inr (List.mem_cons_of_mem _ t)
  intro c hc
  rcases sub _ _ _ _ _ hm c hc with t | t
  · cases t
  · exact h c t
theorem q_due {z : Str} (hc : (PyData.str z).canLay0 = true) (hl : z.length ≤ 900) (l f : Int) : F__law_due [.str z, .int l, .int f] st = .ok (dueD z l f) st := by
  have hz : z.length + 2 ≤ sizeLine := sz_le (by omega)
  obtain ⟨d1, d2⟩ := dot_small z
  have d3 := split_lay hc
  have sp : fSplit z (.str ".") st = .ok (.list ((Txt.split z (Str.ofString ".")).map .str)) st := by
    show (if _ then _ else _) = _
    rw [if_pos ⟨by decide +kernel, hz⟩]
  unfold F__law_due b__law_due
  rw [fnP_e]
  unfold dueD stampT
  generalize hparts : Txt.split z (Str.ofString ".") = parts at d1 d3 sp
  by_cases hlen : parts.length = 2
  case neg =>
    have hl2 : ¬ ((parts.length : Int) = 2) := by omega
    rw [stamp2_no hlen]
    simp -implicitDefEqProofs [startD, sp, hl2, mkTup, sz_le]
  case pos =>
    obtain ⟨a, b, rfl⟩ : ∃ a b, parts = [a, b] := by
      match parts, hlen with
      | [a, b], _ => exact ⟨a, b, rfl⟩
    have l0 : ∀ (a b : Pv.D) st, fIx (.list [a, b]) (.int 0) st = .ok a st := fun a b st => ix_l (j := 0) rfl
    have l1 : ∀ (a b : Pv.D) st, fIx (.list [a, b]) (.int 1) st = .ok b st := fun a b st => ix_l (j := 1) rfl
    have la : a.length ≤ 1000 := by have := d1 a (by simp); omega
    have lb : b.length ≤ 1000 := by have := d1 b (by simp); omega
    have hs : a.length ≤ sizeLine := sz_le la
    have c1 : ∀ st, fSl none (some 1) (.str a) st = .ok (.str (cutS a none (some 1))) st := fun st => by show (if a.length ≤ sizeLine then _ else _) = _; rw [if_pos hs]
    have c2 : ∀ st, fSl (some 1) none (.str a) st = .ok (.str (cutS a (some 1) none)) st := fun st => by show (if a.length ≤ sizeLine then _ else _) = _; rw [if_pos hs]
    have cl : (cutS a (some 1) none).length ≤ 1000 := Nat.le_trans (L2.cutS_length a _ _) la
    have qa := q_size (st := st) (d3 a (by simp)) la
    have qc := q_size (st := st) (cut_lay (d3 a (by simp)) (some 1) none) cl
    have qb := q_size (st := st) (d3 b (by simp)) lb
    have ce := cmp_s (cutS a none (some 1)) "-"
    have hst : stamp2 [a, b] = (match intT a, numT b with | some i, some n => some (i, n) | _, _ => none) := rfl
    rw [hst]
    unfold intT lowT
    have s2 : ∀ (sl : Sl) (d e : Pv.D) s, set2 5 6 sl [d, e] s = .nx ((sl.set 5 (some d)).set 6 (some e)) s := fun _ _ _ _ => rfl
    cases hw : cutS a none (some 1) == Str.ofString "-" with
    | false =>
      rw [hw] at ce
      cases ha : numT a with
      | none =>
        rw [ha] at qa
        simp -implicitDefEqProofs [startD, sp, l0, l1, c1, ce, qa, qb, s2, sizeI, mkTup, sz_le]
      | some n =>
        rw [ha] at qa
        have hn : ¬ (n : Int) < 0 := by omega
        cases hb : numT b with
        | none =>
          rw [hb] at qb
          simp -implicitDefEqProofs [startD, sp, l0, l1, c1, ce, qa, qb, s2, sizeI, mkTup, sz_le, hn]
        | some m =>
          rw [hb] at qb
          have hm : ¬ (m : Int) < 0 := by omega
          simp -implicitDefEqProofs [startD, sp, l0, l1, c1, ce, qa, qb, s2, sizeI, mkTup, sz_le, hn, hm]
    | true =>
      rw [hw] at ce
      cases ha : numT (cutS a (some 1) none) with
      | none =>
        rw [ha] at qc
        simp -implicitDefEqProofs [startD, sp, l0, l1, c1, ce, c2, qc, qb, s2, sizeI, mkTup, sz_le]
      | some n =>
        rw [ha] at qc
        have hn : ¬ (n : Int) < 0 := by omega
        cases hb : numT b with
        | none =>
          rw [hb] at qb
          cases n with
          | zero => simp -implicitDefEqProofs [startD, sp, l0, l1, c1, ce, c2, qc, qb, s2, sizeI, mkTup, sz_le, hn]
          | succ n =>
            have hn : ¬ (n : Int) + 1 < 0 := by omega
            simp -implicitDefEqProofs [startD, sp, l0, l1, c1, ce, c2, qc, qb, s2, sizeI, mkTup, sz_le, hn]
        | some m =>
          rw [hb] at qb
          have hm : ¬ (m : Int) < 0 := by omega
          cases n with
          | zero => simp -implicitDefEqProofs [startD, sp, l0, l1, c1, ce, c2, qc, qb, s2, sizeI, mkTup, sz_le, hm]
          | succ n =>
            have hn : ¬ (n : Int) + 1 < 0 := by omega
            have h0 : ¬ (n : Int) + 1 = 0 := by omega
            simp -implicitDefEqProofs [startD, sp, l0, l1, c1, ce, c2, qc, qb, s2, sizeI, mkTup, sz_le, hn, hm, h0, dNeg]
end
end Gstampahead_k12_stamps_read
set_option Elab.async false
set_option linter.all false
set_option maxRecDepth 100000
set_option maxHeartbeats 1000000
set_option pp.maxSteps 1500
namespace Gstampahead_k12_stamps_read
open PySem PySem.Spec Pv
open L2 hiding keyOf
open PyProof.Rows hiding St signs cutD pairD
/-! ### part: is12 -/
section
variable {st : Sto}
theorem q_is (tb : Nat → Addr) (hs : StC st) (ht : tbOk st (tb 0) "_law_is_right.<locals>.<lambda>" = true) {z : Str} (hc : (PyData.str z).canLay0 = true) (hl : z.length ≤ 900) {l f : Nat} (h1 : l ≤ 1000) (h2 : f ≤ 1000) :
    F__law_is_right tb [.str z, .int (l : Int), .int (f : Int)] st = .ok (.bool true) st := by
  have said : ∀ (s : Sto) (l f : Nat), StC s → l ≤ 1000 → f ≤ 1000 → okOnly (sF__law_heard (F_stamp_read [.str z, .int (l : Int), .int (f : Int)] s)) = .ok (dueD z l f) s := fun s l f h a b => by
    rw [q_stamp_read h hl a b]
    unfold stampR dueD
    cases stampT z with
    | none => rw [q_heardB h]; rfl
    | some p => rw [q_heardT]; rfl
  have o1 := due_ok z (l := 0) (f := 0) (by decide) (by decide)
  have o2 := due_ok z (l := l) (f := 0) h1 (by decide)
  have o3 := due_ok z (l := 0) (f := f) (by decide) h2
  have o4 := due_ok z h1 h2
  have a1 : ∀ s, StC s → okOnly (sF__law_heard (F_stamp_read [.str z, .int 0, .int 0] s)) = .ok (dueD z 0 0) s := fun s h => said s 0 0 h (by decide) (by decide)
  have a2 : ∀ s, StC s → okOnly (sF__law_heard (F_stamp_read [.str z, .int (l : Int), .int 0] s)) = .ok (dueD z l 0) s := fun s h => said s l 0 h h1 (by decide)
  have a3 : ∀ s, StC s → okOnly (sF__law_heard (F_stamp_read [.str z, .int 0, .int (f : Int)] s)) = .ok (dueD z 0 f) s := fun s h => said s 0 f h (by decide) h2
  have a4 := fun s h => said s l f h h1 h2
  have b1 := q_due (st := st) hc hl 0 0
  have d1 := fun s => q_due (st := s) hc hl 0 0
  have d2 := fun s => q_due (st := s) hc hl l 0
  have d3 := fun s => q_due (st := s) hc hl 0 f
  have d4 := fun s => q_due (st := s) hc hl l f
  obtain ⟨x1, e1⟩ : ∃ x, x = dueD z 0 0 := ⟨_, rfl⟩
  obtain ⟨x2, e2⟩ : ∃ x, x = dueD z l 0 := ⟨_, rfl⟩
  obtain ⟨x3, e3⟩ : ∃ x, x = dueD z 0 f := ⟨_, rfl⟩
  obtain ⟨x4, e4⟩ : ∃ x, x = dueD z l f := ⟨_, rfl⟩
  have o1 : Ok x1 1000 3 := by rw [e1]; exact o1
  have o2 : Ok x2 1000 3 := by rw [e2]; exact o2
  have o3 : Ok x3 1000 3 := by rw [e3]; exact o3
  have o4 : Ok x4 1000 3 := by rw [e4]; exact o4
  rw [← e1] at a1 d1
  rw [← e2] at a2 d2
  rw [← e3] at a3 d3
  rw [← e4] at a4 d4
  have ly : ∀ ds : List Pv.D, (∀ d ∈ ds, Ok d 1000 3) → PyData.canLayAll0 ds = true := fun ds h => (layAll_iff _).mpr fun d hd => (h d hd).lay
  have s1 : StC (st ++ [.lst [x1]]) := hs.lst (ly _ (by simp [o1]))
  have s2 : StC (st ++ [.lst [x1, x2]]) := hs.lst (ly _ (by simp [o1, o2]))
  have s3 : StC (st ++ [.lst [x1, x2, x3]]) := hs.lst (ly _ (by simp [o1, o2, o3]))
  have ts : ∀ ds, tbOk (st ++ [.lst ds]) (tb 0) "_law_is_right.<locals>.<lambda>" = true := fun ds => by rw [tbOk_app rfl]; exact ht
  have ml : ∀ s, mkLstM [x1] s = .ok (Rf s.length) (s ++ [.lst [x1]]) := fun s => by unfold mkLstM; rw [if_pos (sz_le (by simp))]
  have ml4 : ∀ s, mkLst [x1, x2, x3, x4] s = .ok (.list [x1, x2, x3, x4]) s := fun s => by unfold mkLst; rw [if_pos (sz_le (by simp))]
  have il := fun xs => isLst_last st xs
  have p1 : fApp (Rf st.length) x2 (st ++ [.lst [x1]]) = .ok .none (st ++ [.lst [x1, x2]]) := app_last st [x1] x2 (by simp)
  have p2 : fApp (Rf st.length) x3 (st ++ [.lst [x1, x2]]) = .ok .none (st ++ [.lst [x1, x2, x3]]) := app_last st [x1, x2] x3 (by simp)
  have p3 : fApp (Rf st.length) x4 (st ++ [.lst [x1, x2, x3]]) = .ok .none (st ++ [.lst [x1, x2, x3, x4]]) := app_last st [x1, x2, x3] x4 (by simp)
  have o5 : Ok (.list [x1, x2, x3, x4]) (2 ^ 20) 4 := (Ok.lst (m := 1000) (k := 3) (c := 4) (by simp [o1, o2, o3, o4]) (by simp)).mono (by decide) (Nat.le_refl _)
  have sm := q_same (st := st) (xs := [x1, x2, x3, x4]) o5 (by decide)
  have r1 : ∀ a b c : Pv.D, arr [0, 1, 2] [a, b, c] = [a, b, c] := fun _ _ _ => rfl
  have r2 : ∀ a b c : Pv.D, arr [0, 2, 1] [a, b, c] = [a, c, b] := fun _ _ _ => rfl
  have r3 : ∀ a b c : Pv.D, arr [2, 1, 0] [a, b, c] = [c, b, a] := fun _ _ _ => rfl
  have fin := fin_app (more := [.lst [x1, x2, x3, x4]]) (d := .bool true) hs rfl
  unfold F__law_is_right b__law_is_right
  rw [fnP_e]
  simp -implicitDefEqProofs [startD, r1, ht, a1 _ hs, ml, il, r1, ts, a2 _ s1, p1, r2, a3 _ s2, p2, r3, a4 _ s3, p3, d1, d2, d3, d4, ml4, sm, fin]
theorem q_refL (w : Str) (s : Sto) : True := trivial
end
/-! ### part: refu12 -/
section
variable {st : Sto}
theorem q_rdT (hs : StC st) {x a b : Pv.D} (hx : Cl x) (h : ∀ z, x ≠ .str z) : F_stamp_read [x, a, b] st = .exc ("NotUsable", [("at", .int (-1)), ("word", .str "text")]) st := by
  have wt := q_want (st := st) hs false (w := "text") (by decide +kernel)
  unfold F_stamp_read b_stamp_read
  rw [fnP_e]
  cases x with
  | dict k => exact hx.nodict.elim
  | str z => exact absurd rfl (h z)
  | _ => simp -implicitDefEqProofs [startD, Ty.sub, wt]
theorem q_rdL (hs : StC st) {z : Str} {x b : Pv.D} (hx : Cl x) (h : isNumD x = false) : F_stamp_read [.str z, x, b] st = .exc ("NotUsable", [("at", .int (-1)), ("word", .str "line")]) st := by
  have wt := q_want (st := st) hs true (w := "text") (by decide +kernel)
  have wl := q_want (st := st) hs false (w := "line") (by decide +kernel)
  have n1 := q_num (st := st) hx
  rw [h] at n1
  unfold F_stamp_read b_stamp_read
  rw [fnP_e]
  simp -implicitDefEqProofs [startD, Ty.sub, wt, n1, wl]
theorem q_rdF (hs : StC st) {z : Str} {x : Pv.D} (hx : Cl x) (h : isNumD x = false) : F_stamp_read [.str z, .int 0, x] st = .exc ("NotUsable", [("at", .int (-1)), ("word", .str "field")]) st := by
  have wt := q_want (st := st) hs true (w := "text") (by decide +kernel)
  have wl := q_want (st := st) hs true (w := "line") (by decide +kernel)
  have wf := q_want (st := st) hs false (w := "field") (by decide +kernel)
  have n0 := q_num (st := st) (x := .int 0) (cl_int (by decide))
  have i0 : isNumD (.int 0) = true := rfl
  have n1 := q_num (st := st) hx
  rw [h] at n1
  rw [i0] at n0
  unfold F_stamp_read b_stamp_read
  rw [fnP_e]
  simp -implicitDefEqProofs [startD, Ty.sub, wt, n0, wl, n1, wf]
def noD (w : Str) : Pv.D := .tuple [.str "no", .str w, .int (-1)]
theorem no_ok {a b : Str} (ha : (PyData.str a).canLay0 = true) (hb : (PyData.str b).canLay0 = true) (la : a.length ≤ 20) (lb : b.length ≤ 20) : Ok (.list [noD a, noD b]) 2000 4 := by
  have h : ∀ {w : Str}, (PyData.str w).canLay0 = true → w.length ≤ 20 → Ok (noD w) 700 1 := fun {w} hw hl => (Ok.tup (m := 204) (k := 0) (c := 3) (fun d hd => by
    simp only [List.mem_cons, List.not_mem_nil, or_false] at hd
    rcases hd with rfl | rfl | rfl
    · exact (ok_str (c := 20) (by decide +kernel) (by decide +kernel)).mono (by decide) (Nat.le_refl _)
    · exact (ok_str hw hl).mono (by decide) (Nat.le_refl _)
    · exact (ok_int (by decide)).mono (by decide) (Nat.le_refl _)) (by simp)).mono (by decide) (by decide)
  exact ((h ha la).two (h hb lb)).mono (by decide) (by decide)
theorem rf_turn0 (tb : Nat → Addr) (hs : StC st) (ht : tbOk st (tb 1) "_law_are_refused.<locals>.<lambda>" = true) {x : Pv.D} (hx : Cl x) (h : ∀ z, x ≠ .str z) :
    ∃ sl' m, (tgName 0 x [none, none] st).thenS (l0__law_are_refused tb) = .nx sl' (st ++ [.lst m]) ∧ wipeD sl' [0, 1] = [none, none] ∧ PyData.canLayAll0 m = true := by
  have ok := no_ok (a := "text") (b := "text") (by decide +kernel) (by decide +kernel) (by decide +kernel) (by decide +kernel)
  have q1 := q_rdT (a := .int 0) (b := .int 0) hs hx h
  have s1 : StC (st ++ [.lst [noD "text"]]) := hs.lst (by decide +kernel)
  have q2 := q_rdT (a := .int (-1)) (b := .int (-1)) s1 hx h
  have h1 := q_heardU hs "text" (-1)
  have h2 := q_heardU s1 "text" (-1)
  have h1 : sF__law_heard (.exc ("NotUsable", [("at", .int (-1)), ("word", .str "text")]) st) = .ok (noD "text") st := h1
  have h2 : sF__law_heard (.exc ("NotUsable", [("at", .int (-1)), ("word", .str "text")]) (st ++ [.lst [noD "text"]])) = .ok (noD "text") (st ++ [.lst [noD "text"]]) := h2
  have t1 : tbOk (st ++ [.lst [noD "text"]]) (tb 1) "_law_are_refused.<locals>.<lambda>" = true := by rw [tbOk_app rfl]; exact ht
  have ml : ∀ s, mkLstM [noD "text"] s = .ok (Rf s.length) (s ++ [.lst [noD "text"]]) := fun s => by unfold mkLstM; rw [if_pos (sz_le (by simp))]
  have ml2 : ∀ s, mkLst [noD "text"] s = .ok (.list [noD "text"]) s := fun s => by unfold mkLst; rw [if_pos (sz_le (by simp))]
  have il := isLst_last st [noD "text"]
  have ap : fApp (Rf st.length) (noD "text") (st ++ [.lst [noD "text"]]) = .ok .none (st ++ [.lst [noD "text", noD "text"]]) := app_last st [noD "text"] (noD "text") (by simp)
  have mu : dMulS (.list [noD "text"]) (.int 2) = some (.list [noD "text", noD "text"]) := mul_lst (ds := [noD "text"]) (k := 2) (by decide) (by simp)
  have mt : ∀ s, mkTup [.str "no", .str "text", .int (-1)] s = .ok (noD "text") s := fun s => by unfold mkTup; rw [if_pos (sz_le (by simp))]; rfl
  have sm := q_same (st := st) (xs := [noD "text", noD "text"]) (ok.mono (by decide) (Nat.le_refl _)) (by decide)
  have r1 : ∀ a b c : Pv.D, arr [0, 1, 2] [a, b, c] = [a, b, c] := fun _ _ _ => rfl
  refine ⟨[some x, some (Rf st.length)], [noD "text", noD "text"], ?_, rfl, by decide +kernel⟩
  unfold l0__law_are_refused
  simp -implicitDefEqProofs [ht, r1, q1, h1, ml, il, t1, dNeg, q2, h2, ap, mt, ml2, mu, sm]
theorem rf_turn1 (tb : Nat → Addr) (hs : StC st) (ht : tbOk st (tb 1) "_law_are_refused.<locals>.<lambda>" = true) {x : Pv.D} (hx : Cl x) (h : isNumD x = false) :
    ∃ sl' m, (tgName 0 x [none, none] st).thenS (l1__law_are_refused tb) = .nx sl' (st ++ [.lst m]) ∧ wipeD sl' [0, 1] = [none, none] ∧ PyData.canLayAll0 m = true := by
  have ok := no_ok (a := "line") (b := "field") (by decide +kernel) (by decide +kernel) (by decide +kernel) (by decide +kernel)
  have q1 := q_rdL (z := "0.0") (b := x) hs hx h
  have s1 : StC (st ++ [.lst [noD "line"]]) := hs.lst (by decide +kernel)
  have q2 := q_rdF (z := "x") s1 hx h
  have h1 : sF__law_heard (.exc ("NotUsable", [("at", .int (-1)), ("word", .str "line")]) st) = .ok (noD "line") st := q_heardU hs "line" (-1)
  have h2 : sF__law_heard (.exc ("NotUsable", [("at", .int (-1)), ("word", .str "field")]) (st ++ [.lst [noD "line"]])) = .ok (noD "field") (st ++ [.lst [noD "line"]]) := q_heardU s1 "field" (-1)
  have t1 : tbOk (st ++ [.lst [noD "line"]]) (tb 1) "_law_are_refused.<locals>.<lambda>" = true := by rw [tbOk_app rfl]; exact ht
  have ml : ∀ s, mkLstM [noD "line"] s = .ok (Rf s.length) (s ++ [.lst [noD "line"]]) := fun s => by unfold mkLstM; rw [if_pos (sz_le (by simp))]
  have ml2 : ∀ s, mkLst [noD "line", noD "field"] s = .ok (.list [noD "line", noD "field"]) s := fun s => by unfold mkLst; rw [if_pos (sz_le (by simp))]
  have il := isLst_last st [noD "line"]
  have ap : fApp (Rf st.length) (noD "field") (st ++ [.lst [noD "line"]]) = .ok .none (st ++ [.lst [noD "line", noD "field"]]) := app_last st [noD "line"] (noD "field") (by simp)
  have mt : ∀ s, mkTup [.str "no", .str "line", .int (-1)] s = .ok (noD "line") s := fun s => by unfold mkTup; rw [if_pos (sz_le (by simp))]; rfl
  have mt2 : ∀ s, mkTup [.str "no", .str "field", .int (-1)] s = .ok (noD "field") s := fun s => by unfold mkTup; rw [if_pos (sz_le (by simp))]; rfl
  have sm := q_same (st := st) (xs := [noD "line", noD "field"]) (ok.mono (by decide) (Nat.le_refl _)) (by decide)
  have r1 : ∀ a b c : Pv.D, arr [0, 1, 2] [a, b, c] = [a, b, c] := fun _ _ _ => rfl
  have r2 : ∀ a b c : Pv.D, arr [0, 2, 1] [a, b, c] = [a, c, b] := fun _ _ _ => rfl
  refine ⟨[some x, some (Rf st.length)], [noD "line", noD "field"], ?_, rfl, by decide +kernel⟩
  unfold l1__law_are_refused
  simp -implicitDefEqProofs [ht, r1, r2, q1, h1, ml, il, t1, dNeg, q2, h2, ap, mt, mt2, ml2, sm]
theorem q_refused (tb : Nat → Addr) (hs : StC st) (ht : tbOk st (tb 1) "_law_are_refused.<locals>.<lambda>" = true) : F__law_are_refused tb [] st = .ok (.bool true) st := by
  let d0 : List Pv.D := [.none, .int 0, .bool true, .tuple [], .list [.str "0.0"], .tuple [.int 0, .int 0]]
  let d1 : List Pv.D := [.none, .int (-1), .bool true, .bool false, .str "0", .tuple [.int 0], .list [.int 0]]
  obtain ⟨sl1, st1, f1, h1, more1, h2, h3, h4⟩ := forL_inv (keep := always) (tg := tgName 0) (body := l0__law_are_refused tb) (fg := [0, 1]) (fun _ sl s => sl = [none, none] ∧ ∃ more, s = st ++ more ∧ StC s ∧ tbOk s (tb 1) "_law_are_refused.<locals>.<lambda>" = true) 50 (fun _ => trivial) (ds := d0) (k := 0) (sl := [none, none]) (st := st) (by simp [d0]) ⟨rfl, [], by simp, hs, ht⟩ (by
    rintro d k sl s hd hk ⟨rfl, more, rfl, h1, h2⟩
    have hdd : Cl d ∧ ∀ z, d ≠ .str z := by
      simp only [d0, List.mem_cons, List.not_mem_nil, or_false] at hd
      rcases hd with rfl | rfl | rfl | rfl | rfl | rfl
      all_goals exact ⟨⟨by decide +kernel, by decide +kernel, by decide +kernel⟩, fun z h => by cases h⟩
    obtain ⟨sl', m, q1, q2, q3⟩ := rf_turn0 tb h1 h2 hdd.1 hdd.2
    exact ⟨sl', _, q1, q2, more ++ [.lst m], by simp, h1.lst q3, by rw [tbOk_app rfl]; exact h2⟩)
  subst h1
  obtain ⟨sl2, st2, f2, g1, more2, g2, g3, g4⟩ := forL_inv (keep := always) (tg := tgName 0) (body := l1__law_are_refused tb) (fg := [0, 1]) (fun _ sl s => sl = [none, none] ∧ ∃ more, s = st1 ++ more ∧ StC s ∧ tbOk s (tb 1) "_law_are_refused.<locals>.<lambda>" = true) 50 (fun _ => trivial) (ds := d1) (k := 0) (sl := [none, none]) (st := st1) (by simp [d1]) ⟨rfl, [], by simp, h3, h4⟩ (by
    rintro d k sl s hd hk ⟨rfl, more, rfl, h1, h2⟩
    have hdd : Cl d ∧ isNumD d = false := by
      simp only [d1, List.mem_cons, List.not_mem_nil, or_false] at hd
      rcases hd with rfl | rfl | rfl | rfl | rfl | rfl | rfl
      all_goals exact ⟨⟨by decide +kernel, by decide +kernel, by decide +kernel⟩, by decide⟩
    obtain ⟨sl', m, q1, q2, q3⟩ := rf_turn1 tb h1 h2 hdd.1 hdd.2
    exact ⟨sl', _, q1, q2, more ++ [.lst m], by simp, h1.lst q3, by rw [tbOk_app rfl]; exact h2⟩)
  subst g1
  have fin : finR st.length (.ok (.bool true) st2) = .ok (.bool true) st := by
    rw [g2, h2, List.append_assoc]
    exact fin_app hs rfl
  have k1 : ∀ s, mkLst [.str "0.0"] s = .ok (.list [.str "0.0"]) s := fun s => by unfold mkLst; rw [if_pos (sz_le (by simp))]
  have k2 : ∀ s, mkLst [.int 0] s = .ok (.list [.int 0]) s := fun s => by unfold mkLst; rw [if_pos (sz_le (by simp))]
  have k3 : ∀ s, mkTup [.int 0, .int 0] s = .ok (.tuple [.int 0, .int 0]) s := fun s => by unfold mkTup; rw [if_pos (sz_le (by simp))]
  have k4 : ∀ s, mkTup [.int 0] s = .ok (.tuple [.int 0]) s := fun s => by unfold mkTup; rw [if_pos (sz_le (by simp))]
  have k5 : ∀ s, mkTup [] s = .ok (.tuple []) s := fun s => by unfold mkTup; rw [if_pos (sz_le (by simp))]
  have k6 : ∀ s, mkLst d0 s = .ok (.list d0) s := fun s => by unfold mkLst; rw [if_pos (sz_le (by simp [d0]))]
  have k7 : ∀ s, mkLst d1 s = .ok (.list d1) s := fun s => by unfold mkLst; rw [if_pos (sz_le (by simp [d1]))]
  have wz : ∀ a b : Option Pv.D, wipeD [a, b] [0, 1] = [none, none] := fun _ _ => rfl
  simp only [d0] at k6 f1
  simp only [d1] at k7 f2
  unfold F__law_are_refused b__law_are_refused
  rw [fnP_e]
  simp -implicitDefEqProofs [startD, k1, k3, k5, k6, wz, f1, dNeg, k2, k4, k7, f2, fin]
end
/-! ### part: lawn12 -/
section
variable {cs : List Pv.D} {pre st : Sto}
theorem sIx_nat (n d j : Nat) : HT.sIx n d (some (j : Int)) = min j n := by
  unfold HT.sIx
  simp only
  rw [if_neg (by omega), Int.toNat_natCast]
theorem cutS_len (z : Str) (lo hi : Option Int) : (cutS z lo hi).length = min (HT.sIx z.length z.length hi - HT.sIx z.length 0 lo) (z.length - HT.sIx z.length 0 lo) := by
  rw [← len_cps]
  unfold cutS
  simp only [List.length_take, List.length_drop, len_cps]
theorem cut_a (z : Str) (c : Nat) : (cutS z none (some (c : Int))).length ≤ c := by
  rw [cutS_len, sIx_nat]; show min (min c z.length - 0) _ ≤ c; omega
theorem cut_b (z : Str) (c : Nat) : (cutS z (some (c : Int)) none).length ≤ z.length - c := by
  rw [cutS_len, sIx_nat]; show min (z.length - _) _ ≤ _; omega
theorem cut_c (z : Str) (c : Nat) : (cutS z (some (c : Int)) (some ((c : Int) + 1))).length ≤ 1 := by
  rw [cutS_len, sIx_nat, show (c : Int) + 1 = ((c + 1 : Nat) : Int) by omega, sIx_nat]; omega
structure SOk (L : Nat) (z : Str) : Prop where
  lay : (PyData.str z).canLay0 = true
  len : z.length ≤ L
theorem SOk.mono {L M : Nat} {z : Str} (h : SOk L z) (hl : L ≤ M) : SOk M z := ⟨h.lay, Nat.le_trans h.len hl⟩
theorem SOk.cat {L M : Nat} {a b : Str} (ha : SOk L a) (hb : SOk M b) : SOk (L + M) (a ++ b) := ⟨lay_cat ha.lay hb.lay, by rw [strLen_append]; have := ha.len; have := hb.len; omega⟩
theorem add_ss {a b : Str} (h : a.length + b.length ≤ 1000) (s : Sto) : fAdd (.str a) (.str b) s = .ok (.str (a ++ b)) s := by
  show lift (if a.length + b.length ≤ sizeLine then some (PyData.str (a ++ b)) else none) s = _
  rw [if_pos (sz_le h)]; rfl
theorem sl_str {z : Str} (h : z.length ≤ 1000) (lo hi : Option Int) (s : Sto) : fSl lo hi (.str z) s = .ok (.str (cutS z lo hi)) s := by
  show (if z.length ≤ sizeLine then _ else _) = _
  rw [if_pos (sz_le h)]
def oddS : List Str := ["-", ".", "0", "1", " ", "\n", "a", "+", "--", "00", "_"]
theorem oddS_ok : ∀ w ∈ oddS, SOk 2 w := by
  intro w hw
  simp only [oddS, List.mem_cons, List.not_mem_nil, or_false] at hw
  rcases hw with rfl | rfl | rfl | rfl | rfl | rfl | rfl | rfl | rfl | rfl | rfl
  all_goals exact ⟨by decide +kernel, by decide +kernel⟩
theorem q_spoilt (hcs : IntsD cs) (hl : cs.length ≤ 63) {z : Str} {L : Nat} (hz : SOk L z) (hL : L ≤ 400) (sp lf dr : Int) :
    ∃ y sp' lf' dr', F__law_spoilt [Rf pre.length, .str z] (pre ++ fd cs sp lf dr :: st) = .ok (.str y) (pre ++ fd cs sp' lf' dr' :: st) ∧ SOk (L + 2) y := by
  have zl := hz.len
  have lenS : ∀ (sp lf dr sp' lf' dr' : Int), (pre ++ fd cs sp' lf' dr' :: st).length = (pre ++ fd cs sp lf dr :: st).length := fun _ _ _ _ _ _ => by simp
  have fin : ∀ (d : Pv.D) (sp' lf' dr' : Int), finR (pre.length + (st.length + 1)) (.ok d (pre ++ fd cs sp' lf' dr' :: st)) = .ok d (pre ++ fd cs sp' lf' dr' :: st) := fun d _ _ _ => fin_same (by simp)
  obtain ⟨r1, sp1, lf1, dr1, e1, b10, b11⟩ := q_draw (pre := pre) (st := st) (sp := sp) (lf := lf) (dr := dr) (m := (z.length : Int) + 1) hcs hl (by omega) (by omega)
  obtain ⟨c, rfl⟩ : ∃ c : Nat, r1 = (c : Int) := ⟨_, (Int.toNat_of_nonneg b10).symm⟩
  obtain ⟨r2, sp2, lf2, dr2, e2, b20, b21⟩ := q_draw (pre := pre) (st := st) (sp := sp1) (lf := lf1) (dr := dr1) (m := 4) hcs hl (by decide) (by decide)
  have ca : SOk c (cutS z none (some (c : Int))) := ⟨cut_lay hz.lay _ _, cut_a z c⟩
  have cb : SOk (z.length - c) (cutS z (some (c : Int)) none) := ⟨cut_lay hz.lay _ _, cut_b z c⟩
  have cb1 : SOk (z.length - (c + 1)) (cutS z (some ((c : Int) + 1)) none) := ⟨cut_lay hz.lay _ _, cut_b z (c + 1)⟩
  have cc : SOk 1 (cutS z (some (c : Int)) (some ((c : Int) + 1))) := ⟨cut_lay hz.lay _ _, cut_c z c⟩
  have sl := fun lo hi s => sl_str (z := z) (by omega) lo hi s
  have s2 : ∀ (sl : Sl) (d e : Pv.D) s, set2 2 3 sl [d, e] s = .nx ((sl.set 2 (some d)).set 3 (some e)) s := fun _ _ _ _ => rfl
  have ln := len_s (z := z) (sz_le (by omega))
  have la := ca.len; have lb := cb.len; have lb1 := cb1.len; have lc := cc.len
  unfold F__law_spoilt b__law_spoilt
  rw [fnP_e]
  by_cases h0 : r2 = 0
  · subst h0
    have ad := add_ss (a := cutS z none (some (c : Int))) (b := cutS z (some ((c : Int) + 1)) none) (by omega)
    refine ⟨_, sp2, lf2, dr2, ?_, (ca.cat cb1).mono (by omega)⟩
    simp -implicitDefEqProofs [startD, ln, e1, e2, s2, sl, ad]
    exact fin _ sp2 lf2 dr2
  · by_cases h1 : r2 = 1
    · subst h1
      have ad := add_ss (a := cutS z none (some (c : Int))) (b := cutS z (some (c : Int)) (some ((c : Int) + 1))) (by omega)
      have ad2 := add_ss (a := cutS z none (some (c : Int)) ++ cutS z (some (c : Int)) (some ((c : Int) + 1))) (b := cutS z (some (c : Int)) none) (by rw [strLen_append]; omega)
      refine ⟨_, sp2, lf2, dr2, ?_, ((ca.cat cc).cat cb).mono (by omega)⟩
      simp -implicitDefEqProofs [startD, ln, e1, e2, s2, sl, ad, ad2]
      exact fin _ sp2 lf2 dr2
    · obtain ⟨x3, sp3, lf3, dr3, e3, hx3⟩ := q_any (pre := pre) (st := st) (sp := sp2) (lf := lf2) (dr := dr2) (xs := oddS.map .str) hcs hl (by simp [oddS]) (by simp [oddS])
      obtain ⟨w, hw, rfl⟩ := List.mem_map.mp hx3
      have wo := oddS_ok w hw
      have wl := wo.len
      have e3' : F__law_pick [Rf pre.length, .list [.str "-", .str ".", .str "0", .str "1", .str " ", .str "\n", .str "a", .str "+", .str "--", .str "00", .str "_"]] (pre ++ fd cs sp2 lf2 dr2 :: st) = .ok (.str w) (pre ++ fd cs sp3 lf3 dr3 :: st) := e3
      have mk : ∀ s, mkLst [.str "-", .str ".", .str "0", .str "1", .str " ", .str "\n", .str "a", .str "+", .str "--", .str "00", .str "_"] s = .ok (.list [.str "-", .str ".", .str "0", .str "1", .str " ", .str "\n", .str "a", .str "+", .str "--", .str "00", .str "_"]) s := fun s => by unfold mkLst; rw [if_pos (sz_le (by simp))]
      have ad := add_ss (a := cutS z none (some (c : Int))) (b := w) (by omega)
      by_cases h2 : r2 = 2
      · subst h2
        have ad2 := add_ss (a := cutS z none (some (c : Int)) ++ w) (b := cutS z (some ((c : Int) + 1)) none) (by rw [strLen_append]; omega)
        refine ⟨_, sp3, lf3, dr3, ?_, ((ca.cat wo).cat cb1).mono (by omega)⟩
        simp -implicitDefEqProofs [startD, ln, e1, e2, s2, mk, e3', sl, ad, ad2, dInt]
        exact fin _ sp3 lf3 dr3
      · have ad2 := add_ss (a := cutS z none (some (c : Int)) ++ w) (b := cutS z (some (c : Int)) none) (by rw [strLen_append]; omega)
        refine ⟨_, sp3, lf3, dr3, ?_, ((ca.cat wo).cat cb).mono (by omega)⟩
        simp -implicitDefEqProofs [startD, ln, e1, e2, h0, h1, h2, s2, mk, e3', sl, ad, ad2, dInt]
        exact fin _ sp3 lf3 dr3
end
end Gstampahead_k12_stamps_read
set_option Elab.async false
set_option linter.all false
set_option maxRecDepth 100000
set_option maxHeartbeats 1000000
set_option pp.maxSteps 1500
namespace Gstampahead_k12_stamps_read
open PySem PySem.Spec Pv
open L2 hiding keyOf
open PyProof.Rows hiding St signs cutD pairD
/-! ### part: lawz12 -/
def T0 (tb : Nat → Addr) : Sto := [.tb (tb 0) "_law_is_right.<locals>.<lambda>", .tb (tb 1) "_law_are_refused.<locals>.<lambda>"]
theorem T0_clean (tb : Nat → Addr) : StC (T0 tb) := StC.tb (StC.tb StC.nil)
theorem T0_ok {tb : Nat → Addr} (h01 : tb 0 ≠ tb 1) {cs : List Pv.D} {sp lf dr : Int} :
    tbOk (T0 tb ++ [fd cs sp lf dr]) (tb 0) "_law_is_right.<locals>.<lambda>" = true ∧ tbOk (T0 tb ++ [fd cs sp lf dr]) (tb 1) "_law_are_refused.<locals>.<lambda>" = true := by
  refine ⟨?_, ?_⟩
  all_goals
    unfold tbOk T0
    simp [tbs, fd, h01, Ne.symm h01]
section
variable {cs : List Pv.D}
theorem nine_ok : ∀ k ∈ ([59, 60, 61] : List Int), MulOk "9" k ∧ MulOk "1" k ∧ SOk 61 (Txt.mul "9" k) ∧ SOk 61 (Txt.mul "1" k) := by
  intro k hk
  simp only [List.mem_cons, List.not_mem_nil, or_false] at hk
  rcases hk with rfl | rfl | rfl
  all_goals exact ⟨by decide +kernel, by decide +kernel, ⟨by decide +kernel, by decide +kernel⟩, ⟨by decide +kernel, by decide +kernel⟩⟩
def marks : List Int := [0, 1, -1, 10, -10, 123, 10 ^ 59]
def counts : List Int := [0, 1, 10, 205, 10 ^ 59]
theorem int_str {i : Int} (h : i ∈ marks ∨ i ∈ counts) : dStrI (.int i) = some (.str (Str.ofString (toString i))) ∧ SOk 60 (Str.ofString (toString i)) := by
  simp only [marks, counts, List.mem_cons, List.not_mem_nil, or_false] at h
  rcases h with (rfl | rfl | rfl | rfl | rfl | rfl | rfl) | rfl | rfl | rfl | rfl | rfl
  all_goals exact ⟨by kernel_rfl, by decide +kernel, by decide +kernel⟩
def w0 : List Str := ["", ".", "0", "0.", ".0", "0.0", "-0.0", "-1.0", "--1.0", "1.-1", "01.0", "1.01", "1.0.0", "1 .0", "1.0 "]
def w1 : List Str := [" 1.0", "1.0\n", "+1.0", "-4.0", "12.3", "1,0", "a.0", "-.0", "-01.0", "1_0.0", "1.", "1e1.0"]
theorem w_ok : ∀ z ∈ w0 ++ w1, SOk 300 z := by
  intro z hz
  have : (w0 ++ w1).all (fun z => (PyData.str z).canLay0 && decide (z.length ≤ 300)) = true := by decide +kernel
  have := List.all_eq_true.mp this z hz
  simp only [Bool.and_eq_true, decide_eq_true_eq] at this
  exact ⟨this.1, this.2⟩
structure Ws (n : Nat) (xs : List Str) : Prop where
  len : xs.length ≤ n
  ok : ∀ z ∈ xs, SOk 300 z
theorem add_ws {xs ys : List Str} (h : xs.length + ys.length ≤ 1000) (s : Sto) : fAdd (.list (xs.map .str)) (.list (ys.map .str)) s = .ok (.list ((xs ++ ys).map .str)) s := by
  rw [List.map_append]
  exact add_lls (by simpa using h) s
theorem Ws.app {n m : Nat} {xs ys : List Str} (h : Ws n xs) (hl : ys.length ≤ m) (ho : ∀ z ∈ ys, SOk 300 z) : Ws (n + m) (xs ++ ys) := ⟨by rw [List.length_append]; have := h.len; omega, fun z hz => by
  rcases List.mem_append.mp hz with q | q
  · exact h.ok z q
  · exact ho z q⟩
theorem l0_turn (tb : Nat → Addr) {xs : List Str} {n : Nat} (h : Ws n xs) (hn : n ≤ 100) (a0 a1 : Option Pv.D) {k : Int} (hk : k ∈ ([59, 60, 61] : List Int)) (st : Sto) :
    ∃ sl' ys, (tgName 3 (.int k) [a0, a1, some (.list (xs.map .str)), none, none, none, none, none, none] st).thenS (l0_law tb) = .nx sl' st ∧ wipeD sl' [3] = [a0, a1, some (.list ((xs ++ ys).map .str)), none, none, none, none, none, none] ∧ Ws (n + 3) (xs ++ ys) := by
  obtain ⟨m9, m1, o9, o1⟩ := nine_ok k hk
  have hl := h.len
  have t0 : SOk 2 (Str.ofString ".0") := ⟨by decide +kernel, by decide +kernel⟩
  have t1 : SOk 2 (Str.ofString "0.") := ⟨by decide +kernel, by decide +kernel⟩
  have t2 : SOk 1 (Str.ofString "-") := ⟨by decide +kernel, by decide +kernel⟩
  have t3 : SOk 1 (Str.ofString ".") := ⟨by decide +kernel, by decide +kernel⟩
  have e9 : dMulT (.str "9") (.int k) = some (.str (Txt.mul "9" k)) := if_pos m9
  have e1 : dMulT (.str "1") (.int k) = some (.str (Txt.mul "1" k)) := if_pos m1
  have ad : ∀ {a b : Str} {L M : Nat}, SOk L a → SOk M b → L + M ≤ 1000 → ∀ s, fAdd (.str a) (.str b) s = .ok (.str (a ++ b)) s := fun ha hb hh s => add_ss (by have := ha.len; have := hb.len; omega) s
  have p1 := ad o9 t0 (by decide)
  have p2 := ad t1 o9 (by decide)
  have p3 := ad t2 o9 (by decide)
  have p4 := ad (t2.cat o9) t3 (by decide)
  have p5 := ad ((t2.cat o9).cat t3) o1 (by decide)
  let ys : List Str := [Txt.mul "9" k ++ Str.ofString ".0", Str.ofString "0." ++ Txt.mul "9" k, Str.ofString "-" ++ Txt.mul "9" k ++ Str.ofString "." ++ Txt.mul "1" k]
  have al := add_ws (xs := xs) (ys := ys) (by simp [ys]; omega)
  have mk : ∀ s, mkLst [.str (Txt.mul "9" k ++ Str.ofString ".0"), .str (Str.ofString "0." ++ Txt.mul "9" k), .str (Str.ofString "-" ++ Txt.mul "9" k ++ Str.ofString "." ++ Txt.mul "1" k)] s = .ok (.list (ys.map .str)) s := fun s => by unfold mkLst; rw [if_pos (sz_le (by simp))]; rfl
  refine ⟨[a0, a1, some (.list ((xs ++ ys).map .str)), some (.int k), none, none, none, none, none], ys, ?_, rfl, h.app (by simp [ys]) fun z hz => ?_⟩
  · unfold l0_law
    simp -implicitDefEqProofs [-List.map_append, e9, e1, p1, p2, p3, p4, p5, mk, al]
  · simp only [ys, List.mem_cons, List.not_mem_nil, or_false] at hz
    rcases hz with rfl | rfl | rfl
    · exact (o9.cat t0).mono (by decide)
    · exact (t1.cat o9).mono (by decide)
    · exact (((t2.cat o9).cat t3).cat o1).mono (by decide)
theorem l1_turn (tb : Nat → Addr) (hcs : IntsD cs) (hcl : cs.length ≤ 63) {xs : List Str} {n : Nat} (h : Ws n xs) (hn : n ≤ 400) (a0 : Option Pv.D) (lap : Pv.D) (sp lf dr : Int) :
    ∃ sl' ys sp' lf' dr', (tgName 4 lap [a0, some (Rf 2), some (.list (xs.map .str)), none, none, none, none, none, none] (T0 tb ++ [fd cs sp lf dr])).thenS (l1_law tb) = .nx sl' (T0 tb ++ [fd cs sp' lf' dr']) ∧ wipeD sl' [4, 5, 6, 7, 8] = [a0, some (Rf 2), some (.list ((xs ++ ys).map .str)), none, none, none, none, none, none] ∧ Ws (n + 3) (xs ++ ys) := by
  have hl := h.len
  obtain ⟨x1, sp1, lf1, dr1, e1, hx1⟩ := q_any (pre := T0 tb) (st := []) (sp := sp) (lf := lf) (dr := dr) (xs := marks.map .int) hcs hcl (by simp [marks]) (by simp [marks])
  obtain ⟨m, hm, rfl⟩ := List.mem_map.mp hx1
  obtain ⟨x2, sp2, lf2, dr2, e2, hx2⟩ := q_any (pre := T0 tb) (st := []) (sp := sp1) (lf := lf1) (dr := dr1) (xs := counts.map .int) hcs hcl (by simp [counts]) (by simp [counts])
  obtain ⟨c, hc, rfl⟩ := List.mem_map.mp hx2
  obtain ⟨sm, om⟩ := int_str (.inl hm)
  obtain ⟨sc, oc⟩ := int_str (.inr hc)
  generalize Str.ofString (toString m) = ms at sm om
  generalize Str.ofString (toString c) = ct at sc oc
  have t3 : SOk 1 (Str.ofString ".") := ⟨by decide +kernel, by decide +kernel⟩
  have ad : ∀ {a b : Str} {L M : Nat}, SOk L a → SOk M b → L + M ≤ 1000 → ∀ s, fAdd (.str a) (.str b) s = .ok (.str (a ++ b)) s := fun ha hb hh s => add_ss (by have := ha.len; have := hb.len; omega) s
  have p1 := ad om t3 (by decide)
  have p2 := ad (om.cat t3) oc (by decide)
  have op := (om.cat t3).cat oc
  obtain ⟨pg, hpg⟩ : ∃ pg, pg = ms ++ Str.ofString "." ++ ct := ⟨_, rfl⟩
  rw [← hpg] at p2 op
  obtain ⟨y1, sp3, lf3, dr3, e3, o3⟩ := q_spoilt (pre := T0 tb) (st := []) hcs hcl op (by decide) sp2 lf2 dr2
  obtain ⟨y2, sp4, lf4, dr4, e4, o4⟩ := q_spoilt (pre := T0 tb) (st := []) hcs hcl o3 (by decide) sp3 lf3 dr3
  have e1' : F__law_pick [Rf 2, .list [.int 0, .int 1, .int (-1), .int 10, .int (-10), .int 123, .int 100000000000000000000000000000000000000000000000000000000000]] (T0 tb ++ [fd cs sp lf dr]) = .ok (.int m) (T0 tb ++ [fd cs sp1 lf1 dr1]) := e1
  have e2' : F__law_pick [Rf 2, .list [.int 0, .int 1, .int 10, .int 205, .int 100000000000000000000000000000000000000000000000000000000000]] (T0 tb ++ [fd cs sp1 lf1 dr1]) = .ok (.int c) (T0 tb ++ [fd cs sp2 lf2 dr2]) := e2
  have e3' : F__law_spoilt [Rf 2, .str pg] (T0 tb ++ [fd cs sp2 lf2 dr2]) = .ok (.str y1) (T0 tb ++ [fd cs sp3 lf3 dr3]) := e3
  have e4' : F__law_spoilt [Rf 2, .str y1] (T0 tb ++ [fd cs sp3 lf3 dr3]) = .ok (.str y2) (T0 tb ++ [fd cs sp4 lf4 dr4]) := e4
  have al : ∀ s, fAdd (.list (xs.map .str)) (.list [.str pg, .str y1, .str y2]) s = .ok (.list ((xs ++ [pg, y1, y2]).map .str)) s := add_ws (xs := xs) (ys := [pg, y1, y2]) (by simp; omega)
  have mk : ∀ s, mkLst [.str pg, .str y1, .str y2] s = .ok (.list ([pg, y1, y2].map .str)) s := fun s => by unfold mkLst; rw [if_pos (sz_le (by simp))]; rfl
  have mk7 : ∀ s, mkLst [.int 0, .int 1, .int (-1), .int 10, .int (-10), .int 123, .int 100000000000000000000000000000000000000000000000000000000000] s = .ok (.list [.int 0, .int 1, .int (-1), .int 10, .int (-10), .int 123, .int 100000000000000000000000000000000000000000000000000000000000]) s := fun s => by unfold mkLst; rw [if_pos (sz_le (by simp))]
  have mk5 : ∀ s, mkLst [.int 0, .int 1, .int 10, .int 205, .int 100000000000000000000000000000000000000000000000000000000000] s = .ok (.list [.int 0, .int 1, .int 10, .int 205, .int 100000000000000000000000000000000000000000000000000000000000]) s := fun s => by unfold mkLst; rw [if_pos (sz_le (by simp))]
  have s2 : ∀ (sl : Sl) (d e : Pv.D) s, set2 5 6 sl [d, e] s = .nx ((sl.set 5 (some d)).set 6 (some e)) s := fun _ _ _ _ => rfl
  refine ⟨[a0, some (Rf 2), some (.list ((xs ++ [pg, y1, y2]).map .str)), none, some lap, some (.int m), some (.int c), some (.str pg), some (.str y1)], [pg, y1, y2], sp4, lf4, dr4, ?_, rfl, h.app (by simp) fun z hz => ?_⟩
  · generalize T0 tb ++ [fd cs sp lf dr] = S0 at *
    generalize T0 tb ++ [fd cs sp1 lf1 dr1] = S1 at *
    generalize T0 tb ++ [fd cs sp2 lf2 dr2] = S2 at *
    generalize T0 tb ++ [fd cs sp3 lf3 dr3] = S3 at *
    generalize T0 tb ++ [fd cs sp4 lf4 dr4] = S4 at *
    have es : ∀ (a : M) sl st, mStrI a sl st = (a sl st).bind fun x st => onD1 dStrI x st := fun _ _ _ => rfl
    unfold l1_law
    simp -implicitDefEqProofs [-List.map_append, dNeg, dInt2, mk7, e1', mk5, e2', s2, es, sm, sc, p1, p2, ← hpg, e3', e4', mk, al]
  · simp only [List.mem_cons, List.not_mem_nil, or_false] at hz
    rcases hz with rfl | rfl | rfl
    · exact op.mono (by decide)
    · exact o3.mono (by decide)
    · exact o4.mono (by decide)
theorem l2_turn (tb : Nat → Addr) (h01 : tb 0 ≠ tb 1) (hcs : IntsD cs) (hcl : cs.length ≤ 63) (Y : Pv.D) (a0 : Option Pv.D) {z : Str} (hz : SOk 300 z) (sp lf dr : Int) :
    ∃ sl' sp' lf' dr', (tgName 7 (.str z) [a0, some (Rf 2), some Y, none, none, none, none, none, none] (T0 tb ++ [fd cs sp lf dr])).thenS (l2_law tb) = .nx sl' (T0 tb ++ [fd cs sp' lf' dr']) ∧ wipeD sl' [7] = [a0, some (Rf 2), some Y, none, none, none, none, none, none] := by
  obtain ⟨r1, sp1, lf1, dr1, e1, b10, b11⟩ := q_draw (pre := T0 tb) (st := []) (sp := sp) (lf := lf) (dr := dr) (m := 9) hcs hcl (by decide) (by decide)
  obtain ⟨l, rfl⟩ : ∃ c : Nat, r1 = (c : Int) := ⟨_, (Int.toNat_of_nonneg b10).symm⟩
  obtain ⟨r2, sp2, lf2, dr2, e2, b20, b21⟩ := q_draw (pre := T0 tb) (st := []) (sp := sp1) (lf := lf1) (dr := dr1) (m := 40) hcs hcl (by decide) (by decide)
  obtain ⟨f, rfl⟩ : ∃ c : Nat, r2 = (c : Int) := ⟨_, (Int.toNat_of_nonneg b20).symm⟩
  have hS : StC (T0 tb ++ [fd cs sp2 lf2 dr2]) := fun g => fzS_app (T0_clean tb g) (fd_ok hcs)
  have q := q_is tb hS (T0_ok h01).1 hz.lay (by have := hz.len; omega) (l := l) (f := f) (by omega) (by omega)
  have e1' : F__law_draw [Rf 2, .int 9] (T0 tb ++ [fd cs sp lf dr]) = .ok (.int (l : Int)) (T0 tb ++ [fd cs sp1 lf1 dr1]) := e1
  have e2' : F__law_draw [Rf 2, .int 40] (T0 tb ++ [fd cs sp1 lf1 dr1]) = .ok (.int (f : Int)) (T0 tb ++ [fd cs sp2 lf2 dr2]) := e2
  refine ⟨[a0, some (Rf 2), some Y, none, none, none, none, some (.str z), none], sp2, lf2, dr2, ?_, rfl⟩
  generalize T0 tb ++ [fd cs sp lf dr] = S0 at *
  generalize T0 tb ++ [fd cs sp1 lf1 dr1] = S1 at *
  generalize T0 tb ++ [fd cs sp2 lf2 dr2] = S2 at *
  unfold l2_law
  simp -implicitDefEqProofs [e1', e2', q]
theorem law_ok (tb : Nat → Addr) (h01 : tb 0 ≠ tb 1) : ∀ ns : List Int, ns.length ≤ 63 → ∃ st, F_law tb [Gs (ns.map .int)] (T0 tb) = .ok (.bool true) st := by
  intro ns hns
  have hcs := ints_ns ns
  have hcl : (ns.map PyData.int).length ≤ 63 := by rw [List.length_map]; exact hns
  have hf := q_feed hns (T0 tb)
  have hf' : F__law_feed [Gs (ns.map .int)] (T0 tb) = .ok (Rf 2) (T0 tb ++ [fd (ns.map .int) 0 0 0]) := hf
  obtain ⟨a0, ha0⟩ : ∃ a0 : Option Pv.D, a0 = some (Gs (ns.map .int)) := ⟨_, rfl⟩
  have hw0 : Ws 27 (w0 ++ w1) := ⟨by decide, w_ok⟩
  obtain ⟨sl1, st1, f1, ws1, h1, h2, k1⟩ := forL_invK (keep := always) (tg := tgName 3) (body := l0_law tb) (fg := [3]) (fun k sl st => ∃ xs : List Str, sl = [a0, some (Rf 2), some (.list (xs.map .str)), none, none, none, none, none, none] ∧ st = T0 tb ++ [fd (ns.map .int) 0 0 0] ∧ (k ≤ 3 → Ws (27 + 3 * k) xs)) (fun _ => trivial) (ds := [.int 59, .int 60, .int 61]) (k := 0) (sl := [a0, some (Rf 2), some (.list ((w0 ++ w1).map .str)), none, none, none, none, none, none]) (st := T0 tb ++ [fd (ns.map .int) 0 0 0]) ⟨_, rfl, rfl, fun _ => hw0⟩ (by
    rintro j d sl st hj ⟨xs, rfl, rfl, h⟩
    have hlt : j < 3 := (List.getElem?_eq_some_iff.mp hj).1
    obtain ⟨k, hk, rfl⟩ : ∃ k ∈ ([59, 60, 61] : List Int), d = .int k := by
      have := List.mem_of_getElem? hj
      simp only [List.mem_cons, List.not_mem_nil, or_false] at this
      rcases this with rfl | rfl | rfl
      all_goals exact ⟨_, by simp, rfl⟩
    rw [Nat.zero_add] at h
    obtain ⟨sl', ys, q1, q2, q3⟩ := l0_turn tb (h (by omega)) (by omega) a0 (some (Rf 2)) hk (T0 tb ++ [fd (ns.map .int) 0 0 0])
    exact ⟨sl', _, q1, xs ++ ys, q2, rfl, fun _ => by rw [show 27 + 3 * (0 + j + 1) = 27 + 3 * j + 3 by omega]; exact q3⟩)
  have k1 := k1 (by decide)
  subst h1; subst h2
  obtain ⟨sl2, st2, f2, ws2, sp, lf, dr, h3, h4, k2⟩ := forL_invK (keep := always) (tg := tgName 4) (body := l1_law tb) (fg := [4, 5, 6, 7, 8]) (fun k sl st => ∃ (xs : List Str) (sp lf dr : Int), sl = [a0, some (Rf 2), some (.list (xs.map .str)), none, none, none, none, none, none] ∧ st = T0 tb ++ [fd (ns.map .int) sp lf dr] ∧ (k ≤ 12 → Ws (36 + 3 * k) xs)) (fun _ => trivial) (ds := (List.range 12).map fun (j : Nat) => PyData.int (j : Int)) (k := 0) (sl := [a0, some (Rf 2), some (.list (ws1.map .str)), none, none, none, none, none, none]) (st := T0 tb ++ [fd (ns.map .int) 0 0 0]) ⟨_, 0, 0, 0, rfl, rfl, fun _ => k1⟩ (by
    rintro j d sl st hj ⟨xs, sp, lf, dr, rfl, rfl, h⟩
    have hlt : j < 12 := by have := (List.getElem?_eq_some_iff.mp hj).1; simpa using this
    rw [Nat.zero_add] at h
    obtain ⟨sl', ys, sp', lf', dr', q1, q2, q3⟩ := l1_turn tb hcs hcl (h (by omega)) (by omega) a0 d sp lf dr
    exact ⟨sl', _, q1, xs ++ ys, sp', lf', dr', q2, rfl, fun _ => by rw [show 36 + 3 * (0 + j + 1) = 36 + 3 * j + 3 by omega]; exact q3⟩)
  have k2 := k2 (by simp)
  subst h3; subst h4
  obtain ⟨sl3, st3, f3, sp', lf', dr', h5, h6⟩ := forL_inv (keep := always) (tg := tgName 7) (body := l2_law tb) (fg := [7]) (fun _ sl st => ∃ (sp lf dr : Int), sl = [a0, some (Rf 2), some (.list (ws2.map .str)), none, none, none, none, none, none] ∧ st = T0 tb ++ [fd (ns.map .int) sp lf dr]) 1000 (fun _ => trivial) (ds := ws2.map .str) (k := 0) (sl := [a0, some (Rf 2), some (.list (ws2.map .str)), none, none, none, none, none, none]) (st := T0 tb ++ [fd (ns.map .int) sp lf dr]) (by rw [List.length_map]; have := k2.len; simp at this; omega) ⟨_, _, _, rfl, rfl⟩ (by
    rintro d k sl st hd hk ⟨sp, lf, dr, rfl, rfl⟩
    obtain ⟨z, hz, rfl⟩ := List.mem_map.mp hd
    obtain ⟨sl', sp', lf', dr', q1, q2⟩ := l2_turn tb h01 hcs hcl (.list (ws2.map .str)) a0 (k2.ok z hz) sp lf dr
    exact ⟨sl', _, q1, sp', lf', dr', q2, rfl⟩)
  subst h5; subst h6
  have hS : StC (T0 tb ++ [fd (ns.map .int) sp' lf' dr']) := fun g => fzS_app (T0_clean tb g) (fd_ok hcs)
  have qr := q_refused tb hS (T0_ok h01).2
  have rg : mRng1 (mC (.int 12)) [a0, some (Rf 2), some (.list (ws1.map .str)), none, none, none, none, none, none] (T0 tb ++ [fd (ns.map .int) 0 0 0]) = .ok ⟨(List.range 12).map fun (j : Nat) => PyData.int (j : Int), always⟩ (T0 tb ++ [fd (ns.map .int) 0 0 0]) := rng1_at (k := 12) (by simp) (by decide)
  have fin : finR (T0 tb).length (.ok (.bool true) (T0 tb ++ [fd (ns.map .int) sp' lf' dr'])) = .ok (.bool true) (T0 tb) := fin_app (T0_clean tb) rfl
  have mk0 : ∀ s, mkLst (w0.map .str) s = .ok (.list (w0.map .str)) s := fun s => by unfold mkLst; rw [if_pos (sz_le (by decide))]
  have mk1 : ∀ s, mkLst (w1.map .str) s = .ok (.list (w1.map .str)) s := fun s => by unfold mkLst; rw [if_pos (sz_le (by decide))]
  have mk3 : ∀ s, mkLst [.int 59, .int 60, .int 61] s = .ok (.list [.int 59, .int 60, .int 61]) s := fun s => by unfold mkLst; rw [if_pos (sz_le (by simp))]
  have al := add_ws (xs := w0) (ys := w1) (by decide)
  refine ⟨T0 tb, ?_⟩
  unfold F_law b_law
  rw [fnP_e]
  generalize T0 tb ++ [fd (ns.map .int) 0 0 0] = S0 at *
  generalize T0 tb ++ [fd (ns.map .int) sp lf dr] = S1 at *
  generalize T0 tb ++ [fd (ns.map .int) sp' lf' dr'] = S2 at *
  simp only [w0, w1, List.map_cons, List.map_nil, List.cons_append, List.nil_append] at mk0 mk1 al f1
  have wz3 : ∀ (b : Pv.D) (c : Option Pv.D), wipeD [a0, some (Rf 2), some b, c, none, none, none, none, none] [3] = [a0, some (Rf 2), some b, none, none, none, none, none, none] := fun _ _ => rfl
  have wz4 : ∀ (b : Pv.D), wipeD [a0, some (Rf 2), some b, none, none, none, none, none, none] [4, 5, 6, 7, 8] = [a0, some (Rf 2), some b, none, none, none, none, none, none] := fun _ => rfl
  have wz7 : ∀ (b : Pv.D), wipeD [a0, some (Rf 2), some b, none, none, none, none, none, none] [7] = [a0, some (Rf 2), some b, none, none, none, none, none, none] := fun _ => rfl
  rw [show startD 9 [Gs (ns.map PyData.int)] = [a0, none, none, none, none, none, none, none, none] by rw [ha0]; rfl]
  have v0 : mVar 0 [a0, none, none, none, none, none, none, none, none] (T0 tb) = .ok (Gs (ns.map .int)) (T0 tb) := by rw [ha0]; rfl
  simp -implicitDefEqProofs [-e_var, v0, hf', mk0, mk1]
  simp -implicitDefEqProofs [al, mk3, wz3, f1]
  rw [wz4]
  rw [rg]
  simp -implicitDefEqProofs only [th_ok]
  rw [f2]
  simp -implicitDefEqProofs [wz7, f3, qr, fin]
end
end Gstampahead_k12_stamps_read
set_option Elab.async false
set_option linter.all false
set_option maxRecDepth 100000
set_option maxHeartbeats 400000
namespace Gstampahead_k12_stamps_read
open PySem PySem.Spec L2 Pv LamX
open PyProof.Rows hiding St
def top (i : Nat) : Stmt := PySem.Challenge.pw_stampahead_k12_stamps_read.main.body.getD i (.Pass ⟨0, 0, 0, 0⟩)
abbrev s__law_feed : Stmt := top 21
abbrev s__law_draw : Stmt := top 22
abbrev s__law_pick : Stmt := top 23
abbrev s__law_spoilt : Stmt := top 30
abbrev s__law_error : Stmt := top 25
abbrev s__law_heard : Stmt := top 26
abbrev s_want : Stmt := top 13
abbrev s_is_integer : Stmt := top 10
abbrev s_is_number : Stmt := top 11
abbrev s_number_of : Stmt := top 17
abbrev s_integer_of : Stmt := top 18
abbrev s_stamp_read : Stmt := top 19
abbrev s__law_size : Stmt := top 27
abbrev s__law_due : Stmt := top 28
abbrev s__law_same : Stmt := top 24
abbrev s__law_is_right : Stmt := top 29
abbrev s__law_are_refused : Stmt := top 31
abbrev s_law : Stmt := top 32
abbrev i_InvalidText : Stmt := initOf (top 8)
abbrev i_NotUsable : Stmt := initOf (top 7)
structure Tx (P : Program) (w : World) (K : PySem.W.Frag) (mg : Str → Option Value) (cc : Nat → Addr) : Prop where
  d__law_feed : DefB K mg "_law_feed" s__law_feed ["_law_script"] (fun fd => True)
  d__law_draw : DefB K mg "_law_draw" s__law_draw ["_law_feed_here", "_law_many"] (fun fd => True)
  d__law_pick : DefB K mg "_law_pick" s__law_pick ["_law_feed_here", "_law_some"] (fun fd => True)
  d__law_spoilt : DefB K mg "_law_spoilt" s__law_spoilt ["_law_feed_here", "_law_page"] (fun fd => True)
  d__law_error : DefB K mg "_law_error" s__law_error ["_law_e"] (fun fd => True)
  d__law_heard : DefB K mg "_law_heard" s__law_heard ["_law_ask"] (fun fd => True)
  d_want : DefB K mg "want" s_want ["is_right", "word"] (fun fd => True)
  d_is_integer : DefB K mg "is_integer" s_is_integer ["thing"] (fun fd => True)
  d_is_number : DefB K mg "is_number" s_is_number ["thing"] (fun fd => True)
  d_number_of : DefB K mg "number_of" s_number_of ["text"] (fun fd => True)
  d_integer_of : DefB K mg "integer_of" s_integer_of ["text"] (fun fd => True)
  d_stamp_read : DefN K mg "stamp_read" s_stamp_read (fun fd => BindN K fd ["text", "line", "field"] 1 [] [0, 1, 2] [.int 0, .int 0] ∧ BindN K fd ["text", "line", "field"] 1 ["line"] [0, 1, 2] [.int 0] ∧ BindN K fd ["text", "line", "field"] 1 ["field"] [0, 2, 1] [.int 0] ∧ BindN K fd ["text", "line", "field"] 0 ["field", "line", "text"] [2, 1, 0] [] ∧ BindN K fd ["text", "line", "field"] 1 ["line", "field"] [0, 1, 2] [] ∧ True)
  d__law_size : DefB K mg "_law_size" s__law_size ["_law_word"] (fun fd => True)
  d__law_due : DefB K mg "_law_due" s__law_due ["_law_page", "_law_row_in", "_law_col"] (fun fd => True)
  d__law_same : DefB K mg "_law_same" s__law_same ["_law_heard_here", "_law_due_here"] (fun fd => True)
  d__law_is_right : DefC K mg "_law_is_right" s__law_is_right ["_law_page", "_law_row_in", "_law_col"] (cc 0) (fun fd => True)
  d__law_are_refused : DefC K mg "_law_are_refused" s__law_are_refused [] (cc 1) (fun fd => True)
  n_ValueError : mg "ValueError" = none
  n_all : mg "all" = none
  n_bool : mg "bool" = none
  n_int : mg "int" = none
  n_isinstance : mg "isinstance" = none
  n_len : mg "len" = none
  n_range : mg "range" = none
  n_repr : mg "repr" = none
  n_str : mg "str" = none
  c_DIGITS : GcAt K mg "DIGITS" (.str "0123456789")
  c_MOST_DIGITS : GcAt K mg "MOST_DIGITS" (.int 60)
  x_InvalidText : Exc2 P w K mg "InvalidText" "line" "field"
  x_NotUsable : Exc2 P w K mg "NotUsable" "word" "at"
  m_StampError : ExmAt K mg "StampError" ["NotUsable", "InvalidText"]
  f_at : ∀ c ∈ (["NotUsable", "InvalidText"] : List Str), FldE K mg c "at"
  f_field : ∀ c ∈ (["NotUsable", "InvalidText"] : List Str), FldE K mg c "field"
  f_line : ∀ c ∈ (["NotUsable", "InvalidText"] : List Str), FldE K mg c "line"
  f_word : ∀ c ∈ (["NotUsable", "InvalidText"] : List Str), FldE K mg c "word"
  i_ClusterError : ∀ c ∈ (["NotUsable", "InvalidText"] : List Str), IsE K mg c "ClusterError" (([("NotUsable" : Str)] : List Str).contains c)
  i_InvalidPaper : ∀ c ∈ (["NotUsable", "InvalidText"] : List Str), IsE K mg c "InvalidPaper" (([] : List Str).contains c)
  i_InvalidText : ∀ c ∈ (["NotUsable", "InvalidText"] : List Str), IsE K mg c "InvalidText" (([("InvalidText" : Str)] : List Str).contains c)
  i_LiveError : ∀ c ∈ (["NotUsable", "InvalidText"] : List Str), IsE K mg c "LiveError" (([] : List Str).contains c)
  i_NotUsable : ∀ c ∈ (["NotUsable", "InvalidText"] : List Str), IsE K mg c "NotUsable" (([("NotUsable" : Str)] : List Str).contains c)
  i_PaperError : ∀ c ∈ (["NotUsable", "InvalidText"] : List Str), IsE K mg c "PaperError" (([] : List Str).contains c)
  i_TextError : ∀ c ∈ (["NotUsable", "InvalidText"] : List Str), IsE K mg c "TextError" (([("InvalidText" : Str)] : List Str).contains c)
  i_ValueError : ∀ c ∈ (["NotUsable", "InvalidText"] : List Str), IsEb K mg c "ValueError" (([("NotUsable" : Str), ("InvalidText" : Str)] : List Str).contains c)
section
variable {P : Program} {w : World} {K : PySem.W.Frag} {mg : Str → Option Value} {base : Heap} {cc tb : Nat → Addr}
abbrev N__law_feed : List Str := ["_law_script", "_law_cell"]
theorem sc__law_feed : FnScope N__law_feed ["_law_script"] (defScope s__law_feed) := ⟨rfl, rfl, rfl, by decide +kernel, rfl, by decide +kernel, by decide +kernel⟩
theorem h__law_feed (t : Tx P w K mg cc) : HasB P w K mg base 1 "_law_feed" ["_law_script"] F__law_feed (fun fd => True) := by
  obtain ⟨f, fd, hF, hm, hb, hk⟩ := t.d__law_feed
  refine ⟨f, fd, ⟨fnG_of hF sc__law_feed (.inl rfl) ?_, hm, hF.kp, hb⟩, hk⟩
  intro cdv A outer s H E g hr tk po
  exact gss_one (gs_ret (ge_dct (.cons (ge_str) (ge_lc [("_law_cell", 1)] (.nm 1) g (gi_iter (ge_slice (ge_var 0) (go_none) (go_some (ge_int)))) (blkOk_by (N := N__law_feed) (sc := defScope s__law_feed) (by decide +kernel)) (fun _ _ _ _ _ gB1 => gct_name 1 gB1) (fun _ _ _ _ _ gB1 => gts_nil) (fun _ _ _ _ _ gB1 => ge_toint t.n_int (ge_var 1))) (.cons (ge_str) (ge_int) (.cons (ge_str) (ge_int) (.cons (ge_str) (ge_int) (.nil)))))))
abbrev N__law_draw : List Str := ["_law_feed_here", "_law_many", "_law_figure", "_law_idx", "_law_cells", "_law_cell", "_law_mixed"]
theorem sc__law_draw : FnScope N__law_draw ["_law_feed_here", "_law_many"] (defScope s__law_draw) := ⟨rfl, rfl, rfl, by decide +kernel, rfl, by decide +kernel, by decide +kernel⟩
theorem h__law_draw (t : Tx P w K mg cc) : HasB P w K mg base 1 "_law_draw" ["_law_feed_here", "_law_many"] F__law_draw (fun fd => True) := by
  obtain ⟨f, fd, hF, hm, hb, hk⟩ := t.d__law_draw
  refine ⟨f, fd, ⟨fnG_of hF sc__law_draw (.inr rfl) ?_, hm, hF.kp, hb⟩, hk⟩
  intro cdv A outer s H E g hr tk po
  exact gss_cons (gs_asg (ge_add (ge_ix g (ge_var 0) (ge_str)) (ge_int)) (gg_sub g (ge_var 0) (ge_str))) (gss_cons (gs_if (gt_cmp g (ge_ix g (ge_var 0) (ge_str)) (ge_int)) (gss_cons (gs_asg (ge_mod (ge_toint t.n_int (ge_ix g (ge_var 0) (ge_str))) (ge_var 1)) (gg_name g 2)) (gss_cons (gs_asg (ge_fdiv (ge_ix g (ge_var 0) (ge_str)) (ge_var 1)) (gg_sub g (ge_var 0) (ge_str))) (gss_one (gs_ret (ge_var 2))))) (gss_nil)) (gss_cons (gs_par2 g (i := 3) (j := 4) (ga_cons (ge_ix g (ge_var 0) (ge_str)) (ga_cons (ge_ix g (ge_var 0) (ge_str)) (ga_nil))) rfl rfl (by decide) rfl rfl rfl rfl) (gss_cons (gs_asg (ge_add (ge_var 3) (ge_int)) (gg_sub g (ge_var 0) (ge_str))) (gss_cons (gs_asg (ge_if (gt_cmp g (ge_var 4) (ge_lst (ga_nil))) (ge_ix g (ge_var 4) (ge_mod (ge_toint t.n_int (ge_var 3)) (ge_len t.n_len (ge_var 4)))) (ge_int)) (gg_name g 5)) (gss_cons (gs_if (gt_bool (gw_and (gt_cmp g (ge_var 5) (ge_pow (ge_int) (ge_int))) (gw_and1 (gt_cmp g (ge_var 3) (ge_len t.n_len (ge_var 4)))))) (gss_cons (gs_asg (ge_fdiv (ge_var 5) (ge_var 1)) (gg_sub g (ge_var 0) (ge_str))) (gss_one (gs_ret (ge_mod (ge_toint t.n_int (ge_var 5)) (ge_var 1))))) (gss_nil)) (gss_cons (gs_asg (ge_mod (ge_toint t.n_int (ge_add (ge_add (ge_mulS (ge_mod (ge_toint t.n_int (ge_var 5)) (ge_int)) (ge_int)) (ge_mulS (ge_int) (ge_ix g (ge_var 0) (ge_str)))) (ge_int))) (ge_int)) (gg_name g 6)) (gss_cons (gs_asg (ge_mod (ge_toint t.n_int (ge_add (ge_add (ge_mulS (ge_var 6) (ge_var 6)) (ge_mulS (ge_int) (ge_ix g (ge_var 0) (ge_str)))) (ge_int))) (ge_int)) (gg_name g 6)) (gss_one (gs_ret (ge_mod (ge_toint t.n_int (ge_fdiv (ge_mod (ge_toint t.n_int (ge_add (ge_mulS (ge_var 6) (ge_var 6)) (ge_mulS (ge_int) (ge_var 6)))) (ge_int)) (ge_int))) (ge_var 1)))))))))))
abbrev N__law_pick : List Str := ["_law_feed_here", "_law_some"]
theorem sc__law_pick : FnScope N__law_pick ["_law_feed_here", "_law_some"] (defScope s__law_pick) := ⟨rfl, rfl, rfl, by decide +kernel, rfl, by decide +kernel, by decide +kernel⟩
theorem h__law_pick (t : Tx P w K mg cc) : HasB P w K mg base 2 "_law_pick" ["_law_feed_here", "_law_some"] F__law_pick (fun fd => True) := by
  obtain ⟨f, fd, hF, hm, hb, hk⟩ := t.d__law_pick
  obtain ⟨f__law_draw, fd__law_draw, D__law_draw, _⟩ := h__law_draw (base := base) t
  refine ⟨f, fd, ⟨fnG_of hF sc__law_pick (.inr rfl) ?_, hm, hF.kp, hb⟩, hk⟩
  intro cdv A outer s H E g hr tk po
  exact gss_one (gs_ret (ge_ix g (ge_var 1) (ge_call (D__law_draw.mono (by decide)) hr g tk (ga_cons (ge_var 0) (ga_cons (ge_len t.n_len (ge_var 1)) (ga_nil))) (ln_cons (ln_cons (ln_nil))))))
abbrev N__law_spoilt : List Str := ["_law_feed_here", "_law_page", "_law_cut", "_law_lot", "_law_sign"]
theorem sc__law_spoilt : FnScope N__law_spoilt ["_law_feed_here", "_law_page"] (defScope s__law_spoilt) := ⟨rfl, rfl, rfl, by decide +kernel, rfl, by decide +kernel, by decide +kernel⟩
theorem h__law_spoilt (t : Tx P w K mg cc) : HasB P w K mg base 3 "_law_spoilt" ["_law_feed_here", "_law_page"] F__law_spoilt (fun fd => True) := by
  obtain ⟨f, fd, hF, hm, hb, hk⟩ := t.d__law_spoilt
  obtain ⟨f__law_draw, fd__law_draw, D__law_draw, _⟩ := h__law_draw (base := base) t
  obtain ⟨f__law_pick, fd__law_pick, D__law_pick, _⟩ := h__law_pick (base := base) t
  refine ⟨f, fd, ⟨fnG_of hF sc__law_spoilt (.inr rfl) ?_, hm, hF.kp, hb⟩, hk⟩
  intro cdv A outer s H E g hr tk po
  exact gss_cons (gs_par2 g (i := 2) (j := 3) (ga_cons (ge_call (D__law_draw.mono (by decide)) hr g tk (ga_cons (ge_var 0) (ga_cons (ge_add (ge_len t.n_len (ge_var 1)) (ge_int)) (ga_nil))) (ln_cons (ln_cons (ln_nil)))) (ga_cons (ge_call (D__law_draw.mono (by decide)) hr g tk (ga_cons (ge_var 0) (ga_cons (ge_int) (ga_nil))) (ln_cons (ln_cons (ln_nil)))) (ga_nil))) rfl rfl (by decide) rfl rfl rfl rfl) (gss_cons (gs_if (gt_cmp g (ge_var 3) (ge_int)) (gss_one (gs_ret (ge_add (ge_slice (ge_var 1) (go_none) (go_some (ge_var 2))) (ge_slice (ge_var 1) (go_some (ge_add (ge_var 2) (ge_int))) (go_none))))) (gss_nil)) (gss_cons (gs_if (gt_cmp g (ge_var 3) (ge_int)) (gss_one (gs_ret (ge_add (ge_add (ge_slice (ge_var 1) (go_none) (go_some (ge_var 2))) (ge_slice (ge_var 1) (go_some (ge_var 2)) (go_some (ge_add (ge_var 2) (ge_int))))) (ge_slice (ge_var 1) (go_some (ge_var 2)) (go_none))))) (gss_nil)) (gss_cons (gs_asg (ge_call (D__law_pick.mono (by decide)) hr g tk (ga_cons (ge_var 0) (ga_cons (ge_lst (ga_cons (ge_str) (ga_cons (ge_str) (ga_cons (ge_str) (ga_cons (ge_str) (ga_cons (ge_str) (ga_cons (ge_str) (ga_cons (ge_str) (ga_cons (ge_str) (ga_cons (ge_str) (ga_cons (ge_str) (ga_cons (ge_str) (ga_nil))))))))))))) (ga_nil))) (ln_cons (ln_cons (ln_nil)))) (gg_name g 4)) (gss_one (gs_ret (ge_add (ge_add (ge_slice (ge_var 1) (go_none) (go_some (ge_var 2))) (ge_var 4)) (ge_slice (ge_var 1) (go_some (ge_add (ge_var 2) (ge_toint t.n_int (ge_cmp g (ge_var 3) (ge_int))))) (go_none))))))))
abbrev N__law_error : List Str := ["_law_e", "_law_kinds"]
theorem sc__law_error : FnScope N__law_error ["_law_e"] (defScope s__law_error) := ⟨rfl, rfl, rfl, by decide +kernel, rfl, by decide +kernel, by decide +kernel⟩
theorem hE__law_error (t : Tx P w K mg cc) : SaidE P w K mg base "_law_error" ["NotUsable", "InvalidText"] 2 b__law_error := by
  obtain ⟨f, fd, hF, hm, hb, _⟩ := t.d__law_error
  refine ⟨f, fd, s__law_error, _, N__law_error, hF, hm, hb, sc__law_error, rfl, ?_⟩
  intro cdv A outer s H b dd c oe hc u g0
  exact gss_cons (gs_asg (ge_lst (ga_cons (ge_isE u (t.i_PaperError c hc) t.n_isinstance (ge_var 0)) (ga_cons (ge_isE u (t.i_ClusterError c hc) t.n_isinstance (ge_var 0)) (ga_cons (ge_isE u (t.i_LiveError c hc) t.n_isinstance (ge_var 0)) (ga_cons (ge_isE u (t.i_TextError c hc) t.n_isinstance (ge_var 0)) (ga_nil)))))) (gg_name g0 1)) (gss_cons (gs_if (gt_bool (gw_or (gt_cmp g0 (ge_count g0 (ge_var 1) (ge_bool)) (ge_int)) (gw_or1 (gt_not (gt_val (ge_isEb u (t.i_ValueError c hc) t.n_isinstance t.n_ValueError (ge_var 0))))))) (gss_one (gs_ret (ge_tup (ga_cons (ge_str) (ga_nil))))) (gss_nil)) (gss_cons (gs_if (gt_bool (gw_and (gt_val (ge_ix g0 (ge_var 1) (ge_int))) (gw_and1 (gt_val (ge_isE u (t.i_InvalidPaper c hc) t.n_isinstance (ge_var 0)))))) (gss_one (gs_ret (ge_tup (ga_cons (ge_str) (ga_cons (ge_fld u (t.f_word c hc) (ge_var 0)) (ga_cons (ge_fld u (t.f_at c hc) (ge_var 0)) (ga_nil))))))) (gss_nil)) (gss_cons (gs_if (gt_bool (gw_and (gt_val (ge_ix g0 (ge_var 1) (ge_int))) (gw_and1 (gt_val (ge_isE u (t.i_NotUsable c hc) t.n_isinstance (ge_var 0)))))) (gss_one (gs_ret (ge_tup (ga_cons (ge_str) (ga_cons (ge_fld u (t.f_word c hc) (ge_var 0)) (ga_cons (ge_fld u (t.f_at c hc) (ge_var 0)) (ga_nil))))))) (gss_nil)) (gss_one (gs_ret (ge_if (gt_bool (gw_and (gt_val (ge_ix g0 (ge_var 1) (ge_int))) (gw_and1 (gt_val (ge_isE u (t.i_InvalidText c hc) t.n_isinstance (ge_var 0)))))) (ge_tup (ga_cons (ge_str) (ga_cons (ge_fld u (t.f_line c hc) (ge_var 0)) (ga_cons (ge_fld u (t.f_field c hc) (ge_var 0)) (ga_nil))))) (ge_tup (ga_cons (ge_str) (ga_nil)))))))))
abbrev N__law_heard : List Str := ["_law_ask", "_law_e"]
theorem sc__law_heard : FnScope N__law_heard ["_law_ask"] (defScope s__law_heard) := ⟨rfl, rfl, rfl, by decide +kernel, rfl, by decide +kernel, by decide +kernel⟩
theorem hs__law_heard (t : Tx P w K mg cc) : Said P w K mg base "_law_heard" sF__law_heard := by
  obtain ⟨f, fd, hF, hm, hb, _⟩ := t.d__law_heard
  obtain ⟨CS, hme, hcs⟩ := t.m_StampError
  have H__law_error := hE__law_error (base := base) t
  refine said_ofC (Ng := N__law_heard) (u := "told") (a := "_law_ask") (n := "_law_e") (C := "StampError") (cs := cs__law_heard) (i := 1) (bh := b__law_heard) hF hm hb sc__law_heard (by rfl) hme hcs ind__law_heard ?_
  intro cdv A outer s H b dd c oe pn hc u g0 r1
  exact gss_one (gs_ret (ge_callE hc u H__law_error r1 g0.gu (ge_var 1)))
abbrev N_want : List Str := ["is_right", "word"]
theorem sc_want : FnScope N_want ["is_right", "word"] (defScope s_want) := ⟨rfl, rfl, rfl, by decide +kernel, rfl, by decide +kernel, by decide +kernel⟩
theorem h_want (t : Tx P w K mg cc) : HasB P w K mg base 3 "want" ["is_right", "word"] F_want (fun fd => True) := by
  obtain ⟨f, fd, hF, hm, hb, hk⟩ := t.d_want
  obtain ⟨Cx_NotUsable, fI_NotUsable, fdI_NotUsable, psI_NotUsable, X_NotUsable⟩ := t.x_NotUsable
  refine ⟨f, fd, ⟨fnG_of hF sc_want (.inr rfl) ?_, hm, hF.kp, hb⟩, hk⟩
  intro cdv A outer s H E g hr tk po
  exact gss_one (gs_if (gt_not (gt_val (ge_var 0))) (gss_one (gs_raise2 (X_NotUsable _ rfl rfl rfl rfl) g (hr.mono (by decide)) tk (ga_cons (ge_var 1) (ga_cons (ge_neg (ge_int)) (ga_nil))))) (gss_nil))
abbrev N_is_integer : List Str := ["thing"]
theorem sc_is_integer : FnScope N_is_integer ["thing"] (defScope s_is_integer) := ⟨rfl, rfl, rfl, by decide +kernel, rfl, by decide +kernel, by decide +kernel⟩
theorem h_is_integer (t : Tx P w K mg cc) : HasB P w K mg base 1 "is_integer" ["thing"] F_is_integer (fun fd => True) := by
  obtain ⟨f, fd, hF, hm, hb, hk⟩ := t.d_is_integer
  refine ⟨f, fd, ⟨fnG_of hF sc_is_integer (.inr rfl) ?_, hm, hF.kp, hb⟩, hk⟩
  intro cdv A outer s H E g hr tk po
  exact gss_one (gs_ret (ge_and (ge_isi .int t.n_isinstance t.n_int (ge_var 0)) (ge_one (ge_not (ge_isi .bool t.n_isinstance t.n_bool (ge_var 0))))))
abbrev N_is_number : List Str := ["thing"]
theorem sc_is_number : FnScope N_is_number ["thing"] (defScope s_is_number) := ⟨rfl, rfl, rfl, by decide +kernel, rfl, by decide +kernel, by decide +kernel⟩
theorem h_is_number (t : Tx P w K mg cc) : HasB P w K mg base 2 "is_number" ["thing"] F_is_number (fun fd => True) := by
  obtain ⟨f, fd, hF, hm, hb, hk⟩ := t.d_is_number
  obtain ⟨f_is_integer, fd_is_integer, D_is_integer, _⟩ := h_is_integer (base := base) t
  refine ⟨f, fd, ⟨fnG_of hF sc_is_number (.inr rfl) ?_, hm, hF.kp, hb⟩, hk⟩
  intro cdv A outer s H E g hr tk po
  exact gss_one (gs_ret (ge_and (ge_call (D_is_integer.mono (by decide)) hr g tk (ga_cons (ge_var 0) (ga_nil)) (ln_cons (ln_nil))) (ge_one (ge_cmp g (ge_var 0) (ge_int)))))
abbrev N_number_of : List Str := ["text", "sign"]
theorem sc_number_of : FnScope N_number_of ["text"] (defScope s_number_of) := ⟨rfl, rfl, rfl, by decide +kernel, rfl, by decide +kernel, by decide +kernel⟩
theorem h_number_of (t : Tx P w K mg cc) : HasB P w K mg base 1 "number_of" ["text"] F_number_of (fun fd => True) := by
  obtain ⟨f, fd, hF, hm, hb, hk⟩ := t.d_number_of
  obtain ⟨u_DIGITS, v_DIGITS, hc_DIGITS, rr_DIGITS, gi_DIGITS⟩ := t.c_DIGITS
  obtain ⟨u_MOST_DIGITS, v_MOST_DIGITS, hc_MOST_DIGITS, rr_MOST_DIGITS, gi_MOST_DIGITS⟩ := t.c_MOST_DIGITS
  refine ⟨f, fd, ⟨fnG_of hF sc_number_of (.inr rfl) ?_, hm, hF.kp, hb⟩, hk⟩
  intro cdv A outer s H E g hr tk po
  exact gss_cons (gs_if (gt_bool (gw_or (gt_not (gt_chain g (ge_int) (ge_len t.n_len (ge_var 0)) (ge_glob rfl hc_MOST_DIGITS rr_MOST_DIGITS gi_MOST_DIGITS))) (gw_or1 (gt_not (gt_val (ge_all g t.n_all (ge_lc [("sign", 1)] (.nm 1) g (gi_iter (ge_var 0)) (blkOk_by (N := N_number_of) (sc := defScope s_number_of) (by decide +kernel)) (fun _ _ _ _ _ gB1 => gct_name 1 gB1) (fun _ _ _ _ _ gB1 => gts_nil) (fun _ _ _ _ _ gB1 => ge_cmp gB1 (ge_var 1) (ge_glob rfl hc_DIGITS rr_DIGITS gi_DIGITS))))))))) (gss_one (gs_ret (ge_none))) (gss_nil)) (gss_one (gs_ret (ge_if (gt_bool (gw_and (gt_cmp g (ge_ix g (ge_var 0) (ge_int)) (ge_str)) (gw_and1 (gt_cmp g (ge_var 0) (ge_str))))) (ge_none) (ge_toint t.n_int (ge_var 0)))))
abbrev N_integer_of : List Str := ["text", "number"]
theorem sc_integer_of : FnScope N_integer_of ["text"] (defScope s_integer_of) := ⟨rfl, rfl, rfl, by decide +kernel, rfl, by decide +kernel, by decide +kernel⟩
theorem h_integer_of (t : Tx P w K mg cc) : HasB P w K mg base 2 "integer_of" ["text"] F_integer_of (fun fd => True) := by
  obtain ⟨f, fd, hF, hm, hb, hk⟩ := t.d_integer_of
  obtain ⟨f_number_of, fd_number_of, D_number_of, _⟩ := h_number_of (base := base) t
  refine ⟨f, fd, ⟨fnG_of hF sc_integer_of (.inr rfl) ?_, hm, hF.kp, hb⟩, hk⟩
  intro cdv A outer s H E g hr tk po
  exact gss_cons (gs_if (gt_cmp g (ge_slice (ge_var 0) (go_none) (go_some (ge_int))) (ge_str)) (gss_one (gs_ret (ge_call (D_number_of.mono (by decide)) hr g tk (ga_cons (ge_var 0) (ga_nil)) (ln_cons (ln_nil))))) (gss_nil)) (gss_cons (gs_asg (ge_call (D_number_of.mono (by decide)) hr g tk (ga_cons (ge_slice (ge_var 0) (go_some (ge_int)) (go_none)) (ga_nil)) (ln_cons (ln_nil))) (gg_name g 1)) (gss_one (gs_ret (ge_if (gt_bool (gw_or (gt_isN (ge_var 1)) (gw_or1 (gt_cmp g (ge_var 1) (ge_int))))) (ge_none) (ge_neg (ge_var 1))))))
abbrev N_stamp_read : List Str := ["text", "line", "field", "parts", "stamp"]
theorem sc_stamp_read : FnScope N_stamp_read ["text", "line", "field"] (defScope s_stamp_read) := ⟨rfl, rfl, rfl, by decide +kernel, rfl, by decide +kernel, by decide +kernel⟩
theorem h_stamp_read (t : Tx P w K mg cc) : HasN P w K mg base 4 "stamp_read" ["text", "line", "field"] F_stamp_read (fun fd => BindN K fd ["text", "line", "field"] 1 [] [0, 1, 2] [.int 0, .int 0] ∧ BindN K fd ["text", "line", "field"] 1 ["line"] [0, 1, 2] [.int 0] ∧ BindN K fd ["text", "line", "field"] 1 ["field"] [0, 2, 1] [.int 0] ∧ BindN K fd ["text", "line", "field"] 0 ["field", "line", "text"] [2, 1, 0] [] ∧ BindN K fd ["text", "line", "field"] 1 ["line", "field"] [0, 1, 2] [] ∧ True) := by
  obtain ⟨f, fd, hF, kp, hm, hk⟩ := t.d_stamp_read
  obtain ⟨f_want, fd_want, D_want, _⟩ := h_want (base := base) t
  obtain ⟨f_is_number, fd_is_number, D_is_number, _⟩ := h_is_number (base := base) t
  obtain ⟨f_integer_of, fd_integer_of, D_integer_of, _⟩ := h_integer_of (base := base) t
  obtain ⟨f_number_of, fd_number_of, D_number_of, _⟩ := h_number_of (base := base) t
  obtain ⟨Cx_InvalidText, fI_InvalidText, fdI_InvalidText, psI_InvalidText, X_InvalidText⟩ := t.x_InvalidText
  refine ⟨f, fd, ⟨fnG_ofN hF sc_stamp_read (.inr rfl) ?_, hm, kp⟩, hk⟩
  intro cdv A outer s H E g hr tk po
  exact gss_cons (gs_expr (ge_call (D_want.mono (by decide)) hr g tk (ga_cons (ge_isi .str t.n_isinstance t.n_str (ge_var 0)) (ga_cons (ge_str) (ga_nil))) (ln_cons (ln_cons (ln_nil))))) (gss_cons (gs_expr (ge_call (D_want.mono (by decide)) hr g tk (ga_cons (ge_call (D_is_number.mono (by decide)) hr g tk (ga_cons (ge_var 1) (ga_nil)) (ln_cons (ln_nil))) (ga_cons (ge_str) (ga_nil))) (ln_cons (ln_cons (ln_nil))))) (gss_cons (gs_expr (ge_call (D_want.mono (by decide)) hr g tk (ga_cons (ge_call (D_is_number.mono (by decide)) hr g tk (ga_cons (ge_var 2) (ga_nil)) (ln_cons (ln_nil))) (ga_cons (ge_str) (ga_nil))) (ln_cons (ln_cons (ln_nil))))) (gss_cons (gs_asg (ge_split (ge_var 0) (ge_str)) (gg_name g 3)) (gss_cons (gs_asg (ge_if (gt_cmp g (ge_len t.n_len (ge_var 3)) (ge_int)) (ge_tup (ga_cons (ge_call (D_integer_of.mono (by decide)) hr g tk (ga_cons (ge_ix g (ge_var 3) (ge_int)) (ga_nil)) (ln_cons (ln_nil))) (ga_cons (ge_call (D_number_of.mono (by decide)) hr g tk (ga_cons (ge_ix g (ge_var 3) (ge_int)) (ga_nil)) (ln_cons (ln_nil))) (ga_nil)))) (ge_tup (ga_cons (ge_none) (ga_cons (ge_none) (ga_nil))))) (gg_name g 4)) (gss_cons (gs_if (gt_cmp g (ge_none) (ge_var 4)) (gss_one (gs_raise2 (X_InvalidText _ rfl rfl rfl rfl) g (hr.mono (by decide)) tk (ga_cons (ge_var 1) (ga_cons (ge_var 2) (ga_nil))))) (gss_nil)) (gss_one (gs_ret (ge_var 4))))))))
abbrev N__law_size : List Str := ["_law_word", "_law_sign"]
theorem sc__law_size : FnScope N__law_size ["_law_word"] (defScope s__law_size) := ⟨rfl, rfl, rfl, by decide +kernel, rfl, by decide +kernel, by decide +kernel⟩
theorem h__law_size (t : Tx P w K mg cc) : HasB P w K mg base 1 "_law_size" ["_law_word"] F__law_size (fun fd => True) := by
  obtain ⟨f, fd, hF, hm, hb, hk⟩ := t.d__law_size
  refine ⟨f, fd, ⟨fnG_of hF sc__law_size (.inr rfl) ?_, hm, hF.kp, hb⟩, hk⟩
  intro cdv A outer s H E g hr tk po
  exact gss_cons (gs_if (gt_bool (gw_or (gt_not (gt_chain g (ge_int) (ge_len t.n_len (ge_var 0)) (ge_int))) (gw_or1 (gt_cmp g (ge_lc [("_law_sign", 1)] (.nm 1) g (gi_iter (ge_var 0)) (blkOk_by (N := N__law_size) (sc := defScope s__law_size) (by decide +kernel)) (fun _ _ _ _ _ gB1 => gct_name 1 gB1) (fun _ _ _ _ _ gB1 => gts_one (gt_cmp gB1 (ge_var 1) (ge_str))) (fun _ _ _ _ _ gB1 => ge_var 1)) (ge_lst (ga_nil)))))) (gss_one (gs_ret (ge_neg (ge_int)))) (gss_nil)) (gss_one (gs_ret (ge_if (gt_bool (gw_or (gt_cmp g (ge_var 0) (ge_str)) (gw_or1 (gt_cmp g (ge_ix g (ge_var 0) (ge_int)) (ge_str))))) (ge_toint t.n_int (ge_var 0)) (ge_neg (ge_int)))))
abbrev N__law_due : List Str := ["_law_page", "_law_row_in", "_law_col", "_law_halves", "_law_is_low", "_law_mark", "_law_count"]
theorem sc__law_due : FnScope N__law_due ["_law_page", "_law_row_in", "_law_col"] (defScope s__law_due) := ⟨rfl, rfl, rfl, by decide +kernel, rfl, by decide +kernel, by decide +kernel⟩
theorem h__law_due (t : Tx P w K mg cc) : HasB P w K mg base 2 "_law_due" ["_law_page", "_law_row_in", "_law_col"] F__law_due (fun fd => True) := by
  obtain ⟨f, fd, hF, hm, hb, hk⟩ := t.d__law_due
  obtain ⟨f__law_size, fd__law_size, D__law_size, _⟩ := h__law_size (base := base) t
  refine ⟨f, fd, ⟨fnG_of hF sc__law_due (.inr rfl) ?_, hm, hF.kp, hb⟩, hk⟩
  intro cdv A outer s H E g hr tk po
  exact gss_cons (gs_asg (ge_split (ge_var 0) (ge_str)) (gg_name g 3)) (gss_cons (gs_if (gt_cmp g (ge_len t.n_len (ge_var 3)) (ge_int)) (gss_one (gs_ret (ge_tup (ga_cons (ge_str) (ga_cons (ge_var 1) (ga_cons (ge_var 2) (ga_nil))))))) (gss_nil)) (gss_cons (gs_asg (ge_cmp g (ge_slice (ge_ix g (ge_var 3) (ge_int)) (go_none) (go_some (ge_int))) (ge_str)) (gg_name g 4)) (gss_cons (gs_par2 g (i := 5) (j := 6) (ga_cons (ge_call (D__law_size.mono (by decide)) hr g tk (ga_cons (ge_if (gt_val (ge_var 4)) (ge_slice (ge_ix g (ge_var 3) (ge_int)) (go_some (ge_int)) (go_none)) (ge_ix g (ge_var 3) (ge_int))) (ga_nil)) (ln_cons (ln_nil))) (ga_cons (ge_call (D__law_size.mono (by decide)) hr g tk (ga_cons (ge_ix g (ge_var 3) (ge_int)) (ga_nil)) (ln_cons (ln_nil))) (ga_nil))) rfl rfl (by decide) rfl rfl rfl rfl) (gss_cons (gs_if (gt_bool (gw_or (gt_cmp g (ge_var 5) (ge_int)) (gw_or (gt_cmp g (ge_var 6) (ge_int)) (gw_or1 (gt_bool (gw_and (gt_val (ge_var 4)) (gw_and1 (gt_cmp g (ge_var 5) (ge_int))))))))) (gss_one (gs_ret (ge_tup (ga_cons (ge_str) (ga_cons (ge_var 1) (ga_cons (ge_var 2) (ga_nil))))))) (gss_nil)) (gss_one (gs_ret (ge_tup (ga_cons (ge_str) (ga_cons (ge_tup (ga_cons (ge_if (gt_val (ge_var 4)) (ge_neg (ge_var 5)) (ge_var 5)) (ga_cons (ge_var 6) (ga_nil)))) (ga_nil))))))))))
abbrev N__law_same : List Str := ["_law_heard_here", "_law_due_here"]
theorem sc__law_same : FnScope N__law_same ["_law_heard_here", "_law_due_here"] (defScope s__law_same) := ⟨rfl, rfl, rfl, by decide +kernel, rfl, by decide +kernel, by decide +kernel⟩
theorem h__law_same (t : Tx P w K mg cc) : HasB P w K mg base 1 "_law_same" ["_law_heard_here", "_law_due_here"] F__law_same (fun fd => True) := by
  obtain ⟨f, fd, hF, hm, hb, hk⟩ := t.d__law_same
  refine ⟨f, fd, ⟨fnG_of hF sc__law_same (.inr rfl) ?_, hm, hF.kp, hb⟩, hk⟩
  intro cdv A outer s H E g hr tk po
  exact gss_one (gs_ret (ge_cmp g (ge_reprF g t.n_repr (ge_var 0)) (ge_reprF g t.n_repr (ge_var 1))))
abbrev N__law_is_right : List Str := ["_law_page", "_law_row_in", "_law_col", "_law_told_of", "_law_due_here"]
theorem sc__law_is_right : FnScope N__law_is_right ["_law_page", "_law_row_in", "_law_col"] (defScope s__law_is_right) := ⟨rfl, rfl, rfl, by decide +kernel, rfl, by decide +kernel, by decide +kernel⟩
theorem h__law_is_right (t : Tx P w K mg cc) (tB : ∀ j < 2, TabB base mg (cc j) (tb j)) : HasB P w K mg base 7 "_law_is_right" ["_law_page", "_law_row_in", "_law_col"] (F__law_is_right tb) (fun fd => True) := by
  obtain ⟨f, fd, hF, kp, hm, hb, hk⟩ := t.d__law_is_right
  have S__law_heard := hs__law_heard (base := base) t
  obtain ⟨f_stamp_read, fd_stamp_read, D_stamp_read, BN_stamp_read_0, BN_stamp_read_1, BN_stamp_read_2, BN_stamp_read_3, BN_stamp_read_4, _⟩ := h_stamp_read (base := base) t
  obtain ⟨f__law_due, fd__law_due, D__law_due, _⟩ := h__law_due (base := base) t
  obtain ⟨f__law_same, fd__law_same, D__law_same, _⟩ := h__law_same (base := base) t
  refine ⟨f, fd, ⟨fnG_cd hF sc__law_is_right (.inr rfl) ?_, hm, kp, hb⟩, hk⟩
  intro A outer s H E g hr tk po
  exact gss_cons (gs_asg (ge_lstM (ga_cons (ge_said S__law_heard hr g ⟨_, tB 0 (by decide), rfl⟩ (fun _ _ _ _ _ _ _ rL1 gL2 kL3 => ge_callNp (D_stamp_read.mono (by decide)) BN_stamp_read_0 rL1 gL2 kL3 (ga_cons (ge_var 0) (ga_nil)) (ln_cons (ln_nil))) (lamS_by (sc := defScope s__law_is_right) (by decide +kernel))) (ga_nil))) (gg_name g 3)) (gss_cons (gs_expr (ge_append (ge_var 3) (ge_said S__law_heard hr g ⟨_, tB 0 (by decide), rfl⟩ (fun _ _ _ _ _ _ _ rL4 gL5 kL6 => ge_callN (D_stamp_read.mono (by decide)) BN_stamp_read_1 rL4 gL5 kL6 (ga_cons (ge_var 0) (ga_nil)) (gk_cons (ge_var 1) (gk_nil)) (ln_cons (ln_nil)) (ln_cons (ln_nil))) (lamS_by (sc := defScope s__law_is_right) (by decide +kernel))))) (gss_cons (gs_expr (ge_append (ge_var 3) (ge_said S__law_heard hr g ⟨_, tB 0 (by decide), rfl⟩ (fun _ _ _ _ _ _ _ rL7 gL8 kL9 => ge_callN (D_stamp_read.mono (by decide)) BN_stamp_read_2 rL7 gL8 kL9 (ga_cons (ge_var 0) (ga_nil)) (gk_cons (ge_var 2) (gk_nil)) (ln_cons (ln_nil)) (ln_cons (ln_nil))) (lamS_by (sc := defScope s__law_is_right) (by decide +kernel))))) (gss_cons (gs_expr (ge_append (ge_var 3) (ge_said S__law_heard hr g ⟨_, tB 0 (by decide), rfl⟩ (fun _ _ _ _ _ _ _ rL10 gL11 kL12 => ge_callNk (D_stamp_read.mono (by decide)) BN_stamp_read_3 rL10 gL11 kL12 (gk_cons (ge_var 2) (gk_cons (ge_var 1) (gk_cons (ge_var 0) (gk_nil)))) (ln_cons (ln_cons (ln_cons (ln_nil))))) (lamS_by (sc := defScope s__law_is_right) (by decide +kernel))))) (gss_cons (gs_asg (ge_lst (ga_cons (ge_call (D__law_due.mono (by decide)) hr g tk (ga_cons (ge_var 0) (ga_cons (ge_int) (ga_cons (ge_int) (ga_nil)))) (ln_cons (ln_cons (ln_cons (ln_nil))))) (ga_cons (ge_call (D__law_due.mono (by decide)) hr g tk (ga_cons (ge_var 0) (ga_cons (ge_var 1) (ga_cons (ge_int) (ga_nil)))) (ln_cons (ln_cons (ln_cons (ln_nil))))) (ga_cons (ge_call (D__law_due.mono (by decide)) hr g tk (ga_cons (ge_var 0) (ga_cons (ge_int) (ga_cons (ge_var 2) (ga_nil)))) (ln_cons (ln_cons (ln_cons (ln_nil))))) (ga_cons (ge_call (D__law_due.mono (by decide)) hr g tk (ga_cons (ge_var 0) (ga_cons (ge_var 1) (ga_cons (ge_var 2) (ga_nil)))) (ln_cons (ln_cons (ln_cons (ln_nil))))) (ga_nil)))))) (gg_name g 4)) (gss_one (gs_ret (ge_call (D__law_same.mono (by decide)) hr g tk (ga_cons (ge_var 3) (ga_cons (ge_var 4) (ga_nil))) (ln_cons (ln_cons (ln_nil))))))))))
abbrev N__law_are_refused : List Str := ["_law_odd", "_law_told_of"]
theorem sc__law_are_refused : FnScope N__law_are_refused [] (defScope s__law_are_refused) := ⟨rfl, rfl, rfl, by decide +kernel, rfl, by decide +kernel, by decide +kernel⟩
theorem h__law_are_refused (t : Tx P w K mg cc) (tB : ∀ j < 2, TabB base mg (cc j) (tb j)) : HasB P w K mg base 7 "_law_are_refused" [] (F__law_are_refused tb) (fun fd => True) := by
  obtain ⟨f, fd, hF, kp, hm, hb, hk⟩ := t.d__law_are_refused
  have S__law_heard := hs__law_heard (base := base) t
  obtain ⟨f_stamp_read, fd_stamp_read, D_stamp_read, BN_stamp_read_0, BN_stamp_read_1, BN_stamp_read_2, BN_stamp_read_3, BN_stamp_read_4, _⟩ := h_stamp_read (base := base) t
  obtain ⟨f__law_same, fd__law_same, D__law_same, _⟩ := h__law_same (base := base) t
  refine ⟨f, fd, ⟨fnG_cd hF sc__law_are_refused (.inr rfl) ?_, hm, kp, hb⟩, hk⟩
  intro A outer s H E g hr tk po
  exact gss_cons (gs_for [0, 1] g po (gi_iter (ge_lst (ga_cons (ge_none) (ga_cons (ge_int) (ga_cons (ge_bool) (ga_cons (ge_tup (ga_nil)) (ga_cons (ge_lst (ga_cons (ge_str) (ga_nil))) (ga_cons (ge_tup (ga_cons (ge_int) (ga_cons (ge_int) (ga_nil)))) (ga_nil))))))))) (gg_name g 0) (gss_cons (gs_asg (ge_lstM (ga_cons (ge_said S__law_heard hr g ⟨_, tB 1 (by decide), rfl⟩ (fun _ _ _ _ _ _ _ rL1 gL2 kL3 => ge_callNp (D_stamp_read.mono (by decide)) BN_stamp_read_0 rL1 gL2 kL3 (ga_cons (ge_var 0) (ga_nil)) (ln_cons (ln_nil))) (lamS_by (sc := defScope s__law_are_refused) (by decide +kernel))) (ga_nil))) (gg_name g 1)) (gss_cons (gs_expr (ge_append (ge_var 1) (ge_said S__law_heard hr g ⟨_, tB 1 (by decide), rfl⟩ (fun _ _ _ _ _ _ _ rL4 gL5 kL6 => ge_callN (D_stamp_read.mono (by decide)) BN_stamp_read_4 rL4 gL5 kL6 (ga_cons (ge_var 0) (ga_nil)) (gk_cons (ge_neg (ge_int)) (gk_cons (ge_neg (ge_int)) (gk_nil))) (ln_cons (ln_nil)) (ln_cons (ln_cons (ln_nil)))) (lamS_by (sc := defScope s__law_are_refused) (by decide +kernel))))) (gss_one (gs_if (gt_not (gt_val (ge_call (D__law_same.mono (by decide)) hr g tk (ga_cons (ge_var 1) (ga_cons (ge_mulS (ge_lst (ga_cons (ge_tup (ga_cons (ge_str) (ga_cons (ge_str) (ga_cons (ge_neg (ge_int)) (ga_nil))))) (ga_nil))) (ge_int)) (ga_nil))) (ln_cons (ln_cons (ln_nil)))))) (gss_one (gs_ret (ge_bool))) (gss_nil)))))) (gss_cons (gs_for [0, 1] g po (gi_iter (ge_lst (ga_cons (ge_none) (ga_cons (ge_neg (ge_int)) (ga_cons (ge_bool) (ga_cons (ge_bool) (ga_cons (ge_str) (ga_cons (ge_tup (ga_cons (ge_int) (ga_nil))) (ga_cons (ge_lst (ga_cons (ge_int) (ga_nil))) (ga_nil)))))))))) (gg_name g 0) (gss_cons (gs_asg (ge_lstM (ga_cons (ge_said S__law_heard hr g ⟨_, tB 1 (by decide), rfl⟩ (fun _ _ _ _ _ _ _ rL7 gL8 kL9 => ge_callN (D_stamp_read.mono (by decide)) BN_stamp_read_4 rL7 gL8 kL9 (ga_cons (ge_str) (ga_nil)) (gk_cons (ge_var 0) (gk_cons (ge_var 0) (gk_nil))) (ln_cons (ln_nil)) (ln_cons (ln_cons (ln_nil)))) (lamS_by (sc := defScope s__law_are_refused) (by decide +kernel))) (ga_nil))) (gg_name g 1)) (gss_cons (gs_expr (ge_append (ge_var 1) (ge_said S__law_heard hr g ⟨_, tB 1 (by decide), rfl⟩ (fun _ _ _ _ _ _ _ rL10 gL11 kL12 => ge_callN (D_stamp_read.mono (by decide)) BN_stamp_read_2 rL10 gL11 kL12 (ga_cons (ge_str) (ga_nil)) (gk_cons (ge_var 0) (gk_nil)) (ln_cons (ln_nil)) (ln_cons (ln_nil))) (lamS_by (sc := defScope s__law_are_refused) (by decide +kernel))))) (gss_one (gs_if (gt_not (gt_val (ge_call (D__law_same.mono (by decide)) hr g tk (ga_cons (ge_var 1) (ga_cons (ge_lst (ga_cons (ge_tup (ga_cons (ge_str) (ga_cons (ge_str) (ga_cons (ge_neg (ge_int)) (ga_nil))))) (ga_cons (ge_tup (ga_cons (ge_str) (ga_cons (ge_str) (ga_cons (ge_neg (ge_int)) (ga_nil))))) (ga_nil)))) (ga_nil))) (ln_cons (ln_cons (ln_nil)))))) (gss_one (gs_ret (ge_bool))) (gss_nil)))))) (gss_one (gs_ret (ge_bool))))
abbrev N_law : List Str := ["_law_script", "_law_feed_here", "_law_some", "_law_size_here", "_law_lap", "_law_mark", "_law_count", "_law_page", "_law_once"]
theorem sc_law : FnScope N_law ["_law_script"] (defScope s_law) := ⟨rfl, rfl, rfl, by decide +kernel, rfl, by decide +kernel, by decide +kernel⟩
theorem h_law (t : Tx P w K mg cc) (tB : ∀ j < 2, TabB base mg (cc j) (tb j)) {f : Addr} {fd : FuncData} (hF : Fun K "law" "law" s_law f fd) : FnG P w K mg base 8 f fd ["_law_script"] (F_law tb) := by
  obtain ⟨f__law_feed, fd__law_feed, D__law_feed, _⟩ := h__law_feed (base := base) t
  obtain ⟨f__law_pick, fd__law_pick, D__law_pick, _⟩ := h__law_pick (base := base) t
  obtain ⟨f__law_spoilt, fd__law_spoilt, D__law_spoilt, _⟩ := h__law_spoilt (base := base) t
  obtain ⟨f__law_is_right, fd__law_is_right, D__law_is_right, _⟩ := h__law_is_right (base := base) t tB
  obtain ⟨f__law_draw, fd__law_draw, D__law_draw, _⟩ := h__law_draw (base := base) t
  obtain ⟨f__law_are_refused, fd__law_are_refused, D__law_are_refused, _⟩ := h__law_are_refused (base := base) t tB
  refine fnG_of hF sc_law (.inr rfl) ?_
  intro cdv A outer s H E g hr tk po
  exact gss_cons (gs_asg (ge_call (D__law_feed.mono (by decide)) hr g tk (ga_cons (ge_var 0) (ga_nil)) (ln_cons (ln_nil))) (gg_name g 1)) (gss_cons (gs_asg (ge_lst (ga_cons (ge_str) (ga_cons (ge_str) (ga_cons (ge_str) (ga_cons (ge_str) (ga_cons (ge_str) (ga_cons (ge_str) (ga_cons (ge_str) (ga_cons (ge_str) (ga_cons (ge_str) (ga_cons (ge_str) (ga_cons (ge_str) (ga_cons (ge_str) (ga_cons (ge_str) (ga_cons (ge_str) (ga_cons (ge_str) (ga_nil))))))))))))))))) (gg_name g 2)) (gss_cons (gs_asg (ge_add (ge_var 2) (ge_lst (ga_cons (ge_str) (ga_cons (ge_str) (ga_cons (ge_str) (ga_cons (ge_str) (ga_cons (ge_str) (ga_cons (ge_str) (ga_cons (ge_str) (ga_cons (ge_str) (ga_cons (ge_str) (ga_cons (ge_str) (ga_cons (ge_str) (ga_cons (ge_str) (ga_nil))))))))))))))) (gg_name g 2)) (gss_cons (gs_for [3] g po (gi_iter (ge_lst (ga_cons (ge_int) (ga_cons (ge_int) (ga_cons (ge_int) (ga_nil)))))) (gg_name g 3) (gss_one (gs_asg (ge_add (ge_var 2) (ge_lst (ga_cons (ge_add (ge_mulT (ge_str) (ge_var 3)) (ge_str)) (ga_cons (ge_add (ge_str) (ge_mulT (ge_str) (ge_var 3))) (ga_cons (ge_add (ge_add (ge_add (ge_str) (ge_mulT (ge_str) (ge_var 3))) (ge_str)) (ge_mulT (ge_str) (ge_var 3))) (ga_nil)))))) (gg_name g 2)))) (gss_cons (gs_for [4, 5, 6, 7, 8] g po (gi_range1 t.n_range (ge_int)) (gg_name g 4) (gss_cons (gs_par2 g (i := 5) (j := 6) (ga_cons (ge_call (D__law_pick.mono (by decide)) hr g tk (ga_cons (ge_var 1) (ga_cons (ge_lst (ga_cons (ge_int) (ga_cons (ge_int) (ga_cons (ge_neg (ge_int)) (ga_cons (ge_int) (ga_cons (ge_neg (ge_int)) (ga_cons (ge_int) (ga_cons (ge_pow (ge_int) (ge_int)) (ga_nil))))))))) (ga_nil))) (ln_cons (ln_cons (ln_nil)))) (ga_cons (ge_call (D__law_pick.mono (by decide)) hr g tk (ga_cons (ge_var 1) (ga_cons (ge_lst (ga_cons (ge_int) (ga_cons (ge_int) (ga_cons (ge_int) (ga_cons (ge_int) (ga_cons (ge_pow (ge_int) (ge_int)) (ga_nil))))))) (ga_nil))) (ln_cons (ln_cons (ln_nil)))) (ga_nil))) rfl rfl (by decide) rfl rfl rfl rfl) (gss_cons (gs_asg (ge_add (ge_add (ge_tostr t.n_str (ge_var 5)) (ge_str)) (ge_tostr t.n_str (ge_var 6))) (gg_name g 7)) (gss_cons (gs_asg (ge_call (D__law_spoilt.mono (by decide)) hr g tk (ga_cons (ge_var 1) (ga_cons (ge_var 7) (ga_nil))) (ln_cons (ln_cons (ln_nil)))) (gg_name g 8)) (gss_one (gs_asg (ge_add (ge_var 2) (ge_lst (ga_cons (ge_var 7) (ga_cons (ge_var 8) (ga_cons (ge_call (D__law_spoilt.mono (by decide)) hr g tk (ga_cons (ge_var 1) (ga_cons (ge_var 8) (ga_nil))) (ln_cons (ln_cons (ln_nil)))) (ga_nil)))))) (gg_name g 2))))))) (gss_cons (gs_for [7] g po (gi_iter (ge_var 2)) (gg_name g 7) (gss_one (gs_if (gt_not (gt_val (ge_call (D__law_is_right.mono (by decide)) hr g tk (ga_cons (ge_var 7) (ga_cons (ge_call (D__law_draw.mono (by decide)) hr g tk (ga_cons (ge_var 1) (ga_cons (ge_int) (ga_nil))) (ln_cons (ln_cons (ln_nil)))) (ga_cons (ge_call (D__law_draw.mono (by decide)) hr g tk (ga_cons (ge_var 1) (ga_cons (ge_int) (ga_nil))) (ln_cons (ln_cons (ln_nil)))) (ga_nil)))) (ln_cons (ln_cons (ln_cons (ln_nil))))))) (gss_one (gs_ret (ge_bool))) (gss_nil)))) (gss_one (gs_ret (ge_call0 (D__law_are_refused.mono (by decide)) hr g tk))))))))
end
theorem all_mk {w : World} {K : PySem.W.Frag} {h : Heap} {mg : Str → Option Value} {fa : Addr} (X : K.In h) (G : h.Ns mainGlobals mg) (hfa : mg "law" = some (.ref fa))
    {f0 : Addr} {od0 an0 : Option Addr} {sl0 : Array (Option Value)} {oc0 kV0 dc0 pm0 cd0 ct0 : Value}
    (a0 : PySem.W.nsIn K mainGlobals "_law_feed" = some (some (.ref f0)))
    (l0 : K.lookup f0 = some ⟨oc0, od0, .func (PySem.W.fnOf "_law_feed" "_law_feed" (defArgs s__law_feed) (defBody s__law_feed) (defScope s__law_feed) .none kV0 dc0 pm0 an0 cd0 ct0), sl0⟩)
    (c0 : PySem.W.codeIn K cd0 "_law_feed" = true)
    (k0 : PySem.W.keepIn K (.ref f0) = true)
    {f1 : Addr} {od1 an1 : Option Addr} {sl1 : Array (Option Value)} {oc1 kV1 dc1 pm1 cd1 ct1 : Value}
    (a1 : PySem.W.nsIn K mainGlobals "_law_draw" = some (some (.ref f1)))
    (l1 : K.lookup f1 = some ⟨oc1, od1, .func (PySem.W.fnOf "_law_draw" "_law_draw" (defArgs s__law_draw) (defBody s__law_draw) (defScope s__law_draw) .none kV1 dc1 pm1 an1 cd1 ct1), sl1⟩)
    (c1 : PySem.W.codeIn K cd1 "_law_draw" = true)
    (k1 : PySem.W.keepIn K (.ref f1) = true)
    {f2 : Addr} {od2 an2 : Option Addr} {sl2 : Array (Option Value)} {oc2 kV2 dc2 pm2 cd2 ct2 : Value}
    (a2 : PySem.W.nsIn K mainGlobals "_law_pick" = some (some (.ref f2)))
    (l2 : K.lookup f2 = some ⟨oc2, od2, .func (PySem.W.fnOf "_law_pick" "_law_pick" (defArgs s__law_pick) (defBody s__law_pick) (defScope s__law_pick) .none kV2 dc2 pm2 an2 cd2 ct2), sl2⟩)
    (c2 : PySem.W.codeIn K cd2 "_law_pick" = true)
    (k2 : PySem.W.keepIn K (.ref f2) = true)
    {f3 : Addr} {od3 an3 : Option Addr} {sl3 : Array (Option Value)} {oc3 kV3 dc3 pm3 cd3 ct3 : Value}
    (a3 : PySem.W.nsIn K mainGlobals "_law_spoilt" = some (some (.ref f3)))
    (l3 : K.lookup f3 = some ⟨oc3, od3, .func (PySem.W.fnOf "_law_spoilt" "_law_spoilt" (defArgs s__law_spoilt) (defBody s__law_spoilt) (defScope s__law_spoilt) .none kV3 dc3 pm3 an3 cd3 ct3), sl3⟩)
    (c3 : PySem.W.codeIn K cd3 "_law_spoilt" = true)
    (k3 : PySem.W.keepIn K (.ref f3) = true)
    {f4 : Addr} {od4 an4 : Option Addr} {sl4 : Array (Option Value)} {oc4 kV4 dc4 pm4 cd4 ct4 : Value}
    (a4 : PySem.W.nsIn K mainGlobals "_law_error" = some (some (.ref f4)))
    (l4 : K.lookup f4 = some ⟨oc4, od4, .func (PySem.W.fnOf "_law_error" "_law_error" (defArgs s__law_error) (defBody s__law_error) (defScope s__law_error) .none kV4 dc4 pm4 an4 cd4 ct4), sl4⟩)
    (c4 : PySem.W.codeIn K cd4 "_law_error" = true)
    (k4 : PySem.W.keepIn K (.ref f4) = true)
    {f5 : Addr} {od5 an5 : Option Addr} {sl5 : Array (Option Value)} {oc5 kV5 dc5 pm5 cd5 ct5 : Value}
    (a5 : PySem.W.nsIn K mainGlobals "_law_heard" = some (some (.ref f5)))
    (l5 : K.lookup f5 = some ⟨oc5, od5, .func (PySem.W.fnOf "_law_heard" "_law_heard" (defArgs s__law_heard) (defBody s__law_heard) (defScope s__law_heard) .none kV5 dc5 pm5 an5 cd5 ct5), sl5⟩)
    (c5 : PySem.W.codeIn K cd5 "_law_heard" = true)
    (k5 : PySem.W.keepIn K (.ref f5) = true)
    {f6 : Addr} {od6 an6 : Option Addr} {sl6 : Array (Option Value)} {oc6 kV6 dc6 pm6 cd6 ct6 : Value}
    (a6 : PySem.W.nsIn K mainGlobals "want" = some (some (.ref f6)))
    (l6 : K.lookup f6 = some ⟨oc6, od6, .func (PySem.W.fnOf "want" "want" (defArgs s_want) (defBody s_want) (defScope s_want) .none kV6 dc6 pm6 an6 cd6 ct6), sl6⟩)
    (c6 : PySem.W.codeIn K cd6 "want" = true)
    (k6 : PySem.W.keepIn K (.ref f6) = true)
    {f7 : Addr} {od7 an7 : Option Addr} {sl7 : Array (Option Value)} {oc7 kV7 dc7 pm7 cd7 ct7 : Value}
    (a7 : PySem.W.nsIn K mainGlobals "is_integer" = some (some (.ref f7)))
    (l7 : K.lookup f7 = some ⟨oc7, od7, .func (PySem.W.fnOf "is_integer" "is_integer" (defArgs s_is_integer) (defBody s_is_integer) (defScope s_is_integer) .none kV7 dc7 pm7 an7 cd7 ct7), sl7⟩)
    (c7 : PySem.W.codeIn K cd7 "is_integer" = true)
    (k7 : PySem.W.keepIn K (.ref f7) = true)
    {f8 : Addr} {od8 an8 : Option Addr} {sl8 : Array (Option Value)} {oc8 kV8 dc8 pm8 cd8 ct8 : Value}
    (a8 : PySem.W.nsIn K mainGlobals "is_number" = some (some (.ref f8)))
    (l8 : K.lookup f8 = some ⟨oc8, od8, .func (PySem.W.fnOf "is_number" "is_number" (defArgs s_is_number) (defBody s_is_number) (defScope s_is_number) .none kV8 dc8 pm8 an8 cd8 ct8), sl8⟩)
    (c8 : PySem.W.codeIn K cd8 "is_number" = true)
    (k8 : PySem.W.keepIn K (.ref f8) = true)
    {f9 : Addr} {od9 an9 : Option Addr} {sl9 : Array (Option Value)} {oc9 kV9 dc9 pm9 cd9 ct9 : Value}
    (a9 : PySem.W.nsIn K mainGlobals "number_of" = some (some (.ref f9)))
    (l9 : K.lookup f9 = some ⟨oc9, od9, .func (PySem.W.fnOf "number_of" "number_of" (defArgs s_number_of) (defBody s_number_of) (defScope s_number_of) .none kV9 dc9 pm9 an9 cd9 ct9), sl9⟩)
    (c9 : PySem.W.codeIn K cd9 "number_of" = true)
    (k9 : PySem.W.keepIn K (.ref f9) = true)
    {f10 : Addr} {od10 an10 : Option Addr} {sl10 : Array (Option Value)} {oc10 kV10 dc10 pm10 cd10 ct10 : Value}
    (a10 : PySem.W.nsIn K mainGlobals "integer_of" = some (some (.ref f10)))
    (l10 : K.lookup f10 = some ⟨oc10, od10, .func (PySem.W.fnOf "integer_of" "integer_of" (defArgs s_integer_of) (defBody s_integer_of) (defScope s_integer_of) .none kV10 dc10 pm10 an10 cd10 ct10), sl10⟩)
    (c10 : PySem.W.codeIn K cd10 "integer_of" = true)
    (k10 : PySem.W.keepIn K (.ref f10) = true)
    {f11 : Addr} {od11 an11 : Option Addr} {sl11 : Array (Option Value)} {oc11 dc11 pm11 cd11 ct11 : Value}
    (a11 : PySem.W.nsIn K mainGlobals "stamp_read" = some (some (.ref f11)))
    {D11 : Addr}
    (l11 : K.lookup f11 = some ⟨oc11, od11, .func (PySem.W.fnOf "stamp_read" "stamp_read" (defArgs s_stamp_read) (defBody s_stamp_read) (defScope s_stamp_read) .none (.ref D11) dc11 pm11 an11 cd11 ct11), sl11⟩)
    {dt11_line : Tok}
    {dt11_field : Tok}
    (dK11_line : PySem.W.nsIn K D11 "line" = some (some (.int 0 dt11_line)))
    (dK11_field : PySem.W.nsIn K D11 "field" = some (some (.int 0 dt11_field)))
    (c11 : PySem.W.codeIn K cd11 "stamp_read" = true)
    (k11 : PySem.W.keepIn K (.ref f11) = true)
    {f12 : Addr} {od12 an12 : Option Addr} {sl12 : Array (Option Value)} {oc12 kV12 dc12 pm12 cd12 ct12 : Value}
    (a12 : PySem.W.nsIn K mainGlobals "_law_size" = some (some (.ref f12)))
    (l12 : K.lookup f12 = some ⟨oc12, od12, .func (PySem.W.fnOf "_law_size" "_law_size" (defArgs s__law_size) (defBody s__law_size) (defScope s__law_size) .none kV12 dc12 pm12 an12 cd12 ct12), sl12⟩)
    (c12 : PySem.W.codeIn K cd12 "_law_size" = true)
    (k12 : PySem.W.keepIn K (.ref f12) = true)
    {f13 : Addr} {od13 an13 : Option Addr} {sl13 : Array (Option Value)} {oc13 kV13 dc13 pm13 cd13 ct13 : Value}
    (a13 : PySem.W.nsIn K mainGlobals "_law_due" = some (some (.ref f13)))
    (l13 : K.lookup f13 = some ⟨oc13, od13, .func (PySem.W.fnOf "_law_due" "_law_due" (defArgs s__law_due) (defBody s__law_due) (defScope s__law_due) .none kV13 dc13 pm13 an13 cd13 ct13), sl13⟩)
    (c13 : PySem.W.codeIn K cd13 "_law_due" = true)
    (k13 : PySem.W.keepIn K (.ref f13) = true)
    {f14 : Addr} {od14 an14 : Option Addr} {sl14 : Array (Option Value)} {oc14 kV14 dc14 pm14 cd14 ct14 : Value}
    (a14 : PySem.W.nsIn K mainGlobals "_law_same" = some (some (.ref f14)))
    (l14 : K.lookup f14 = some ⟨oc14, od14, .func (PySem.W.fnOf "_law_same" "_law_same" (defArgs s__law_same) (defBody s__law_same) (defScope s__law_same) .none kV14 dc14 pm14 an14 cd14 ct14), sl14⟩)
    (c14 : PySem.W.codeIn K cd14 "_law_same" = true)
    (k14 : PySem.W.keepIn K (.ref f14) = true)
    {f15 c0t P0t : Addr} {od15 an15 odt15 : Option Addr} {sl15 slt15 : Array (Option Value)} {oc15 kV15 dc15 pm15 ct15 oct15 : Value} {vs15 : Array Value}
    (a15 : PySem.W.nsIn K mainGlobals "_law_is_right" = some (some (.ref f15)))
    (l15 : K.lookup f15 = some ⟨oc15, od15, .func (PySem.W.fnOf "_law_is_right" "_law_is_right" (defArgs s__law_is_right) (defBody s__law_is_right) (defScope s__law_is_right) .none kV15 dc15 pm15 an15 (.ref c0t) ct15), sl15⟩)
    (c15 : PySem.W.codeIn K (.ref c0t) "_law_is_right" = true)
    (k15 : PySem.W.keepIn K (.ref f15) = true)
    (lt15 : K.lookup c0t = some ⟨oct15, odt15, .fields vs15, slt15⟩)
    (p15 : vs15[11]? = some (.ref P0t))
    {f16 c1t P1t : Addr} {od16 an16 odt16 : Option Addr} {sl16 slt16 : Array (Option Value)} {oc16 kV16 dc16 pm16 ct16 oct16 : Value} {vs16 : Array Value}
    (a16 : PySem.W.nsIn K mainGlobals "_law_are_refused" = some (some (.ref f16)))
    (l16 : K.lookup f16 = some ⟨oc16, od16, .func (PySem.W.fnOf "_law_are_refused" "_law_are_refused" (defArgs s__law_are_refused) (defBody s__law_are_refused) (defScope s__law_are_refused) .none kV16 dc16 pm16 an16 (.ref c1t) ct16), sl16⟩)
    (c16 : PySem.W.codeIn K (.ref c1t) "_law_are_refused" = true)
    (k16 : PySem.W.keepIn K (.ref f16) = true)
    (lt16 : K.lookup c1t = some ⟨oct16, odt16, .fields vs16, slt16⟩)
    (p16 : vs16[11]? = some (.ref P1t))
    {f17 : Addr} {od17 an17 : Option Addr} {sl17 : Array (Option Value)} {oc17 kV17 dc17 pm17 cd17 ct17 : Value}
    (a17 : PySem.W.nsIn K mainGlobals "law" = some (some (.ref f17)))
    (l17 : K.lookup f17 = some ⟨oc17, od17, .func (PySem.W.fnOf "law" "law" (defArgs s_law) (defBody s_law) (defScope s_law) .none kV17 dc17 pm17 an17 cd17 ct17), sl17⟩)
    (c17 : PySem.W.codeIn K cd17 "law" = true)
    (k17 : PySem.W.keepIn K (.ref f17) = true)
    (z_ValueError : PySem.W.nsIn K mainGlobals "ValueError" = some none)
    (z_all : PySem.W.nsIn K mainGlobals "all" = some none)
    (z_bool : PySem.W.nsIn K mainGlobals "bool" = some none)
    (z_int : PySem.W.nsIn K mainGlobals "int" = some none)
    (z_isinstance : PySem.W.nsIn K mainGlobals "isinstance" = some none)
    (z_len : PySem.W.nsIn K mainGlobals "len" = some none)
    (z_range : PySem.W.nsIn K mainGlobals "range" = some none)
    (z_repr : PySem.W.nsIn K mainGlobals "repr" = some none)
    (z_str : PySem.W.nsIn K mainGlobals "str" = some none)
    {t_DIGITS : Tok}
    (g_DIGITS : PySem.W.nsIn K mainGlobals "DIGITS" = some (some (.str "0123456789" t_DIGITS)))
    {t_MOST_DIGITS : Tok}
    (g_MOST_DIGITS : PySem.W.nsIn K mainGlobals "MOST_DIGITS" = some (some (.int 60 t_MOST_DIGITS)))
    (x_sg : PySem.W.specialIn K (.builtin "object.__class__") "__get__" = some (some (.builtin "getset_descriptor.__get__")))
    (x_tk : PySem.W.takesIn K (.builtin "object.__class__") = some true)
    (x_any : PySem.W.nsIn K PySem.cStatics "thirdparty.any" = some none)
    (z_super : PySem.W.nsIn K mainGlobals "super" = some none)
    {C_ClusterError : Addr}
    (y_ClusterError : PySem.W.nsIn K mainGlobals "ClusterError" = some (some (.ref C_ClusterError)))
    {C_InvalidPaper : Addr}
    (y_InvalidPaper : PySem.W.nsIn K mainGlobals "InvalidPaper" = some (some (.ref C_InvalidPaper)))
    {C_InvalidText : Addr}
    (y_InvalidText : PySem.W.nsIn K mainGlobals "InvalidText" = some (some (.ref C_InvalidText)))
    {C_LiveError : Addr}
    (y_LiveError : PySem.W.nsIn K mainGlobals "LiveError" = some (some (.ref C_LiveError)))
    {C_NotUsable : Addr}
    (y_NotUsable : PySem.W.nsIn K mainGlobals "NotUsable" = some (some (.ref C_NotUsable)))
    {C_PaperError : Addr}
    (y_PaperError : PySem.W.nsIn K mainGlobals "PaperError" = some (some (.ref C_PaperError)))
    {C_StampError : Addr}
    (y_StampError : PySem.W.nsIn K mainGlobals "StampError" = some (some (.ref C_StampError)))
    {C_TextError : Addr}
    (y_TextError : PySem.W.nsIn K mainGlobals "TextError" = some (some (.ref C_TextError)))
    {nm_InvalidText qn_InvalidText : Str} {N_InvalidText : Addr} {bs_InvalidText bm_InvalidText sub_InvalidText : List Value} {sn_InvalidText : List Str} {ab_InvalidText : Bool} {col_InvalidText : Option Bool} {dd_InvalidText : Option Addr} {m0_InvalidText m1_InvalidText m2_InvalidText m3_InvalidText m5_InvalidText : Option Value}
    (xL_InvalidText : K.lookup C_InvalidText = some (excClassObj nm_InvalidText qn_InvalidText C_InvalidText N_InvalidText bs_InvalidText bm_InvalidText true sn_InvalidText sub_InvalidText ab_InvalidText col_InvalidText dd_InvalidText m0_InvalidText m1_InvalidText m2_InvalidText m3_InvalidText m5_InvalidText "ValueError.__new__"))
    (bm_InvalidText_ok : PySem.HandSPX.refsVE bm_InvalidText = true)
    (sa_InvalidText : PySem.W.findIn K (.ref C_InvalidText) "__setattr__" = some (some (.builtin "object.__setattr__")))
    (ga_InvalidText : PySem.W.findIn K (.ref C_InvalidText) "__getattribute__" = some (some (.builtin "BaseException.__getattribute__")))
    (gg_InvalidText : PySem.W.findIn K (.ref C_InvalidText) "__getattr__" = some none)
    (cl_InvalidText : PySem.W.findIn K (.ref C_InvalidText) "__class__" = some (some (.builtin "object.__class__")))
    (eC_InvalidText : PySem.W.subIn K (.ref C_InvalidText) (.type "BaseException") = some true)
    (vC_InvalidText : PySem.W.subIn K (.ref C_InvalidText) (.type "ValueError") = some true)
    (tC_InvalidText : PySem.W.typeIn K (.ref C_InvalidText) = some (.type "type"))
    (kC_InvalidText : PySem.W.keepIn K (.ref C_InvalidText) = true)
    (hC_InvalidText : PySem.W.hasDictIn K C_InvalidText = true)
    (mC_InvalidText : PySem.W.mroIn K C_InvalidText (.ref C_InvalidText) = some true)
    (mO_InvalidText : PySem.W.mroIn K C_InvalidText (.type "object") = some true)
    (sup_InvalidText : PySem.W.ks_superIn K C_InvalidText C_InvalidText "__init__" = some (some (.builtin "ValueError.__init__")))
    (self_InvalidText : PySem.W.subIn K (.ref C_InvalidText) (.ref C_InvalidText) = some true)
    (n_at_InvalidText : PySem.W.findIn K (.ref C_InvalidText) "at" = some none)
    (n_field_InvalidText : PySem.W.findIn K (.ref C_InvalidText) "field" = some none)
    (n_line_InvalidText : PySem.W.findIn K (.ref C_InvalidText) "line" = some none)
    (n_word_InvalidText : PySem.W.findIn K (.ref C_InvalidText) "word" = some none)
    {nm_NotUsable qn_NotUsable : Str} {N_NotUsable : Addr} {bs_NotUsable bm_NotUsable sub_NotUsable : List Value} {sn_NotUsable : List Str} {ab_NotUsable : Bool} {col_NotUsable : Option Bool} {dd_NotUsable : Option Addr} {m0_NotUsable m1_NotUsable m2_NotUsable m3_NotUsable m5_NotUsable : Option Value}
    (xL_NotUsable : K.lookup C_NotUsable = some (excClassObj nm_NotUsable qn_NotUsable C_NotUsable N_NotUsable bs_NotUsable bm_NotUsable true sn_NotUsable sub_NotUsable ab_NotUsable col_NotUsable dd_NotUsable m0_NotUsable m1_NotUsable m2_NotUsable m3_NotUsable m5_NotUsable "ValueError.__new__"))
    (bm_NotUsable_ok : PySem.HandSPX.refsVE bm_NotUsable = true)
    (sa_NotUsable : PySem.W.findIn K (.ref C_NotUsable) "__setattr__" = some (some (.builtin "object.__setattr__")))
    (ga_NotUsable : PySem.W.findIn K (.ref C_NotUsable) "__getattribute__" = some (some (.builtin "BaseException.__getattribute__")))
    (gg_NotUsable : PySem.W.findIn K (.ref C_NotUsable) "__getattr__" = some none)
    (cl_NotUsable : PySem.W.findIn K (.ref C_NotUsable) "__class__" = some (some (.builtin "object.__class__")))
    (eC_NotUsable : PySem.W.subIn K (.ref C_NotUsable) (.type "BaseException") = some true)
    (vC_NotUsable : PySem.W.subIn K (.ref C_NotUsable) (.type "ValueError") = some true)
    (tC_NotUsable : PySem.W.typeIn K (.ref C_NotUsable) = some (.type "type"))
    (kC_NotUsable : PySem.W.keepIn K (.ref C_NotUsable) = true)
    (hC_NotUsable : PySem.W.hasDictIn K C_NotUsable = true)
    (mC_NotUsable : PySem.W.mroIn K C_NotUsable (.ref C_NotUsable) = some true)
    (mO_NotUsable : PySem.W.mroIn K C_NotUsable (.type "object") = some true)
    (sup_NotUsable : PySem.W.ks_superIn K C_NotUsable C_NotUsable "__init__" = some (some (.builtin "ValueError.__init__")))
    (self_NotUsable : PySem.W.subIn K (.ref C_NotUsable) (.ref C_NotUsable) = some true)
    (n_at_NotUsable : PySem.W.findIn K (.ref C_NotUsable) "at" = some none)
    (n_field_NotUsable : PySem.W.findIn K (.ref C_NotUsable) "field" = some none)
    (n_line_NotUsable : PySem.W.findIn K (.ref C_NotUsable) "line" = some none)
    (n_word_NotUsable : PySem.W.findIn K (.ref C_NotUsable) "word" = some none)
    {fI_InvalidText cda_InvalidText cce_InvalidText : Addr} {oci_InvalidText dci_InvalidText pmi_InvalidText cti_InvalidText cli_InvalidText ccl_InvalidText : Value} {odi_InvalidText ani_InvalidText cld_InvalidText cdd_InvalidText : Option Addr} {osl_InvalidText csl_InvalidText ccs_InvalidText : Array (Option Value)} {vsi_InvalidText : Array Value}
    (ini_InvalidText : PySem.W.findIn K (.ref C_InvalidText) "__init__" = some (some (.ref fI_InvalidText)))
    (ty_InvalidText : PySem.W.typeIn K (.ref fI_InvalidText) = some (.type "function"))
    (lk_InvalidText : K.lookup fI_InvalidText = some ⟨oci_InvalidText, odi_InvalidText, .func (PySem.W.ksFn "__init__" "InvalidText.__init__" (defArgs i_InvalidText) (defBody i_InvalidText) (defScope i_InvalidText) .none .none dci_InvalidText pmi_InvalidText ani_InvalidText (.ref cda_InvalidText) cti_InvalidText cce_InvalidText), osl_InvalidText⟩)
    (cdi_InvalidText : PySem.W.codeIn K (.ref cda_InvalidText) "InvalidText.__init__" = true)
    (lc_InvalidText : K.lookup cda_InvalidText = some ⟨ccl_InvalidText, cdd_InvalidText, .fields vsi_InvalidText, ccs_InvalidText⟩)
    (hv_InvalidText : ∃ file tf, vsi_InvalidText[2]? = some (.str file tf) ∧ ((PySem.Challenge.pw_stampahead_k12_stamps_read.main.file : Str) == file) = true)
    (cell_InvalidText : K.lookup cce_InvalidText = some ⟨cli_InvalidText, cld_InvalidText, .cell (some (.ref C_InvalidText)), csl_InvalidText⟩)
    {fI_NotUsable cda_NotUsable cce_NotUsable : Addr} {oci_NotUsable dci_NotUsable pmi_NotUsable cti_NotUsable cli_NotUsable ccl_NotUsable : Value} {odi_NotUsable ani_NotUsable cld_NotUsable cdd_NotUsable : Option Addr} {osl_NotUsable csl_NotUsable ccs_NotUsable : Array (Option Value)} {vsi_NotUsable : Array Value}
    (ini_NotUsable : PySem.W.findIn K (.ref C_NotUsable) "__init__" = some (some (.ref fI_NotUsable)))
    (ty_NotUsable : PySem.W.typeIn K (.ref fI_NotUsable) = some (.type "function"))
    (lk_NotUsable : K.lookup fI_NotUsable = some ⟨oci_NotUsable, odi_NotUsable, .func (PySem.W.ksFn "__init__" "NotUsable.__init__" (defArgs i_NotUsable) (defBody i_NotUsable) (defScope i_NotUsable) .none .none dci_NotUsable pmi_NotUsable ani_NotUsable (.ref cda_NotUsable) cti_NotUsable cce_NotUsable), osl_NotUsable⟩)
    (cdi_NotUsable : PySem.W.codeIn K (.ref cda_NotUsable) "NotUsable.__init__" = true)
    (lc_NotUsable : K.lookup cda_NotUsable = some ⟨ccl_NotUsable, cdd_NotUsable, .fields vsi_NotUsable, ccs_NotUsable⟩)
    (hv_NotUsable : ∃ file tf, vsi_NotUsable[2]? = some (.str file tf) ∧ ((PySem.Challenge.pw_stampahead_k12_stamps_read.main.file : Str) == file) = true)
    (cell_NotUsable : K.lookup cce_NotUsable = some ⟨cli_NotUsable, cld_NotUsable, .cell (some (.ref C_NotUsable)), csl_NotUsable⟩)
    (eC_ClusterError : PySem.W.subIn K (.ref C_ClusterError) (.type "BaseException") = some true)
    (tC_ClusterError : PySem.W.typeIn K (.ref C_ClusterError) = some (.type "type"))
    (iC_ClusterError : PySem.W.isClsIn K C_ClusterError = true)
    (s_NotUsable_ClusterError : PySem.W.subIn K (.ref C_NotUsable) (.ref C_ClusterError) = some true)
    (s_InvalidText_ClusterError : PySem.W.subIn K (.ref C_InvalidText) (.ref C_ClusterError) = some false)
    (eC_InvalidPaper : PySem.W.subIn K (.ref C_InvalidPaper) (.type "BaseException") = some true)
    (tC_InvalidPaper : PySem.W.typeIn K (.ref C_InvalidPaper) = some (.type "type"))
    (iC_InvalidPaper : PySem.W.isClsIn K C_InvalidPaper = true)
    (s_NotUsable_InvalidPaper : PySem.W.subIn K (.ref C_NotUsable) (.ref C_InvalidPaper) = some false)
    (s_InvalidText_InvalidPaper : PySem.W.subIn K (.ref C_InvalidText) (.ref C_InvalidPaper) = some false)
    (iC_InvalidText : PySem.W.isClsIn K C_InvalidText = true)
    (s_NotUsable_InvalidText : PySem.W.subIn K (.ref C_NotUsable) (.ref C_InvalidText) = some false)
    (eC_LiveError : PySem.W.subIn K (.ref C_LiveError) (.type "BaseException") = some true)
    (tC_LiveError : PySem.W.typeIn K (.ref C_LiveError) = some (.type "type"))
    (iC_LiveError : PySem.W.isClsIn K C_LiveError = true)
    (s_NotUsable_LiveError : PySem.W.subIn K (.ref C_NotUsable) (.ref C_LiveError) = some false)
    (s_InvalidText_LiveError : PySem.W.subIn K (.ref C_InvalidText) (.ref C_LiveError) = some false)
    (iC_NotUsable : PySem.W.isClsIn K C_NotUsable = true)
    (s_InvalidText_NotUsable : PySem.W.subIn K (.ref C_InvalidText) (.ref C_NotUsable) = some false)
    (eC_PaperError : PySem.W.subIn K (.ref C_PaperError) (.type "BaseException") = some true)
    (tC_PaperError : PySem.W.typeIn K (.ref C_PaperError) = some (.type "type"))
    (iC_PaperError : PySem.W.isClsIn K C_PaperError = true)
    (s_NotUsable_PaperError : PySem.W.subIn K (.ref C_NotUsable) (.ref C_PaperError) = some false)
    (s_InvalidText_PaperError : PySem.W.subIn K (.ref C_InvalidText) (.ref C_PaperError) = some false)
    (eC_StampError : PySem.W.subIn K (.ref C_StampError) (.type "BaseException") = some true)
    (tC_StampError : PySem.W.typeIn K (.ref C_StampError) = some (.type "type"))
    (iC_StampError : PySem.W.isClsIn K C_StampError = true)
    (s_NotUsable_StampError : PySem.W.subIn K (.ref C_NotUsable) (.ref C_StampError) = some true)
    (s_InvalidText_StampError : PySem.W.subIn K (.ref C_InvalidText) (.ref C_StampError) = some true)
    (eC_TextError : PySem.W.subIn K (.ref C_TextError) (.type "BaseException") = some true)
    (tC_TextError : PySem.W.typeIn K (.ref C_TextError) = some (.type "type"))
    (iC_TextError : PySem.W.isClsIn K C_TextError = true)
    (s_NotUsable_TextError : PySem.W.subIn K (.ref C_NotUsable) (.ref C_TextError) = some false)
    (s_InvalidText_TextError : PySem.W.subIn K (.ref C_InvalidText) (.ref C_TextError) = some true)
    : ∃ fd : FuncData, (∀ (s : Shared) (v : Value), BindsTo s fd ⟨[v], []⟩ [("_law_script", v)]) ∧ ∀ base : Heap, K.In base → base.Ns mainGlobals mg → (∀ p ∈ ([(c0t, P0t, "_law_is_right.<locals>.<lambda>"), (c1t, P1t, "_law_are_refused.<locals>.<lambda>")] : List Tb3), TabB base mg p.1 p.2.1) → FnG PySem.Challenge.pw_stampahead_k12_stamps_read w K mg base 8 fa fd ["_law_script"] (F_law (tbL [P0t, P1t])) := by
  have XT : XTop K := ⟨x_sg, x_tk, x_any⟩
  have R_InvalidText : XRaw K C_InvalidText := ⟨⟨nm_InvalidText, qn_InvalidText, N_InvalidText, bs_InvalidText, bm_InvalidText, sn_InvalidText, sub_InvalidText, ab_InvalidText, col_InvalidText, dd_InvalidText, m0_InvalidText, m1_InvalidText, m2_InvalidText, m3_InvalidText, m5_InvalidText, xL_InvalidText, bm_InvalidText_ok⟩, sa_InvalidText, ga_InvalidText, gg_InvalidText, cl_InvalidText, eC_InvalidText, vC_InvalidText, tC_InvalidText, kC_InvalidText, hC_InvalidText, mC_InvalidText, mO_InvalidText, sup_InvalidText⟩
  have R_NotUsable : XRaw K C_NotUsable := ⟨⟨nm_NotUsable, qn_NotUsable, N_NotUsable, bs_NotUsable, bm_NotUsable, sn_NotUsable, sub_NotUsable, ab_NotUsable, col_NotUsable, dd_NotUsable, m0_NotUsable, m1_NotUsable, m2_NotUsable, m3_NotUsable, m5_NotUsable, xL_NotUsable, bm_NotUsable_ok⟩, sa_NotUsable, ga_NotUsable, gg_NotUsable, cl_NotUsable, eC_NotUsable, vC_NotUsable, tC_NotUsable, kC_NotUsable, hC_NotUsable, mC_NotUsable, mO_NotUsable, sup_NotUsable⟩
  have Y_ClusterError : YRaw K C_ClusterError := ⟨eC_ClusterError, tC_ClusterError, iC_ClusterError⟩
  have Y_InvalidPaper : YRaw K C_InvalidPaper := ⟨eC_InvalidPaper, tC_InvalidPaper, iC_InvalidPaper⟩
  have Y_InvalidText : YRaw K C_InvalidText := ⟨eC_InvalidText, tC_InvalidText, iC_InvalidText⟩
  have Y_LiveError : YRaw K C_LiveError := ⟨eC_LiveError, tC_LiveError, iC_LiveError⟩
  have Y_NotUsable : YRaw K C_NotUsable := ⟨eC_NotUsable, tC_NotUsable, iC_NotUsable⟩
  have Y_PaperError : YRaw K C_PaperError := ⟨eC_PaperError, tC_PaperError, iC_PaperError⟩
  have Y_StampError : YRaw K C_StampError := ⟨eC_StampError, tC_StampError, iC_StampError⟩
  have Y_TextError : YRaw K C_TextError := ⟨eC_TextError, tC_TextError, iC_TextError⟩
  have E_InvalidText : Exc2 PySem.Challenge.pw_stampahead_k12_stamps_read w K mg "InvalidText" "line" "field" := by
    obtain ⟨file, tf, hv, hfile⟩ := hv_InvalidText
    exact exc2_mk (is := i_InvalidText) (x1 := "line") (x2 := "field") R_InvalidText XT (PySem.W.mg_of X G y_InvalidText) ini_InvalidText ty_InvalidText lk_InvalidText cdi_InvalidText lc_InvalidText hv hfile cell_InvalidText (PySem.W.mg_none_of X G z_super) n_line_InvalidText n_field_InvalidText (by rfl) (by rfl) (by intro env; rfl) _ (by intro env; rfl) ⟨_, rfl, rfl⟩ (fun us hl => match us, hl with | [_, _, _], _ => rfl) rfl rfl rfl (by decide +kernel) (by decide +kernel) (by decide +kernel) rfl rfl (by decide +kernel) ⟨by decide +kernel, by decide +kernel⟩ ⟨by decide +kernel, by decide +kernel⟩
  have E_NotUsable : Exc2 PySem.Challenge.pw_stampahead_k12_stamps_read w K mg "NotUsable" "word" "at" := by
    obtain ⟨file, tf, hv, hfile⟩ := hv_NotUsable
    exact exc2_mk (is := i_NotUsable) (x1 := "word") (x2 := "at") R_NotUsable XT (PySem.W.mg_of X G y_NotUsable) ini_NotUsable ty_NotUsable lk_NotUsable cdi_NotUsable lc_NotUsable hv hfile cell_NotUsable (PySem.W.mg_none_of X G z_super) n_word_NotUsable n_at_NotUsable (by rfl) (by rfl) (by intro env; rfl) _ (by intro env; rfl) ⟨_, rfl, rfl⟩ (fun us hl => match us, hl with | [_, _, _], _ => rfl) rfl rfl rfl (by decide +kernel) (by decide +kernel) (by decide +kernel) rfl rfl (by decide +kernel) ⟨by decide +kernel, by decide +kernel⟩ ⟨by decide +kernel, by decide +kernel⟩
  have F0 := fun_mk (x := "_law_feed") (qual := "_law_feed") (st := s__law_feed) l0 c0 k0
  have b0 := F0.binds (ps := ["_law_script"]) fun _ _ _ _ _ _ us hl => match us, hl with | [_], _ => rfl
  have F1 := fun_mk (x := "_law_draw") (qual := "_law_draw") (st := s__law_draw) l1 c1 k1
  have b1 := F1.binds (ps := ["_law_feed_here", "_law_many"]) fun _ _ _ _ _ _ us hl => match us, hl with | [_, _], _ => rfl
  have F2 := fun_mk (x := "_law_pick") (qual := "_law_pick") (st := s__law_pick) l2 c2 k2
  have b2 := F2.binds (ps := ["_law_feed_here", "_law_some"]) fun _ _ _ _ _ _ us hl => match us, hl with | [_, _], _ => rfl
  have F3 := fun_mk (x := "_law_spoilt") (qual := "_law_spoilt") (st := s__law_spoilt) l3 c3 k3
  have b3 := F3.binds (ps := ["_law_feed_here", "_law_page"]) fun _ _ _ _ _ _ us hl => match us, hl with | [_, _], _ => rfl
  have F4 := fun_mk (x := "_law_error") (qual := "_law_error") (st := s__law_error) l4 c4 k4
  have b4 := F4.binds (ps := ["_law_e"]) fun _ _ _ _ _ _ us hl => match us, hl with | [_], _ => rfl
  have F5 := fun_mk (x := "_law_heard") (qual := "_law_heard") (st := s__law_heard) l5 c5 k5
  have b5 := F5.binds (ps := ["_law_ask"]) fun _ _ _ _ _ _ us hl => match us, hl with | [_], _ => rfl
  have F6 := fun_mk (x := "want") (qual := "want") (st := s_want) l6 c6 k6
  have b6 := F6.binds (ps := ["is_right", "word"]) fun _ _ _ _ _ _ us hl => match us, hl with | [_, _], _ => rfl
  have F7 := fun_mk (x := "is_integer") (qual := "is_integer") (st := s_is_integer) l7 c7 k7
  have b7 := F7.binds (ps := ["thing"]) fun _ _ _ _ _ _ us hl => match us, hl with | [_], _ => rfl
  have F8 := fun_mk (x := "is_number") (qual := "is_number") (st := s_is_number) l8 c8 k8
  have b8 := F8.binds (ps := ["thing"]) fun _ _ _ _ _ _ us hl => match us, hl with | [_], _ => rfl
  have F9 := fun_mk (x := "number_of") (qual := "number_of") (st := s_number_of) l9 c9 k9
  have b9 := F9.binds (ps := ["text"]) fun _ _ _ _ _ _ us hl => match us, hl with | [_], _ => rfl
  have F10 := fun_mk (x := "integer_of") (qual := "integer_of") (st := s_integer_of) l10 c10 k10
  have b10 := F10.binds (ps := ["text"]) fun _ _ _ _ _ _ us hl => match us, hl with | [_], _ => rfl
  have bn11_0 := bindN_K (K := K) (x := "stamp_read") (st := s_stamp_read) (ps := ["text", "line", "field"]) (n := 1) (ks := []) (ix := [0, 1, 2]) (cD := [.int 0, .int 0]) (lk := [("line", (.int 0 dt11_line)), ("field", (.int 0 dt11_field))]) (List.forall_mem_cons.mpr ⟨dK11_line, (List.forall_mem_cons.mpr ⟨dK11_field, (fun _ h => nomatch h)⟩)⟩) (.cons cdef_int (.cons cdef_int .nil)) (by decide) (by decide) (doc := dc11) (pm := pm11) (cdv := cd11) (ct := ct11) (an := an11) (fun us ws hl hk => match us, ws, hl, hk with | [_], [], _, _ => ⟨_, _, _, _, _, _, rfl, rfl, ⟨_, _, _, _, _, _, rfl, rfl, rfl⟩⟩)
  have bn11_1 := bindN_K (K := K) (x := "stamp_read") (st := s_stamp_read) (ps := ["text", "line", "field"]) (n := 1) (ks := ["line"]) (ix := [0, 1, 2]) (cD := [.int 0]) (lk := [("field", (.int 0 dt11_field))]) (List.forall_mem_cons.mpr ⟨dK11_field, (fun _ h => nomatch h)⟩) (.cons cdef_int .nil) (by decide) (by decide) (doc := dc11) (pm := pm11) (cdv := cd11) (ct := ct11) (an := an11) (fun us ws hl hk => match us, ws, hl, hk with | [_], [_], _, _ => ⟨_, _, _, _, _, _, rfl, rfl, rfl⟩)
  have bn11_2 := bindN_K (K := K) (x := "stamp_read") (st := s_stamp_read) (ps := ["text", "line", "field"]) (n := 1) (ks := ["field"]) (ix := [0, 2, 1]) (cD := [.int 0]) (lk := [("line", (.int 0 dt11_line))]) (List.forall_mem_cons.mpr ⟨dK11_line, (fun _ h => nomatch h)⟩) (.cons cdef_int .nil) (by decide) (by decide) (doc := dc11) (pm := pm11) (cdv := cd11) (ct := ct11) (an := an11) (fun us ws hl hk => match us, ws, hl, hk with | [_], [_], _, _ => ⟨_, _, _, _, _, _, rfl, rfl, rfl⟩)
  have bn11_3 := bindN_0 (K := K) (x := "stamp_read") (st := s_stamp_read) (ps := ["text", "line", "field"]) (n := 0) (ks := ["field", "line", "text"]) (ix := [2, 1, 0]) (dV := .none) (kV := (.ref D11)) (doc := dc11) (pm := pm11) (cdv := cd11) (ct := ct11) (an := an11) (by decide) (by decide) (fun us ws hl hk => match us, ws, hl, hk with | [], [_, _, _], _, _ => rfl)
  have bn11_4 := bindN_0 (K := K) (x := "stamp_read") (st := s_stamp_read) (ps := ["text", "line", "field"]) (n := 1) (ks := ["line", "field"]) (ix := [0, 1, 2]) (dV := .none) (kV := (.ref D11)) (doc := dc11) (pm := pm11) (cdv := cd11) (ct := ct11) (an := an11) (by decide) (by decide) (fun us ws hl hk => match us, ws, hl, hk with | [_], [_, _], _, _ => rfl)
  have F11 := funX_mk (x := "stamp_read") (st := s_stamp_read) l11 c11
  have F12 := fun_mk (x := "_law_size") (qual := "_law_size") (st := s__law_size) l12 c12 k12
  have b12 := F12.binds (ps := ["_law_word"]) fun _ _ _ _ _ _ us hl => match us, hl with | [_], _ => rfl
  have F13 := fun_mk (x := "_law_due") (qual := "_law_due") (st := s__law_due) l13 c13 k13
  have b13 := F13.binds (ps := ["_law_page", "_law_row_in", "_law_col"]) fun _ _ _ _ _ _ us hl => match us, hl with | [_, _, _], _ => rfl
  have F14 := fun_mk (x := "_law_same") (qual := "_law_same") (st := s__law_same) l14 c14 k14
  have b14 := F14.binds (ps := ["_law_heard_here", "_law_due_here"]) fun _ _ _ _ _ _ us hl => match us, hl with | [_, _], _ => rfl
  have F15 := cd_of (x := "_law_is_right") (st := s__law_is_right) l15 c15
  have b15 : Binds K _ ["_law_page", "_law_row_in", "_law_col"] [] := .all fun us hl => (match us, hl with | [_, _, _], _ => rfl : bindArgs (PySem.W.fnOf "_law_is_right" "_law_is_right" (defArgs s__law_is_right) (defBody s__law_is_right) (defScope s__law_is_right) .none kV15 dc15 pm15 an15 (.ref c0t) ct15) ⟨us, []⟩ = pure ((["_law_page", "_law_row_in", "_law_col"] : List Str).zip us))
  have F16 := cd_of (x := "_law_are_refused") (st := s__law_are_refused) l16 c16
  have b16 : Binds K _ [] [] := .all fun us hl => (match us, hl with | [], _ => rfl : bindArgs (PySem.W.fnOf "_law_are_refused" "_law_are_refused" (defArgs s__law_are_refused) (defBody s__law_are_refused) (defScope s__law_are_refused) .none kV16 dc16 pm16 an16 (.ref c1t) ct16) ⟨us, []⟩ = pure (([] : List Str).zip us))
  have F17 := fun_mk (x := "law") (qual := "law") (st := s_law) l17 c17 k17
  have T : Tx PySem.Challenge.pw_stampahead_k12_stamps_read w K mg (tbL [c0t, c1t]) := {
    d__law_feed := ⟨_, _, F0, PySem.W.mg_of X G a0, b0, trivial⟩
    d__law_draw := ⟨_, _, F1, PySem.W.mg_of X G a1, b1, trivial⟩
    d__law_pick := ⟨_, _, F2, PySem.W.mg_of X G a2, b2, trivial⟩
    d__law_spoilt := ⟨_, _, F3, PySem.W.mg_of X G a3, b3, trivial⟩
    d__law_error := ⟨_, _, F4, PySem.W.mg_of X G a4, b4, trivial⟩
    d__law_heard := ⟨_, _, F5, PySem.W.mg_of X G a5, b5, trivial⟩
    d_want := ⟨_, _, F6, PySem.W.mg_of X G a6, b6, trivial⟩
    d_is_integer := ⟨_, _, F7, PySem.W.mg_of X G a7, b7, trivial⟩
    d_is_number := ⟨_, _, F8, PySem.W.mg_of X G a8, b8, trivial⟩
    d_number_of := ⟨_, _, F9, PySem.W.mg_of X G a9, b9, trivial⟩
    d_integer_of := ⟨_, _, F10, PySem.W.mg_of X G a10, b10, trivial⟩
    d_stamp_read := ⟨_, _, F11, k11, PySem.W.mg_of X G a11, bn11_0, bn11_1, bn11_2, bn11_3, bn11_4, trivial⟩
    d__law_size := ⟨_, _, F12, PySem.W.mg_of X G a12, b12, trivial⟩
    d__law_due := ⟨_, _, F13, PySem.W.mg_of X G a13, b13, trivial⟩
    d__law_same := ⟨_, _, F14, PySem.W.mg_of X G a14, b14, trivial⟩
    d__law_is_right := ⟨_, _, F15, k15, PySem.W.mg_of X G a15, b15, trivial⟩
    d__law_are_refused := ⟨_, _, F16, k16, PySem.W.mg_of X G a16, b16, trivial⟩
    n_ValueError := PySem.W.mg_none_of X G z_ValueError
    n_all := PySem.W.mg_none_of X G z_all
    n_bool := PySem.W.mg_none_of X G z_bool
    n_int := PySem.W.mg_none_of X G z_int
    n_isinstance := PySem.W.mg_none_of X G z_isinstance
    n_len := PySem.W.mg_none_of X G z_len
    n_range := PySem.W.mg_none_of X G z_range
    n_repr := PySem.W.mg_none_of X G z_repr
    n_str := PySem.W.mg_none_of X G z_str
    c_DIGITS := ⟨_, V.str "0123456789", PySem.W.mg_of X G g_DIGITS, ⟨_, rfl⟩, fun W => rfl⟩
    c_MOST_DIGITS := ⟨_, V.int 60, PySem.W.mg_of X G g_MOST_DIGITS, ⟨_, rfl⟩, fun W => rfl⟩
    x_InvalidText := E_InvalidText
    x_NotUsable := E_NotUsable
    m_StampError := ⟨_, (PySem.W.mg_of X G y_StampError), List.forall_mem_cons.mpr ⟨(fun D e => by rw [PySem.W.mg_of X G y_NotUsable] at e; cases e; exact Y_StampError.exm s_NotUsable_StampError), List.forall_mem_cons.mpr ⟨(fun D e => by rw [PySem.W.mg_of X G y_InvalidText] at e; cases e; exact Y_StampError.exm s_InvalidText_StampError), (fun _ h => nomatch h)⟩⟩⟩
    f_at := List.forall_mem_cons.mpr ⟨fldE_mk R_NotUsable (PySem.W.mg_of X G y_NotUsable) n_at_NotUsable, List.forall_mem_cons.mpr ⟨fldE_mk R_InvalidText (PySem.W.mg_of X G y_InvalidText) n_at_InvalidText, (fun _ h => nomatch h)⟩⟩
    f_field := List.forall_mem_cons.mpr ⟨fldE_mk R_NotUsable (PySem.W.mg_of X G y_NotUsable) n_field_NotUsable, List.forall_mem_cons.mpr ⟨fldE_mk R_InvalidText (PySem.W.mg_of X G y_InvalidText) n_field_InvalidText, (fun _ h => nomatch h)⟩⟩
    f_line := List.forall_mem_cons.mpr ⟨fldE_mk R_NotUsable (PySem.W.mg_of X G y_NotUsable) n_line_NotUsable, List.forall_mem_cons.mpr ⟨fldE_mk R_InvalidText (PySem.W.mg_of X G y_InvalidText) n_line_InvalidText, (fun _ h => nomatch h)⟩⟩
    f_word := List.forall_mem_cons.mpr ⟨fldE_mk R_NotUsable (PySem.W.mg_of X G y_NotUsable) n_word_NotUsable, List.forall_mem_cons.mpr ⟨fldE_mk R_InvalidText (PySem.W.mg_of X G y_InvalidText) n_word_InvalidText, (fun _ h => nomatch h)⟩⟩
    i_ClusterError := List.forall_mem_cons.mpr ⟨(by have e : ([("NotUsable" : Str)] : List Str).contains ("NotUsable" : Str) = true := (by decide +kernel); rw [e]; exact isE_mk R_NotUsable XT (PySem.W.mg_of X G y_NotUsable) (PySem.W.mg_of X G y_ClusterError) Y_ClusterError s_NotUsable_ClusterError self_NotUsable), List.forall_mem_cons.mpr ⟨(by have e : ([("NotUsable" : Str)] : List Str).contains ("InvalidText" : Str) = false := (by decide +kernel); rw [e]; exact isE_mk R_InvalidText XT (PySem.W.mg_of X G y_InvalidText) (PySem.W.mg_of X G y_ClusterError) Y_ClusterError s_InvalidText_ClusterError self_InvalidText), (fun _ h => nomatch h)⟩⟩
    i_InvalidPaper := List.forall_mem_cons.mpr ⟨(by have e : ([] : List Str).contains ("NotUsable" : Str) = false := (by decide +kernel); rw [e]; exact isE_mk R_NotUsable XT (PySem.W.mg_of X G y_NotUsable) (PySem.W.mg_of X G y_InvalidPaper) Y_InvalidPaper s_NotUsable_InvalidPaper self_NotUsable), List.forall_mem_cons.mpr ⟨(by have e : ([] : List Str).contains ("InvalidText" : Str) = false := (by decide +kernel); rw [e]; exact isE_mk R_InvalidText XT (PySem.W.mg_of X G y_InvalidText) (PySem.W.mg_of X G y_InvalidPaper) Y_InvalidPaper s_InvalidText_InvalidPaper self_InvalidText), (fun _ h => nomatch h)⟩⟩
    i_InvalidText := List.forall_mem_cons.mpr ⟨(by have e : ([("InvalidText" : Str)] : List Str).contains ("NotUsable" : Str) = false := (by decide +kernel); rw [e]; exact isE_mk R_NotUsable XT (PySem.W.mg_of X G y_NotUsable) (PySem.W.mg_of X G y_InvalidText) Y_InvalidText s_NotUsable_InvalidText self_NotUsable), List.forall_mem_cons.mpr ⟨(by have e : ([("InvalidText" : Str)] : List Str).contains ("InvalidText" : Str) = true := (by decide +kernel); rw [e]; exact isE_mk R_InvalidText XT (PySem.W.mg_of X G y_InvalidText) (PySem.W.mg_of X G y_InvalidText) Y_InvalidText self_InvalidText self_InvalidText), (fun _ h => nomatch h)⟩⟩
    i_LiveError := List.forall_mem_cons.mpr ⟨(by have e : ([] : List Str).contains ("NotUsable" : Str) = false := (by decide +kernel); rw [e]; exact isE_mk R_NotUsable XT (PySem.W.mg_of X G y_NotUsable) (PySem.W.mg_of X G y_LiveError) Y_LiveError s_NotUsable_LiveError self_NotUsable), List.forall_mem_cons.mpr ⟨(by have e : ([] : List Str).contains ("InvalidText" : Str) = false := (by decide +kernel); rw [e]; exact isE_mk R_InvalidText XT (PySem.W.mg_of X G y_InvalidText) (PySem.W.mg_of X G y_LiveError) Y_LiveError s_InvalidText_LiveError self_InvalidText), (fun _ h => nomatch h)⟩⟩
    i_NotUsable := List.forall_mem_cons.mpr ⟨(by have e : ([("NotUsable" : Str)] : List Str).contains ("NotUsable" : Str) = true := (by decide +kernel); rw [e]; exact isE_mk R_NotUsable XT (PySem.W.mg_of X G y_NotUsable) (PySem.W.mg_of X G y_NotUsable) Y_NotUsable self_NotUsable self_NotUsable), List.forall_mem_cons.mpr ⟨(by have e : ([("NotUsable" : Str)] : List Str).contains ("InvalidText" : Str) = false := (by decide +kernel); rw [e]; exact isE_mk R_InvalidText XT (PySem.W.mg_of X G y_InvalidText) (PySem.W.mg_of X G y_NotUsable) Y_NotUsable s_InvalidText_NotUsable self_InvalidText), (fun _ h => nomatch h)⟩⟩
    i_PaperError := List.forall_mem_cons.mpr ⟨(by have e : ([] : List Str).contains ("NotUsable" : Str) = false := (by decide +kernel); rw [e]; exact isE_mk R_NotUsable XT (PySem.W.mg_of X G y_NotUsable) (PySem.W.mg_of X G y_PaperError) Y_PaperError s_NotUsable_PaperError self_NotUsable), List.forall_mem_cons.mpr ⟨(by have e : ([] : List Str).contains ("InvalidText" : Str) = false := (by decide +kernel); rw [e]; exact isE_mk R_InvalidText XT (PySem.W.mg_of X G y_InvalidText) (PySem.W.mg_of X G y_PaperError) Y_PaperError s_InvalidText_PaperError self_InvalidText), (fun _ h => nomatch h)⟩⟩
    i_TextError := List.forall_mem_cons.mpr ⟨(by have e : ([("InvalidText" : Str)] : List Str).contains ("NotUsable" : Str) = false := (by decide +kernel); rw [e]; exact isE_mk R_NotUsable XT (PySem.W.mg_of X G y_NotUsable) (PySem.W.mg_of X G y_TextError) Y_TextError s_NotUsable_TextError self_NotUsable), List.forall_mem_cons.mpr ⟨(by have e : ([("InvalidText" : Str)] : List Str).contains ("InvalidText" : Str) = true := (by decide +kernel); rw [e]; exact isE_mk R_InvalidText XT (PySem.W.mg_of X G y_InvalidText) (PySem.W.mg_of X G y_TextError) Y_TextError s_InvalidText_TextError self_InvalidText), (fun _ h => nomatch h)⟩⟩
    i_ValueError := List.forall_mem_cons.mpr ⟨(by have e : ([("NotUsable" : Str), ("InvalidText" : Str)] : List Str).contains ("NotUsable" : Str) = true := (by decide +kernel); rw [e]; exact isEb_mk R_NotUsable XT (PySem.W.mg_of X G y_NotUsable) (by decide +kernel) vC_NotUsable), List.forall_mem_cons.mpr ⟨(by have e : ([("NotUsable" : Str), ("InvalidText" : Str)] : List Str).contains ("InvalidText" : Str) = true := (by decide +kernel); rw [e]; exact isEb_mk R_InvalidText XT (PySem.W.mg_of X G y_InvalidText) (by decide +kernel) vC_InvalidText), (fun _ h => nomatch h)⟩⟩ }
  have e := hfa.symm.trans (PySem.W.mg_of X G a17)
  cases e
  exact ⟨_, bl_of F17 fun _ _ _ _ _ _ _ => rfl, (fun base _ _ hTB => h_law T (fun j hj => match j, hj with | 0, _ => hTB (c0t, P0t, "_law_is_right.<locals>.<lambda>") (by simp) | 1, _ => hTB (c1t, P1t, "_law_are_refused.<locals>.<lambda>") (by simp)) F17)⟩
end Gstampahead_k12_stamps_read
open PySem PySem.W PyProof.Rows
set_option maxRecDepth 100000 in
set_option maxHeartbeats 0 in
theorem PySem.Challenge.cw_stampahead_k12_stamps_read_holds : PySem.Challenge.rw_stampahead_k12_stamps_read.Holds := by
  w_on; o_law; k_head; (case hw => w_witness2)
  k_fill
  refine' Pv.walk_GT (l := PySem.Challenge.rw_stampahead_k12_stamps_read) (k := 8) (x := "_law_script") (F := Gstampahead_k12_stamps_read.F_law (Pv.tbL [_, _])) [(_, _, "_law_is_right.<locals>.<lambda>"), (_, _, "_law_are_refused.<locals>.<lambda>")] rfl (by decide) rfl ⟨rfl, by decide, by decide⟩ (fun w h Y => PySem.W.km_in_of Y) ?nd ?C ?F ?L
  case F =>
    intro w mg fa h KX G hmg
    refine' Gstampahead_k12_stamps_read.all_mk KX G hmg ?a0 ?l0 ?c0 ?k0 ?a1 ?l1 ?c1 ?k1 ?a2 ?l2 ?c2 ?k2 ?a3 ?l3 ?c3 ?k3 ?a4 ?l4 ?c4 ?k4 ?a5 ?l5 ?c5 ?k5 ?a6 ?l6 ?c6 ?k6 ?a7 ?l7 ?c7 ?k7 ?a8 ?l8 ?c8 ?k8 ?a9 ?l9 ?c9 ?k9 ?a10 ?l10 ?c10 ?k10 ?a11 ?l11 ?dK11_line ?dK11_field ?c11 ?k11 ?a12 ?l12 ?c12 ?k12 ?a13 ?l13 ?c13 ?k13 ?a14 ?l14 ?c14 ?k14 ?a15 ?l15 ?c15 ?k15 ?lt15 ?p15 ?a16 ?l16 ?c16 ?k16 ?lt16 ?p16 ?a17 ?l17 ?c17 ?k17 ?z_ValueError ?z_all ?z_bool ?z_int ?z_isinstance ?z_len ?z_range ?z_repr ?z_str ?g_DIGITS ?g_MOST_DIGITS ?x_sg ?x_tk ?x_any ?z_super ?y_ClusterError ?y_InvalidPaper ?y_InvalidText ?y_LiveError ?y_NotUsable ?y_PaperError ?y_StampError ?y_TextError ?xL_InvalidText ?bm_InvalidText_ok ?sa_InvalidText ?ga_InvalidText ?gg_InvalidText ?cl_InvalidText ?eC_InvalidText ?vC_InvalidText ?tC_InvalidText ?kC_InvalidText ?hC_InvalidText ?mC_InvalidText ?mO_InvalidText ?sup_InvalidText ?self_InvalidText ?n_at_InvalidText ?n_field_InvalidText ?n_line_InvalidText ?n_word_InvalidText ?xL_NotUsable ?bm_NotUsable_ok ?sa_NotUsable ?ga_NotUsable ?gg_NotUsable ?cl_NotUsable ?eC_NotUsable ?vC_NotUsable ?tC_NotUsable ?kC_NotUsable ?hC_NotUsable ?mC_NotUsable ?mO_NotUsable ?sup_NotUsable ?self_NotUsable ?n_at_NotUsable ?n_field_NotUsable ?n_line_NotUsable ?n_word_NotUsable ?ini_InvalidText ?ty_InvalidText ?lk_InvalidText ?cdi_InvalidText ?lc_InvalidText ?hv_InvalidText ?cell_InvalidText ?ini_NotUsable ?ty_NotUsable ?lk_NotUsable ?cdi_NotUsable ?lc_NotUsable ?hv_NotUsable ?cell_NotUsable ?eC_ClusterError ?tC_ClusterError ?iC_ClusterError ?s_NotUsable_ClusterError ?s_InvalidText_ClusterError ?eC_InvalidPaper ?tC_InvalidPaper ?iC_InvalidPaper ?s_NotUsable_InvalidPaper ?s_InvalidText_InvalidPaper ?iC_InvalidText ?s_NotUsable_InvalidText ?eC_LiveError ?tC_LiveError ?iC_LiveError ?s_NotUsable_LiveError ?s_InvalidText_LiveError ?iC_NotUsable ?s_InvalidText_NotUsable ?eC_PaperError ?tC_PaperError ?iC_PaperError ?s_NotUsable_PaperError ?s_InvalidText_PaperError ?eC_StampError ?tC_StampError ?iC_StampError ?s_NotUsable_StampError ?s_InvalidText_StampError ?eC_TextError ?tC_TextError ?iC_TextError ?s_NotUsable_TextError ?s_InvalidText_TextError
    case a0 => k_is
    case l0 => k_is
    case c0 => k_is
    case k0 => k_is
    case a1 => k_is
    case l1 => k_is
    case c1 => k_is
    case k1 => k_is
    case a2 => k_is
    case l2 => k_is
    case c2 => k_is
    case k2 => k_is
    case a3 => k_is
    case l3 => k_is
    case c3 => k_is
    case k3 => k_is
    case a4 => k_is
    case l4 => k_is
    case c4 => k_is
    case k4 => k_is
    case a5 => k_is
    case l5 => k_is
    case c5 => k_is
    case k5 => k_is
    case a6 => k_is
    case l6 => k_is
    case c6 => k_is
    case k6 => k_is
    case a7 => k_is
    case l7 => k_is
    case c7 => k_is
    case k7 => k_is
    case a8 => k_is
    case l8 => k_is
    case c8 => k_is
    case k8 => k_is
    case a9 => k_is
    case l9 => k_is
    case c9 => k_is
    case k9 => k_is
    case a10 => k_is
    case l10 => k_is
    case c10 => k_is
    case k10 => k_is
    case a11 => k_is
    case l11 => k_is
    case dK11_line => k_is
    case dK11_field => k_is
    case c11 => k_is
    case k11 => k_is
    case a12 => k_is
    case l12 => k_is
    case c12 => k_is
    case k12 => k_is
    case a13 => k_is
    case l13 => k_is
    case c13 => k_is
    case k13 => k_is
    case a14 => k_is
    case l14 => k_is
    case c14 => k_is
    case k14 => k_is
    case a15 => k_is
    case l15 => k_is
    case c15 => k_is
    case k15 => k_is
    case lt15 => k_is
    case p15 => rfl
    case a16 => k_is
    case l16 => k_is
    case c16 => k_is
    case k16 => k_is
    case lt16 => k_is
    case p16 => rfl
    case a17 => k_is
    case l17 => k_is
    case c17 => k_is
    case k17 => k_is
    case z_ValueError => k_is
    case z_all => k_is
    case z_bool => k_is
    case z_int => k_is
    case z_isinstance => k_is
    case z_len => k_is
    case z_range => k_is
    case z_repr => k_is
    case z_str => k_is
    case g_DIGITS => k_is
    case g_MOST_DIGITS => k_is
    case x_sg => k_is
    case x_tk => k_is
    case x_any => k_is
    case z_super => k_is
    case y_ClusterError => k_is
    case y_InvalidPaper => k_is
    case y_InvalidText => k_is
    case y_LiveError => k_is
    case y_NotUsable => k_is
    case y_PaperError => k_is
    case y_StampError => k_is
    case y_TextError => k_is
    case xL_InvalidText => k_is
    case bm_InvalidText_ok => decide +kernel
    case sa_InvalidText => k_is
    case ga_InvalidText => k_is
    case gg_InvalidText => k_is
    case cl_InvalidText => k_is
    case eC_InvalidText => k_is
    case vC_InvalidText => k_is
    case tC_InvalidText => k_is
    case kC_InvalidText => k_is
    case hC_InvalidText => k_is
    case mC_InvalidText => k_is
    case mO_InvalidText => k_is
    case sup_InvalidText => kernel_rfl
    case self_InvalidText => k_is
    case n_at_InvalidText => k_is
    case n_field_InvalidText => k_is
    case n_line_InvalidText => k_is
    case n_word_InvalidText => k_is
    case xL_NotUsable => k_is
    case bm_NotUsable_ok => decide +kernel
    case sa_NotUsable => k_is
    case ga_NotUsable => k_is
    case gg_NotUsable => k_is
    case cl_NotUsable => k_is
    case eC_NotUsable => k_is
    case vC_NotUsable => k_is
    case tC_NotUsable => k_is
    case kC_NotUsable => k_is
    case hC_NotUsable => k_is
    case mC_NotUsable => k_is
    case mO_NotUsable => k_is
    case sup_NotUsable => kernel_rfl
    case self_NotUsable => k_is
    case n_at_NotUsable => k_is
    case n_field_NotUsable => k_is
    case n_line_NotUsable => k_is
    case n_word_NotUsable => k_is
    case ini_InvalidText => k_is
    case ty_InvalidText => k_is
    case lk_InvalidText => k_is
    case cdi_InvalidText => k_is
    case lc_InvalidText => k_is
    case hv_InvalidText => exact ⟨_, _, rfl, by decide +kernel⟩
    case cell_InvalidText => k_is
    case ini_NotUsable => k_is
    case ty_NotUsable => k_is
    case lk_NotUsable => k_is
    case cdi_NotUsable => k_is
    case lc_NotUsable => k_is
    case hv_NotUsable => exact ⟨_, _, rfl, by decide +kernel⟩
    case cell_NotUsable => k_is
    case eC_ClusterError => k_is
    case tC_ClusterError => k_is
    case iC_ClusterError => k_is
    case s_NotUsable_ClusterError => k_is
    case s_InvalidText_ClusterError => k_is
    case eC_InvalidPaper => k_is
    case tC_InvalidPaper => k_is
    case iC_InvalidPaper => k_is
    case s_NotUsable_InvalidPaper => k_is
    case s_InvalidText_InvalidPaper => k_is
    case iC_InvalidText => k_is
    case s_NotUsable_InvalidText => k_is
    case eC_LiveError => k_is
    case tC_LiveError => k_is
    case iC_LiveError => k_is
    case s_NotUsable_LiveError => k_is
    case s_InvalidText_LiveError => k_is
    case iC_NotUsable => k_is
    case s_InvalidText_NotUsable => k_is
    case eC_PaperError => k_is
    case tC_PaperError => k_is
    case iC_PaperError => k_is
    case s_NotUsable_PaperError => k_is
    case s_InvalidText_PaperError => k_is
    case eC_StampError => k_is
    case tC_StampError => k_is
    case iC_StampError => k_is
    case s_NotUsable_StampError => k_is
    case s_InvalidText_StampError => k_is
    case eC_TextError => k_is
    case tC_TextError => k_is
    case iC_TextError => k_is
    case s_NotUsable_TextError => k_is
    case s_InvalidText_TextError => k_is
  case L => exact Gstampahead_k12_stamps_read.law_ok _ (by decide)
  case nd => decide
  case C => exact fun w h Y => ⟨List.forall_mem_cons.mpr ⟨PySem.W.km_tabs_of Y _ (by k_mem), List.forall_mem_cons.mpr ⟨PySem.W.km_tabs_of Y _ (by k_mem), (fun _ h => nomatch h)⟩⟩, List.forall_mem_cons.mpr ⟨(by kernel_rfl), List.forall_mem_cons.mpr ⟨(by kernel_rfl), (fun _ h => nomatch h)⟩⟩, List.forall_mem_cons.mpr ⟨(by kernel_rfl), List.forall_mem_cons.mpr ⟨(by kernel_rfl), (fun _ h => nomatch h)⟩⟩⟩
#print axioms PySem.Challenge.cw_stampahead_k12_stamps_read_holds
