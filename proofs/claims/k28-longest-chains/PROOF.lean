import PyProof.Rows.All
import Wide.All
import OpenK.AllK
import Wide.FinOn
import PyProof.Rows.IntBool
import PyProof.Rows.RuleB_bool
import PyProof.ReprRoads
import PyProof.CallFns
import KE.GoesEnum
import PyProof.Rows.StrJoinMade
import PyProof.StrLawsRepr
import KE.SortData
import KE.DataFind
import KE.DataMinMax
import KE.KExcSuper
import KE.KExcIs
import KE.KNestM
import PyProof.StrBlock2
import KE.IntTextLaws
import PyProof.SetRoads
import KE.KDictCopyH
import KE.KDictWalk
import PyProof.ListStr
import KE.KDictPairs
import KE.KDictZip
import KE.SortKeyHeap
import KE.DataMinKey
import HandS.ForMost
import HandS.Exc
import HandS.WordsExc
import HandS.Lambda
import HandS.Flow
import HandS.Wide
import HandS.TupAny
import HandS.TupLe
import HandS.IsInst
import HandS.Conv
import HandS.RaiseMore
import HandS.Iter
import HandS.Zip
import HandS.Comp
import HandS.Small
import HandS.Style
import HandS.Words
import HandS.ExcOwn
import HandS.Codes
import HandS.Ends
import HandS.TupMul
import HandS.WordsDict
import HandS.SortKw
import HandS.DictComp
import HandS.ExcInit
import HandS.ExcIs
import HandS.ExcField
import HandS.EndTab
import HandS.SetFor
import HandS.Strs
import HandS.TupSets
import HandS.HotCalls
import HandS.Defaults
import HandS.Star
import HandS.Deep
import HandS.NoneIn
import PySem.Challenge.RW_stampahead_k28_whole_longest_chains
set_option Elab.async false
set_option linter.all false
set_option maxRecDepth 100000
set_option maxHeartbeats 4000000
namespace Pv
open PySem PySem.Spec L2
open PyProof.Rows hiding St
abbrev D := PyData
/-- the r-th object of the store -/
@[reducible] def Rf (r : Nat) : D := .dict [(.int (r : Int), .none)]
inductive MO where
  /-- a list that may grow; a list that is read alone (the script) -/
  | lst (ds : List D) | ro (ds : List D)
  | dct (kvs : List (Key × D)) | dctT (kvs : List (List Key × D))
  /-- the table of the code objects of a def that makes lambdas: where it stands, their name -/
  | tb (P : Addr) (q : Str)
abbrev Sto := List MO
def tbs : Sto → List (Addr × Str)
  | [] => []
  | .tb P q :: st => (P, q) :: tbs st
  | _ :: st => tbs st
def noTb : MO → Bool
  | .tb _ _ => false
  | _ => true
theorem tbs_app (st : Sto) {m : MO} (h : noTb m = true) : tbs (st ++ [m]) = tbs st := by
  induction st with
  | nil => cases m with
    | tb P q => cases h
    | _ => rfl
  | cons o st ih => cases o <;> simp [tbs, ih]
theorem tbs_set {m : MO} (h : noTb m = true) : ∀ (st : Sto) (r : Nat), ∀ p ∈ tbs (st.set r m), p ∈ tbs st
  | [], _, p, hp => by cases hp
  | o :: st, 0, p, hp => by
    have hp' : p ∈ tbs (m :: st) := hp
    have : tbs (m :: st) = tbs st := by cases m <;> first | rfl | cases h
    rw [this] at hp'
    cases o <;> simp [tbs, hp']
  | o :: st, r + 1, p, hp => by
    have hp' : p ∈ tbs (o :: st.set r m) := hp
    cases o with
    | tb P q =>
      rcases List.mem_cons.mp hp' with e | e
      · subst e; exact List.mem_cons_self
      · exact List.mem_cons_of_mem _ (tbs_set h st r p e)
    | _ => exact tbs_set h st r p hp'
abbrev Sl := List (Option D)
/-- F: the part of the heap that never changes; rho: where the store's objects stand -/
structure Wd where
  F : Hp
  rho : List Addr
/-- a tuple whose object is known: the module's own, or one that was laid down so -/
def SqZ (K : PySem.W.Frag) (F : Hp) (a : Addr) (xs : List V) : Prop :=
  (∃ (o : Obj) (its : Array Value) (n : Nat), K.lookup a = some o ∧ o.cls = .type "tuple" ∧ o.dict = none ∧ o.data = .seq its n ∧ its.size ≤ sizeLine ∧ Vals xs its.toList) ∨ ∃ o : Obj, F a = some (.frz o (.tup xs)) ∧ o.dict = none
theorem SqZ.mono {K : PySem.W.Frag} {F F' : Hp} {a : Addr} {xs : List V} (hf : ∀ b o, F b = some o → F' b = some o) (h : SqZ K F a xs) : SqZ K F' a xs := h.imp id fun ⟨o, h1, h2⟩ => ⟨o, hf _ _ h1, h2⟩
theorem SqZ.T {K : PySem.W.Frag} {F F' : Hp} {a : Addr} {xs : List V} (hf : ∀ b o, F b = some o → F' b = some o) (h : SqZ K F a xs) : SqT K F' a xs := by
  rcases h with ⟨o, its, n, h1, h2, _, h4, h5, h6⟩ | ⟨o, h1, _⟩
  · exact .inr ⟨o, its, n, h1, h2, h4, h5, h6⟩
  · exact .inl (.inr ⟨o, hf _ _ h1⟩)
/-- a tuple of the module's own -/
@[reducible] def Gc (ds : List D) : D := .dict [(.none, .tuple ds)]
/-- a list that is read alone: the script, a list of the module's own -/
@[reducible] def Gs (ds : List D) : D := .dict [(.none, .list ds)]
/-- a caught exception: where it and its dict stand, its class, its fields -/
@[reducible] def Ec (a dd : Nat) (c : Str) (ns fs : List D) : D := .dict [(.bool true, .tuple [.int (a : Int), .int (dd : Int), .str c, .tuple ns, .tuple fs])]
def nmD : List D → List Str
  | [] => []
  | .str x :: ds => x :: nmD ds
  | _ :: ds => nmD ds
mutual
def rep (K : PySem.W.Frag) (W : Wd) (v : V) : D → Prop
  | .none => v = .non
  | .bool b => v = .bl b
  | .int i => v = .int i
  | .str x => v = .str x
  | .list ds => ∃ a xs, v = .ref a ∧ W.F a = some (.lst xs) ∧ repL K W xs ds
  | .tuple ds => ∃ a xs, v = .ref a ∧ W.F a = some (.tup xs) ∧ repL K W xs ds
  | .dict [(.int i, .none)] => ∃ (r : Nat) (a : Addr), i = (r : Int) ∧ v = .ref a ∧ W.rho[r]? = some a
  | .dict [(.none, .tuple ds)] => ∃ a xs, v = .ref a ∧ SqZ K W.F a xs ∧ repL K W xs ds
  | .dict [(.none, .list ds)] => ∃ a xs, v = .ref a ∧ SqL K W.F a xs ∧ repL K W xs ds
  | .dict [(.bool true, .tuple [.int a, .int dd, .str _, .tuple ns, .tuple fs])] => v = .ref a.toNat ∧ ∃ xs, W.F dd.toNat = some (.xd ((nmD ns).zip xs)) ∧ repL K W xs fs
  | .dict _ => False
def repL (K : PySem.W.Frag) (W : Wd) (vs : List V) : List D → Prop
  | [] => vs = []
  | d :: ds => ∃ v us, vs = v :: us ∧ rep K W v d ∧ repL K W us ds
end
/-- pairs: the keys are the same, the values are told -/
def repP {κ : Type} (K : PySem.W.Frag) (W : Wd) : List (κ × V) → List (κ × D) → Prop := Paired fun p q => p.1 = q.1 ∧ rep K W p.2 q.2
def repO (K : PySem.W.Frag) (W : Wd) (H : Hp) (a : Addr) : MO → Prop
  | .lst ds => ∃ xs, H a = some (.lst xs) ∧ repL K W xs ds
  | .ro ds => ∃ o xs, H a = some (.frz o (.lst xs)) ∧ repL K W xs ds
  | .dct kvs => ∃ ks, H a = some (.dK ks) ∧ repP K W ks kvs
  | .dctT kvs => ∃ ks, H a = some (.dT ks) ∧ repP K W ks kvs
  | .tb P _ => a = P ∧ ∃ ps, H a = some (.tbl ps)
structure HR (K : PySem.W.Frag) (W : Wd) (H : Hp) (st : Sto) : Prop where
  len : W.rho.length = st.length
  nd : W.rho.Nodup
  sub : ∀ b o, W.F b = some o → H b = some o
  obj : ∀ (r : Nat) (a : Addr) (m : MO), W.rho[r]? = some a → st[r]? = some m → W.F a = none ∧ repO K W H a m
  tab : LamX.Tabs (tbs st) H
  nt : ∀ b ps, W.F b ≠ some (.tbl ps)
/-- nothing stands there, or the table of a def's code objects (it may be written anew) -/
def Nn (H : Hp) (a : Addr) : Prop := ∀ o, H a = some o → ∃ ps, o = .tbl ps
theorem Nn.of {H : Hp} {a : Addr} (h : H a = none) : Nn H a := fun o e => by rw [h] at e; cases e
/-- nothing stands there, or a tuple that the store does not hold -/
def Nt (W : Wd) (H : Hp) (b : Addr) : Prop := Nn H b ∨ (b ∉ W.rho ∧ ∃ xs, H b = some (.tup xs))
theorem Nt.of {W : Wd} {H : Hp} {a : Addr} (h : H a = none) : Nt W H a := .inl (.of h)
theorem Nt.some {W : Wd} {H : Hp} {b : Addr} {u : HO} (z : Nt W H b) (e : H b = some u) (hu : ∀ ps, u ≠ .tbl ps) : ∃ xs, u = .tup xs := by
  rcases z with z | ⟨_, xs, h⟩
  · obtain ⟨ps, y⟩ := z u e; exact absurd y (hu ps)
  · rw [e] at h; cases h; exact ⟨xs, rfl⟩
structure Ext (W : Wd) (H : Hp) (W' : Wd) (H' : Hp) : Prop where
  fr : ∀ b o, W.F b = some o → W'.F b = some o
  rh : ∃ r, W'.rho = W.rho ++ r ∧ ∀ a ∈ r, Nn H a
  out : ∀ b o, H b = some o → b ∉ W.rho → (∀ ps, o ≠ .tbl ps) → H' b = some o
  non : ∀ b, Nn H' b → Nn H b
  nf : ∀ b o, W'.F b = some o → W.F b = some o ∨ Nt W H b
section
variable {K : PySem.W.Frag} {W W' W'' : Wd} {H H' H'' : Hp} {st st' : Sto} {v : V} {vs us : List V} {d : D} {ds es : List D} {a : Addr}
/-- a thing that is neither a table nor a code object -/
def plainO : HO → Bool
  | .tbl _ => false
  | .ext _ => false
  | _ => true
theorem plainO_tbl {o : HO} (h : plainO o = true) : ∀ ps, o ≠ .tbl ps := fun ps e => by subst e; cases h
theorem tabs_new {T : List (Addr × Str)} {o : HO} (t : LamX.Tabs T H) (hp : H a = none) : LamX.Tabs T (upd H a o) := t.ext fun b u e => by
  have hb : b ≠ a := fun z => by subst z; rw [hp] at e; cases e
  rw [upd_ne hb]; exact e
theorem tabs_set {T : List (Addr × Str)} {o u : HO} (t : LamX.Tabs T H) (hp : H a = some u) (hu : plainO u = true) : LamX.Tabs T (upd H a o) := fun p hm => by
  obtain ⟨ps, h1, h2, h3⟩ := t p hm
  refine ⟨ps, ?_, h2, fun pos cv hc => ?_⟩
  · have hb : p.1 ≠ a := fun z => by rw [z, hp] at h1; cases h1; cases hu
    rw [upd_ne hb]; exact h1
  · obtain ⟨c, e1, e2⟩ := h3 pos cv hc
    have hb : c ≠ a := fun z => by rw [z, hp] at e2; cases e2; cases hu
    exact ⟨c, e1, by rw [upd_ne hb]; exact e2⟩
theorem Ext.refl : Ext W H W H := ⟨fun _ _ h => h, ⟨[], by simp, fun _ h => by cases h⟩, fun _ _ h _ _ => h, fun _ h => h, fun _ _ h => .inl h⟩
theorem Ext.trans (e : Ext W H W' H') (f : Ext W' H' W'' H'') : Ext W H W'' H'' := by
  obtain ⟨r, hr, hn⟩ := e.rh
  obtain ⟨q, hq, hm⟩ := f.rh
  refine ⟨fun b o h => f.fr b o (e.fr b o h), ⟨r ++ q, by rw [hq, hr, List.append_assoc], fun a ha => ?_⟩, fun b o h hb htb => ?_, fun b h => e.non b (f.non b h), fun b o h => ?_⟩
  · rcases List.mem_append.mp ha with h | h
    · exact hn a h
    · exact e.non a (hm a h)
  · refine f.out b o (e.out b o h hb htb) ?_ htb
    rw [hr]
    intro hx
    rcases List.mem_append.mp hx with h' | h'
    · exact hb h'
    · obtain ⟨ps, z⟩ := hn b h' o h; exact htb ps z
  · rcases f.nf b o h with h | h
    · exact e.nf b o h
    · rcases h with h | ⟨hb, xs, h⟩
      · exact .inr (.inl (e.non b h))
      · refine .inr ?_
        have hb' : b ∉ W.rho := fun z => hb (by rw [hr]; exact List.mem_append_left _ z)
        cases q : H b with
        | none => exact .inl (.of q)
        | some u =>
          by_cases t : ∃ ps, u = .tbl ps
          · obtain ⟨ps, rfl⟩ := t
            exact .inl (fun o e => by rw [q] at e; cases e; exact ⟨ps, rfl⟩)
          · have y := e.out b u q hb' (fun ps z => t ⟨ps, z⟩)
            rw [h] at y; cases y
            exact .inr ⟨hb', xs, q⟩
theorem sqL_mono {F F' : Hp} {xs : List V} (hf : ∀ b o, F b = some o → F' b = some o) (h : SqL K F a xs) : SqL K F' a xs := by
  rcases h with (h | ⟨o, h⟩) | h
  · exact .inl (.inl (hf _ _ h))
  · exact .inl (.inr ⟨o, hf _ _ h⟩)
  · exact .inr h
theorem rep_dict {kvs : List (D × D)} (h : rep K W v (.dict kvs)) : (∃ (r : Nat) (a : Addr), kvs = [(.int (r : Int), .none)] ∧ v = .ref a ∧ W.rho[r]? = some a) ∨
    (∃ ds a xs, kvs = [(.none, .tuple ds)] ∧ v = .ref a ∧ SqZ K W.F a xs ∧ repL K W xs ds) ∨
    (∃ ds a xs, kvs = [(.none, .list ds)] ∧ v = .ref a ∧ SqL K W.F a xs ∧ repL K W xs ds) ∨
    ∃ (a dd : Int) (c : Str) (ns fs : List D), kvs = [(.bool true, .tuple [.int a, .int dd, .str c, .tuple ns, .tuple fs])] := by
  match kvs, h with
  | [(.int i, .none)], ⟨r, a, e1, e2, e3⟩ => subst e1; exact .inl ⟨r, a, rfl, e2, e3⟩
  | [(.none, .tuple ds)], ⟨a, xs, e1, e2, e3⟩ => exact .inr (.inl ⟨ds, a, xs, rfl, e1, e2, e3⟩)
  | [(.none, .list ds)], ⟨a, xs, e1, e2, e3⟩ => exact .inr (.inr (.inl ⟨ds, a, xs, rfl, e1, e2, e3⟩))
  | [(.bool true, .tuple [.int a, .int dd, .str c, .tuple ns, .tuple fs])], _ => exact .inr (.inr (.inr ⟨a, dd, c, ns, fs, rfl⟩))
mutual
theorem rep_mono (hf : ∀ b o, W.F b = some o → W'.F b = some o) (hr : ∀ (r : Nat) (a : Addr), W.rho[r]? = some a → W'.rho[r]? = some a) : ∀ {v : V} (d : D), rep K W v d → rep K W' v d
  | _, .none, h => h
  | _, .bool _, h => h
  | _, .int _, h => h
  | _, .str _, h => h
  | _, .list ds, ⟨a, xs, e, h, l⟩ => ⟨a, xs, e, hf _ _ h, repL_mono hf hr ds l⟩
  | _, .tuple ds, ⟨a, xs, e, h, l⟩ => ⟨a, xs, e, hf _ _ h, repL_mono hf hr ds l⟩
  | _, .dict [(.int _, .none)], ⟨r, a, e1, e2, h⟩ => ⟨r, a, e1, e2, hr r a h⟩
  | _, .dict [(.none, .tuple ds)], ⟨a, xs, e, h, l⟩ => ⟨a, xs, e, h.mono hf, repL_mono hf hr ds l⟩
  | _, .dict [(.none, .list ds)], ⟨a, xs, e, h, l⟩ => ⟨a, xs, e, sqL_mono hf h, repL_mono hf hr ds l⟩
  | _, .dict [(.bool true, .tuple [.int _, .int _, .str _, .tuple _, .tuple fs])], ⟨e, xs, h, l⟩ => ⟨e, xs, hf _ _ h, repL_mono hf hr fs l⟩
theorem repL_mono (hf : ∀ b o, W.F b = some o → W'.F b = some o) (hr : ∀ (r : Nat) (a : Addr), W.rho[r]? = some a → W'.rho[r]? = some a) : ∀ {vs : List V} (ds : List D), repL K W vs ds → repL K W' vs ds
  | _, [], h => h
  | _, d :: ds, ⟨v, us, e, h, l⟩ => ⟨v, us, e, rep_mono hf hr d h, repL_mono hf hr ds l⟩
end
theorem Ext.at (e : Ext W H W' H') (r : Nat) (a : Addr) (h : W.rho[r]? = some a) : W'.rho[r]? = some a := by
  obtain ⟨q, hq, _⟩ := e.rh
  have hlt : r < W.rho.length := (List.getElem?_eq_some_iff.mp h).1
  rw [hq, List.getElem?_append_left hlt]; exact h
theorem Ext.rep (e : Ext W H W' H') (h : rep K W v d) : Pv.rep K W' v d := rep_mono e.fr e.at d h
theorem Ext.repL (e : Ext W H W' H') (h : repL K W vs ds) : Pv.repL K W' vs ds := repL_mono e.fr e.at ds h
theorem repP_mono {κ : Type} {ks : List (κ × V)} {kvs : List (κ × D)} (hf : ∀ b o, W.F b = some o → W'.F b = some o) (hr : ∀ (r : Nat) (a : Addr), W.rho[r]? = some a → W'.rho[r]? = some a) (h : repP K W ks kvs) : repP K W' ks kvs :=
  Paired.mapP h fun _ _ z => ⟨z.1, rep_mono hf hr _ z.2⟩
theorem repO_mono {m : MO} (hf : ∀ b o, W.F b = some o → W'.F b = some o) (hr : ∀ (r : Nat) (a : Addr), W.rho[r]? = some a → W'.rho[r]? = some a) (hH : ∀ o, H a = some o → H' a = some o) (h : repO K W H a m) : repO K W' H' a m := by
  cases m with
  | lst ds => obtain ⟨xs, h1, h2⟩ := h; exact ⟨xs, hH _ h1, repL_mono hf hr ds h2⟩
  | ro ds => obtain ⟨o, xs, h1, h2⟩ := h; exact ⟨o, xs, hH _ h1, repL_mono hf hr ds h2⟩
  | dct kvs => obtain ⟨xs, h1, h2⟩ := h; exact ⟨xs, hH _ h1, repP_mono hf hr h2⟩
  | dctT kvs => obtain ⟨xs, h1, h2⟩ := h; exact ⟨xs, hH _ h1, repP_mono hf hr h2⟩
  | tb P q => obtain ⟨e, ps, h1⟩ := h; exact ⟨e, ps, hH _ h1⟩
theorem repO.some {m : MO} (h : repO K W H a m) : ∃ o, H a = some o := by
  cases m with
  | lst ds => obtain ⟨xs, h1, _⟩ := h; exact ⟨_, h1⟩
  | ro ds => obtain ⟨o, xs, h1, _⟩ := h; exact ⟨_, h1⟩
  | dct kvs => obtain ⟨xs, h1, _⟩ := h; exact ⟨_, h1⟩
  | dctT kvs => obtain ⟨xs, h1, _⟩ := h; exact ⟨_, h1⟩
  | tb P q => obtain ⟨e, ps, h1⟩ := h; exact ⟨_, h1⟩
theorem repO_plain {m : MO} (h : repO K W H a m) (ht : noTb m = true) : ∃ o, H a = some o ∧ plainO o = true := by
  cases m with
  | tb P q => cases ht
  | lst ds => obtain ⟨xs, h1, _⟩ := h; exact ⟨_, h1, rfl⟩
  | ro ds => obtain ⟨o, xs, h1, _⟩ := h; exact ⟨_, h1, rfl⟩
  | dct ds => obtain ⟨xs, h1, _⟩ := h; exact ⟨_, h1, rfl⟩
  | dctT ds => obtain ⟨xs, h1, _⟩ := h; exact ⟨_, h1, rfl⟩
theorem HR.at (h : HR K W H st) {r : Nat} (e : W.rho[r]? = some a) : ∃ m, st[r]? = some m ∧ W.F a = none ∧ repO K W H a m := by
  have hlt : r < st.length := by rw [← h.len]; exact (List.getElem?_eq_some_iff.mp e).1
  have hm : st[r]? = some st[r] := List.getElem?_eq_getElem hlt
  obtain ⟨p, q⟩ := h.obj r a _ e hm
  exact ⟨_, hm, p, q⟩
theorem HR.at' (h : HR K W H st) {r : Nat} {m : MO} (e : st[r]? = some m) : ∃ a, W.rho[r]? = some a ∧ W.F a = none ∧ repO K W H a m := by
  have hlt : r < W.rho.length := by rw [h.len]; exact (List.getElem?_eq_some_iff.mp e).1
  have hm : W.rho[r]? = some W.rho[r] := List.getElem?_eq_getElem hlt
  obtain ⟨p, q⟩ := h.obj r _ m hm e
  exact ⟨_, hm, p, q⟩
theorem HR.mem (h : HR K W H st) (ha : a ∈ W.rho) : ∃ o, H a = some o := by
  obtain ⟨r, hr⟩ := List.mem_iff_getElem?.mp ha
  obtain ⟨m, _, _, q⟩ := h.at hr
  exact q.some
theorem HR.free (h : HR K W H st) (hp : H a = none) : a ∉ W.rho := fun ha => by
  obtain ⟨o, e⟩ := h.mem ha
  rw [e] at hp; cases hp
theorem HR.freeF (h : HR K W H st) (hp : H a = none) : W.F a = none := by
  cases q : W.F a with
  | none => rfl
  | some o => rw [h.sub _ _ q] at hp; cases hp
/-- a new thing that never changes -/
theorem HR.new {o : HO} (h : HR K W H st) (hp : H a = none) (ho : plainO o = true := by rfl) : HR K ⟨upd W.F a o, W.rho⟩ (upd H a o) st ∧ Ext W H ⟨upd W.F a o, W.rho⟩ (upd H a o) := by
  have hf : ∀ b u, W.F b = some u → upd W.F a o b = some u := fun b u e => by
    have hb : b ≠ a := fun z => by subst z; rw [h.freeF hp] at e; cases e
    rw [upd_ne hb]; exact e
  have hn := h.free hp
  refine ⟨⟨h.len, h.nd, fun b u e => ?_, fun r b m e1 e2 => ?_, tabs_new h.tab hp, fun b ps e => ?_⟩, ⟨hf, ⟨[], by simp, fun _ z => by cases z⟩, fun b u e _ _ => ?_, fun b e => ?_, fun b u e => ?_⟩⟩
  · have e' : upd W.F a o b = some u := e
    by_cases hb : b = a
    · subst hb; rw [upd_same] at e' ⊢; exact e'
    · rw [upd_ne hb] at e' ⊢; exact h.sub b u e'
  · have hb : b ≠ a := fun z => hn (by rw [← z]; exact List.mem_of_getElem? e1)
    obtain ⟨p, q⟩ := h.obj r b m e1 e2
    exact ⟨by show upd W.F a o b = none; rw [upd_ne hb]; exact p, repO_mono (W := W) hf (fun _ _ z => z) (fun u z => by rw [upd_ne hb]; exact z) q⟩
  · have e' : upd W.F a o b = some (.tbl ps) := e
    by_cases hb : b = a
    · subst hb; rw [upd_same] at e'; cases e'; cases ho
    · rw [upd_ne hb] at e'; exact h.nt b ps e'
  · have hb : b ≠ a := fun z => by subst z; rw [hp] at e; cases e
    rw [upd_ne hb]; exact e
  · by_cases hb : b = a
    · subst hb; exact .of hp
    · exact fun u z => e u (by rw [upd_ne hb]; exact z)
  · have e' : upd W.F a o b = some u := e
    by_cases hb : b = a
    · subst hb; exact .inr (.of hp)
    · rw [upd_ne hb] at e'; exact .inl e'
/-- a new object of the store -/
theorem HR.newM {o : HO} {m : MO} (h : HR K W H st) (hp : H a = none) (ho : repO K ⟨W.F, W.rho ++ [a]⟩ (upd H a o) a m) (hm : noTb m = true := by rfl) :
    HR K ⟨W.F, W.rho ++ [a]⟩ (upd H a o) (st ++ [m]) ∧ Ext W H ⟨W.F, W.rho ++ [a]⟩ (upd H a o) := by
  have hn := h.free hp
  have hx : Ext W H ⟨W.F, W.rho ++ [a]⟩ (upd H a o) := by
    refine ⟨fun _ _ e => e, ⟨[a], rfl, fun b hb => ?_⟩, fun b u e _ _ => ?_, fun b e => ?_, fun _ _ e => .inl e⟩
    · have : b = a := by simpa using hb
      subst this; exact .of hp
    · have hb : b ≠ a := fun z => by subst z; rw [hp] at e; cases e
      rw [upd_ne hb]; exact e
    · by_cases hb : b = a
      · subst hb; exact .of hp
      · exact fun u z => e u (by rw [upd_ne hb]; exact z)
  refine ⟨⟨by simp [h.len], ?_, fun b u e => ?_, fun r b m' e1 e2 => ?_, by rw [tbs_app st hm]; exact tabs_new h.tab hp, h.nt⟩, hx⟩
  · exact List.nodup_append.mpr ⟨h.nd, by simp, fun x hx' y hy => by
      have hy' : y = a := by simpa using hy
      rw [hy']
      exact fun z => hn (z ▸ hx')⟩
  · have hb : b ≠ a := fun z => by subst z; rw [h.freeF hp] at e; cases e
    rw [upd_ne hb]; exact h.sub b u e
  · by_cases hr : r < W.rho.length
    · rw [List.getElem?_append_left hr] at e1
      rw [List.getElem?_append_left (by rw [← h.len]; exact hr)] at e2
      have hb : b ≠ a := fun z => hn (by rw [← z]; exact List.mem_of_getElem? e1)
      obtain ⟨p, q⟩ := h.obj r b m' e1 e2
      exact ⟨p, repO_mono (W := W) hx.fr hx.at (fun u z => by rw [upd_ne hb]; exact z) q⟩
    · rw [List.getElem?_append_right (by omega)] at e1
      rw [List.getElem?_append_right (by rw [← h.len]; omega)] at e2
      rw [h.len] at e1
      cases hk : r - st.length with
      | zero =>
        rw [hk] at e1 e2
        simp at e1 e2
        subst e1; subst e2
        exact ⟨h.freeF hp, ho⟩
      | succ k => rw [hk] at e1; simp at e1
/-- an object of the store is changed -/
theorem HR.set {o : HO} {m m0 : MO} {r : Nat} (h : HR K W H st) (hr : W.rho[r]? = some a) (hm0 : st[r]? = some m0) (ho : repO K W (upd H a o) a m) (ht0 : noTb m0 = true := by rfl) (ht : noTb m = true := by rfl) : HR K W (upd H a o) (st.set r m) ∧ Ext W H W (upd H a o) := by
  obtain ⟨hF, hO⟩ := h.obj r a m0 hr hm0
  obtain ⟨u0, hu0, hpl⟩ := repO_plain hO ht0
  have hno : ∀ ps, o ≠ .tbl ps := fun ps z => by
    obtain ⟨u1, hu1, hp1⟩ := repO_plain ho ht
    rw [upd_same] at hu1; cases hu1; exact plainO_tbl hp1 ps z
  have ham : a ∈ W.rho := List.mem_of_getElem? hr
  refine ⟨⟨by rw [List.length_set]; exact h.len, h.nd, fun b u e => ?_, fun q b m' e1 e2 => ?_, fun p hp => tabs_set h.tab hu0 hpl p (tbs_set ht st r p hp), h.nt⟩, ⟨fun _ _ e => e, ⟨[], by simp, fun _ z => by cases z⟩, fun b u e hb _ => ?_, fun b e => ?_, fun _ _ e => .inl e⟩⟩
  · have hb : b ≠ a := fun z => by subst z; rw [hF] at e; cases e
    rw [upd_ne hb]; exact h.sub b u e
  · by_cases hq : q = r
    · subst hq
      rw [hr] at e1; cases e1
      rw [List.getElem?_set_self (by rw [← h.len]; exact (List.getElem?_eq_some_iff.mp hr).1)] at e2
      cases e2
      exact ⟨hF, ho⟩
    · rw [List.getElem?_set_ne (Ne.symm hq)] at e2
      have hb : b ≠ a := fun z => by
        subst z
        exact hq ((List.getElem?_inj (List.getElem?_eq_some_iff.mp e1).1 h.nd).mp (e1.trans hr.symm))
      obtain ⟨p, q'⟩ := h.obj q b m' e1 e2
      exact ⟨p, repO_mono (W := W) (fun _ _ z => z) (fun _ _ z => z) (fun u z => by rw [upd_ne hb]; exact z) q'⟩
  · have hb : b ≠ a := fun z => hb (z ▸ ham)
    rw [upd_ne hb]; exact e
  · by_cases hb : b = a
    · subst hb; obtain ⟨ps, z⟩ := e _ (upd_same ..); exact absurd z (hno ps)
    · exact fun u z => e u (by rw [upd_ne hb]; exact z)
theorem mem_tbs {P : Addr} {q : Str} : ∀ (st : Sto) (r : Nat), st[r]? = some (.tb P q) → (P, q) ∈ tbs st
  | [], r, h => by simp at h
  | o :: st, 0, h => by
    have : o = .tb P q := by simpa using h
    subst this; exact List.mem_cons_self
  | o :: st, r + 1, h => by
    have h' : st[r]? = some (.tb P q) := by simpa using h
    cases o with
    | tb P' q' => exact List.mem_cons_of_mem _ (mem_tbs st r h')
    | _ => exact mem_tbs st r h'
/-- code objects are made: only tables are written -/
theorem HR.extN (h : HR K W H st) (e : LamX.ExtN H H') (t : LamX.Tabs (tbs st) H') : HR K W H' st ∧ Ext W H W H' := by
  have hs : ∀ b o, W.F b = some o → H' b = some o := fun b o z => e b o (h.sub b o z) fun ps y => h.nt b ps (y ▸ z)
  refine ⟨⟨h.len, h.nd, hs, fun r b m e1 e2 => ?_, t, h.nt⟩, ⟨fun _ _ z => z, ⟨[], by simp, fun _ z => by cases z⟩, fun b o z _ y => e b o z y, fun b z o y => ?_, fun _ _ z => .inl z⟩⟩
  · obtain ⟨p, q⟩ := h.obj r b m e1 e2
    refine ⟨p, ?_⟩
    by_cases ht : noTb m = true
    · cases m with
      | tb P q => cases ht
      | lst ds => obtain ⟨xs, h1, h2⟩ := q; exact ⟨xs, e _ _ h1 (plainO_tbl rfl), h2⟩
      | ro ds => obtain ⟨o, xs, h1, h2⟩ := q; exact ⟨o, xs, e _ _ h1 (plainO_tbl rfl), h2⟩
      | dct kvs => obtain ⟨xs, h1, h2⟩ := q; exact ⟨xs, e _ _ h1 (plainO_tbl rfl), h2⟩
      | dctT kvs => obtain ⟨xs, h1, h2⟩ := q; exact ⟨xs, e _ _ h1 (plainO_tbl rfl), h2⟩
    · cases m with
      | tb P q0 =>
        obtain ⟨rfl, ps, _⟩ := q
        obtain ⟨ps', h1, _⟩ := t _ (mem_tbs st r e2)
        exact ⟨rfl, ps', h1⟩
      | _ => exact absurd rfl ht
  · by_cases ht : ∃ ps, o = .tbl ps
    · exact ht
    · have hn : ∀ ps, o ≠ .tbl ps := fun ps c => ht ⟨ps, c⟩
      obtain ⟨ps, c⟩ := z o (e b o y hn)
      exact absurd c (hn ps)
/-- a list that was made beside the store is kept: as data, or as an object of the store -/
theorem HR.keepF {xs : List V} (h : HR K W H st) (e : H a = some (.lst xs)) (hn : a ∉ W.rho) (hF : W.F a = none) : HR K ⟨upd W.F a (.lst xs), W.rho⟩ H st := by
  refine ⟨h.len, h.nd, fun b u q => ?_, fun r b m e1 e2 => ?_, h.tab, fun b ps q => ?_⟩
  · have q' : upd W.F a (.lst xs) b = some u := q
    by_cases hb : b = a
    · subst hb; rw [upd_same] at q'; cases q'; exact e
    · rw [upd_ne hb] at q'; exact h.sub b u q'
  · have hb : b ≠ a := fun z => hn (by rw [← z]; exact List.mem_of_getElem? e1)
    obtain ⟨p, q⟩ := h.obj r b m e1 e2
    refine ⟨by show upd W.F a (.lst xs) b = none; rw [upd_ne hb]; exact p, repO_mono (W := W) (fun c o z => ?_) (fun _ _ z => z) (fun u z => z) q⟩
    have hc : c ≠ a := fun w => by subst w; rw [hF] at z; cases z
    show upd W.F a (.lst xs) c = some o
    rw [upd_ne hc]; exact z
  · have q' : upd W.F a (.lst xs) b = some (.tbl ps) := q
    by_cases hb : b = a
    · subst hb; rw [upd_same] at q'; cases q'
    · rw [upd_ne hb] at q'; exact h.nt b ps q'
theorem HR.keepM {m : MO} (h : HR K W H st) (hn : a ∉ W.rho) (hF : W.F a = none) (ho : repO K ⟨W.F, W.rho ++ [a]⟩ H a m) (hm : noTb m = true := by rfl) : HR K ⟨W.F, W.rho ++ [a]⟩ H (st ++ [m]) := by
  refine ⟨by simp [h.len], List.nodup_append.mpr ⟨h.nd, by simp, fun x hx' y hy => by
      have hy' : y = a := by simpa using hy
      rw [hy']
      exact fun z => hn (z ▸ hx')⟩, h.sub, fun r b m' e1 e2 => ?_, by rw [tbs_app st hm]; exact h.tab, h.nt⟩
  by_cases hr : r < W.rho.length
  · rw [List.getElem?_append_left hr] at e1
    rw [List.getElem?_append_left (by rw [← h.len]; exact hr)] at e2
    obtain ⟨p, q⟩ := h.obj r b m' e1 e2
    exact ⟨p, repO_mono (W := W) (fun _ _ z => z) (fun r b z => by
      have hlt : r < W.rho.length := (List.getElem?_eq_some_iff.mp z).1
      show (W.rho ++ [a])[r]? = some b
      rw [List.getElem?_append_left hlt]; exact z) (fun u z => z) q⟩
  · rw [List.getElem?_append_right (by omega)] at e1
    rw [List.getElem?_append_right (by rw [← h.len]; omega)] at e2
    rw [h.len] at e1
    cases hk : r - st.length with
    | zero =>
      rw [hk] at e1 e2
      simp at e1 e2
      subst e1; subst e2
      exact ⟨hF, ho⟩
    | succ k => rw [hk] at e1; simp at e1
structure SR (K : PySem.W.Frag) (W : Wd) (sh : St) (sl : Sl) : Prop where
  len : sh.length = sl.length
  at_ : ∀ (i : Nat) (d : D), sl[i]? = some (some d) → ∃ v, sh[i]? = some (some v) ∧ rep K W v d
theorem SR.ext {sh : St} {sl : Sl} (e : Ext W H W' H') (s : SR K W sh sl) : SR K W' sh sl := ⟨s.len, fun i d h => let ⟨v, a, b⟩ := s.at_ i d h; ⟨v, a, e.rep b⟩⟩
theorem SR.set {sh : St} {sl : Sl} (s : SR K W sh sl) (i : Nat) (h : rep K W v d) : SR K W (sh.set i (some v)) (sl.set i (some d)) := by
  refine ⟨by simp [s.len], fun j e hj => ?_⟩
  by_cases hij : j = i
  · subst hij
    by_cases hlt : j < sl.length
    · rw [List.getElem?_set_self hlt] at hj
      cases hj
      exact ⟨v, List.getElem?_set_self (by rw [s.len]; exact hlt), h⟩
    · rw [List.getElem?_eq_none (by simp; omega)] at hj; cases hj
  · rw [List.getElem?_set_ne (Ne.symm hij)] at hj ⊢
    exact s.at_ j e hj
/-- slots are forgotten -/
theorem SR.weak {sh : St} {sl sl' : Sl} (s : SR K W sh sl) (hl : sl'.length = sl.length) (h : ∀ (i : Nat) (d : D), sl'[i]? = some (some d) → sl[i]? = some (some d)) : SR K W sh sl' :=
  ⟨s.len.trans hl.symm, fun i d e => s.at_ i d (h i d e)⟩
/-- an exception: its class's name, its fields -/
abbrev XV := Str × List (Str × D)
inductive R (α : Type) where
  | ok (a : α) (st : Sto)
  | exc (x : XV) (st : Sto)
  | bad
abbrev M := Sl → Sto → R D
def R.bind {α β : Type} (x : R α) (f : α → Sto → R β) : R β :=
  match x with
  | .ok a st => f a st
  | .exc e st => .exc e st
  | .bad => .bad
@[simp] theorem R.bind_ok {α β : Type} (a : α) (st : Sto) (f : α → Sto → R β) : (R.ok a st).bind f = f a st := rfl
@[simp] theorem R.bind_exc {α β : Type} (x : XV) (st : Sto) (f : α → Sto → R β) : (R.exc x st).bind f = .exc x st := rfl
@[simp] theorem R.bind_bad {α β : Type} (f : α → Sto → R β) : (R.bad : R α).bind f = .bad := rfl
def lift {α : Type} (o : Option α) (st : Sto) : R α :=
  match o with
  | some a => .ok a st
  | none => .bad
@[simp] theorem lift_some {α : Type} (a : α) (st : Sto) : lift (some a) st = .ok a st := rfl
@[simp] theorem lift_none {α : Type} (st : Sto) : lift (none : Option α) st = .bad := rfl
end
/-- the facts of the written part that an exception's telling leans on -/
structure Nv where
  K : PySem.W.Frag
  mg : Str → Option Value
/-- how an exception is told: its class, its own dict -/
def repX (N : Nv) (W : Wd) (H : Hp) (cls : Value) (dd : Option Addr) (x : XV) : Prop :=
  ∃ C, N.mg x.1 = some (.ref C) ∧ cls = .ref C ∧ ∃ d fs, dd = some d ∧ W.F d = some (.xd fs) ∧ repP N.K W fs x.2
/-- what is wanted, given what the reckoning ends with -/
def Post (N : Nv) (W : Wd) (H : Hp) (Q : VK) (E : XK) : R D → Prop
  | .ok d st => ∀ W' v H', Ext W H W' H' → HR N.K W' H' st → rep N.K W' v d → Q v H'
  | .exc x st => ∀ W' cls dd H', Ext W H W' H' → HR N.K W' H' st → repX N W' H' cls dd x → E cls dd H'
  | .bad => False
abbrev nv (X : Cx) : Nv := ⟨X.K, X.mg⟩
/-- the reading of a reckoning -/
def rd (N : Nv) (Wx : WX) (m : M) : TE := fun sh H Q => ∃ W sl st, HR N.K W H st ∧ SR N.K W sh sl ∧ Post N W H Q (fun cls dd H' => Wx cls dd sh H') (m sl st)
def GE (X : Cx) (Wx : WX) (e : Expr) (m : M) : Prop := PE X e (rd (nv X) Wx m)
section
variable {X : Cx} {Wx : WX} {N : Nv} {W W' : Wd} {H H' : Hp} {st : Sto} {sh : St} {sl : Sl}
theorem _root_.L2.PE.imp {e : Expr} {t t' : TE} (h : PE X e t) (i : ∀ σ H Q, t' σ H Q → t σ H Q) : PE X e t' := ⟨fun pins s σ H Q I q => h.run pins s σ H Q I (i σ H Q q)⟩
theorem _root_.L2.PE.or {e : Expr} {t t' : TE} (h : PE X e t) (h' : PE X e t') : PE X e (fun σ H Q => t σ H Q ∨ t' σ H Q) :=
  ⟨fun pins s σ H Q I q => q.elim (h.run pins s σ H Q I) (h'.run pins s σ H Q I)⟩
theorem _root_.L2.PT.imp {e : Expr} {t t' : TT} (h : PT X e t) (i : ∀ σ H Q, t' σ H Q → t σ H Q) : PT X e t' := ⟨fun pins s σ H Q I q => h.run pins s σ H Q I (i σ H Q q)⟩
theorem _root_.L2.PS.imp {e : Stmt} {t t' : TS} (h : PS X e t) (i : ∀ D σ H, t' D σ H → t D σ H) : PS X e t' := ⟨fun pins s σ H D I q => h.run pins s σ H D I (i D σ H q)⟩
theorem _root_.L2.PSs.imp {e : List Stmt} {t t' : TS} (h : PSs X e t) (i : ∀ D σ H, t' D σ H → t D σ H) : PSs X e t' := ⟨fun pins s σ H D I q => h.run pins s σ H D I (i D σ H q)⟩
theorem _root_.L2.PA.imp {e : List Expr} {t t' : TA} (h : PA X e t) (i : ∀ σ H Q, t' σ H Q → t σ H Q) : PA X e t' := ⟨fun pos pins s σ H Q I q => h.run pos pins s σ H Q I (i σ H Q q)⟩
theorem Post.ext {Q : VK} {E : XK} {r : R D} (e : Ext W H W' H') (h : Post N W H Q E r) : Post N W' H' Q E r := by
  cases r with
  | ok d st => exact fun W2 v H2 e2 hr rp => h W2 v H2 (e.trans e2) hr rp
  | exc x st => exact fun W2 c dd H2 e2 hr rp => h W2 c dd H2 (e.trans e2) hr rp
  | bad => exact h
theorem Post.mono {Q Q' : VK} {E E' : XK} {r : R D} (h : Post N W H Q E r) (hq : ∀ v H', Q v H' → Q' v H') (he : ∀ c d H', E c d H' → E' c d H') : Post N W H Q' E' r := by
  cases r with
  | ok d st => exact fun W2 v H2 e2 hr rp => hq _ _ (h W2 v H2 e2 hr rp)
  | exc x st => exact fun W2 c dd H2 e2 hr rp => he _ _ _ (h W2 c dd H2 e2 hr rp)
  | bad => exact h
/-- a part is reckoned, then the rest -/
theorem rd_bind {m : M} {f : D → Sto → R D} {Q Q2 : VK} (hr : HR N.K W H st) (hs : SR N.K W sh sl)
    (h : Post N W H Q (fun cls dd H' => Wx cls dd sh H') ((m sl st).bind f))
    (k : ∀ d st1 W1 v H1, m sl st = .ok d st1 → Ext W H W1 H1 → HR N.K W1 H1 st1 → SR N.K W1 sh sl → rep N.K W1 v d → Post N W1 H1 Q (fun cls dd H' => Wx cls dd sh H') (f d st1) → Q2 v H1) : rd N Wx m sh H Q2 := by
  refine ⟨W, sl, st, hr, hs, ?_⟩
  cases e : m sl st with
  | ok d st1 => rw [e] at h; exact fun W1 v H1 e1 h1 r1 => k d st1 W1 v H1 e e1 h1 (hs.ext e1) r1 (Post.ext e1 h)
  | exc x st1 => rw [e] at h; exact h
  | bad => rw [e] at h; exact h
end
end Pv
set_option Elab.async false
set_option linter.all false
set_option maxRecDepth 100000
set_option maxHeartbeats 4000000
namespace Pv
open PySem PySem.Spec L2
open PyProof.Rows hiding St
def deref (st : Sto) (d : D) : D :=
  match d with
  | .dict [(.int r, .none)] => (match st[r.toNat]? with | some (.lst ds) => .list ds | _ => d)
  | .dict [(.none, .tuple ds)] => .tuple ds
  | _ => d
@[simp] theorem deref_gc (st : Sto) (ds : List D) : deref st (Gc ds) = .tuple ds := rfl
@[simp] theorem deref_gs (st : Sto) (ds : List D) : deref st (Gs ds) = Gs ds := rfl
@[simp] theorem deref_none (st : Sto) : deref st .none = .none := rfl
@[simp] theorem deref_bool (st : Sto) (b : Bool) : deref st (.bool b) = .bool b := rfl
@[simp] theorem deref_int (st : Sto) (i : Int) : deref st (.int i) = .int i := rfl
@[simp] theorem deref_str (st : Sto) (x : Str) : deref st (.str x) = .str x := rfl
@[simp] theorem deref_list (st : Sto) (ds : List D) : deref st (.list ds) = .list ds := rfl
@[simp] theorem deref_tuple (st : Sto) (ds : List D) : deref st (.tuple ds) = .tuple ds := rfl
theorem deref_ref (st : Sto) (r : Nat) : deref st (Rf r) = (match st[r]? with | some (.lst ds) => .list ds | _ => Rf r) := by
  show (match st[(r : Int).toNat]? with | some (.lst ds) => PyData.list ds | _ => Rf r) = _
  rw [Int.toNat_natCast]
section
variable {K : PySem.W.Frag} {W W' : Wd} {H H' : Hp} {st st' : Sto} {v : V} {vs us : List V} {d : D} {ds es : List D} {a : Addr}
theorem repL_length : ∀ {vs : List V} {ds : List D}, repL K W vs ds → vs.length = ds.length
  | _, [], h => by cases h; rfl
  | _, d :: ds, ⟨v, us, e, _, l⟩ => by rw [e, List.length_cons, List.length_cons, repL_length l]
theorem repL_get : ∀ {vs : List V} {ds : List D} (i : Nat) {d : D}, repL K W vs ds → ds[i]? = some d → ∃ v, vs[i]? = some v ∧ rep K W v d
  | _, [], i, _, _, e => by simp at e
  | _, d :: ds, 0, _, ⟨v, us, e, r, l⟩, h => by simp at h; subst h; subst e; exact ⟨v, rfl, r⟩
  | _, d :: ds, i + 1, _, ⟨v, us, e, r, l⟩, h => by subst e; simpa using repL_get i l (by simpa using h)
theorem repL_append : ∀ {vs us : List V} {ds es : List D}, repL K W vs ds → repL K W us es → repL K W (vs ++ us) (ds ++ es)
  | _, _, [], _, h, k => by cases h; exact k
  | _, _, d :: ds, _, ⟨v, ws, e, r, l⟩, k => by subst e; exact ⟨v, ws ++ _, rfl, r, repL_append l k⟩
theorem repL_take : ∀ {vs : List V} {ds : List D} (n : Nat), repL K W vs ds → repL K W (vs.take n) (ds.take n)
  | _, _, 0, _ => by simp [repL]
  | _, [], n + 1, h => by cases h; simp [repL]
  | _, d :: ds, n + 1, ⟨v, ws, e, r, l⟩ => by subst e; exact ⟨v, _, rfl, r, repL_take n l⟩
theorem repL_drop : ∀ {vs : List V} {ds : List D} (n : Nat), repL K W vs ds → repL K W (vs.drop n) (ds.drop n)
  | _, _, 0, h => by simpa using h
  | _, [], n + 1, h => by cases h; simp [repL]
  | _, d :: ds, n + 1, ⟨v, ws, e, r, l⟩ => by subst e; simpa using repL_drop n l
theorem repL_one (h : rep K W v d) : repL K W [v] [d] := ⟨v, [], rfl, h, rfl⟩
theorem repL_set : ∀ {vs : List V} {ds : List D} (i : Nat), repL K W vs ds → rep K W v d → repL K W (vs.set i v) (ds.set i d)
  | _, [], i, h, _ => by cases h; simp [repL]
  | _, e :: ds, 0, ⟨w, ws, q, r, l⟩, k => by subst q; exact ⟨v, ws, rfl, k, l⟩
  | _, e :: ds, i + 1, ⟨w, ws, q, r, l⟩, k => by subst q; exact ⟨w, _, rfl, r, repL_set i l k⟩
/-- scalars are what they say -/
theorem rep_int {i : Int} (h : rep K W v (.int i)) : v = .int i := h
theorem rep_of_deref_scalar (hr : HR K W H st) (h : rep K W v d) : (∀ i, deref st d = .int i → v = .int i) ∧ (∀ b, deref st d = .bool b → v = .bl b) ∧ (∀ x, deref st d = .str x → v = .str x) ∧ (deref st d = .none → v = .non) := by
  cases d with
  | none => exact ⟨fun _ e => by simp at e, fun _ e => by simp at e, fun _ e => by simp at e, fun _ => h⟩
  | bool b => exact ⟨fun _ e => by simp at e, fun _ e => by simp at e; subst e; exact h, fun _ e => by simp at e, fun e => by simp at e⟩
  | int i => exact ⟨fun _ e => by simp at e; subst e; exact h, fun _ e => by simp at e, fun _ e => by simp at e, fun e => by simp at e⟩
  | str x => exact ⟨fun _ e => by simp at e, fun _ e => by simp at e, fun _ e => by simp at e; subst e; exact h, fun e => by simp at e⟩
  | list ds => exact ⟨fun _ e => by simp at e, fun _ e => by simp at e, fun _ e => by simp at e, fun e => by simp at e⟩
  | tuple ds => exact ⟨fun _ e => by simp at e, fun _ e => by simp at e, fun _ e => by simp at e, fun e => by simp at e⟩
  | dict kvs =>
    rcases rep_dict h with ⟨r, a, e, _, _⟩ | ⟨ds, a, xs, e, _, _⟩ | ⟨ds, a, xs, e, _, _⟩ | ⟨ae, ade, ce, nse, fse, he⟩
    · subst e
      have q := deref_ref st r
      refine ⟨fun _ e => ?_, fun _ e => ?_, fun _ e => ?_, fun e => ?_⟩ <;> (rw [q] at e; split at e <;> simp at e)
    · subst e
      exact ⟨fun _ e => by simp at e, fun _ e => by simp at e, fun _ e => by simp at e, fun e => by simp at e⟩
    · subst e
      exact ⟨fun _ e => by simp at e, fun _ e => by simp at e, fun _ e => by simp at e, fun e => by simp at e⟩
    · subst he
      exact ⟨fun _ e => (by cases e), fun _ e => (by cases e), fun _ e => (by cases e), fun e => (by cases e)⟩
theorem rep_dint (hr : HR K W H st) (h : rep K W v d) {i : Int} (e : deref st d = .int i) : v = .int i := (rep_of_deref_scalar hr h).1 i e
theorem rep_dbool (hr : HR K W H st) (h : rep K W v d) {i : Bool} (e : deref st d = .bool i) : v = .bl i := (rep_of_deref_scalar hr h).2.1 i e
theorem rep_dstr (hr : HR K W H st) (h : rep K W v d) {i : Str} (e : deref st d = .str i) : v = .str i := (rep_of_deref_scalar hr h).2.2.1 i e
theorem rep_dnone (hr : HR K W H st) (h : rep K W v d) (e : deref st d = .none) : v = .non := (rep_of_deref_scalar hr h).2.2.2 e
theorem rep_dlist (hr : HR K W H st) (h : rep K W v d) (e : deref st d = .list ds) : ∃ a xs, v = .ref a ∧ H a = some (.lst xs) ∧ repL K W xs ds := by
  cases d with
  | list es => simp at e; subst e; obtain ⟨a, xs, q, f, l⟩ := h; exact ⟨a, xs, q, hr.sub _ _ f, l⟩
  | dict kvs =>
    rcases rep_dict h with ⟨r, a, e1, e2, e3⟩ | ⟨ds', a, xs, e1, _, _⟩ | ⟨ds', a, xs, e1, _, _⟩ | ⟨ae, ade, ce, nse, fse, he⟩
    rotate_left
    · subst e1; simp at e
    · subst e1; simp at e
    · subst he; cases e
    subst e1
    rw [deref_ref] at e
    obtain ⟨m, hm, _, ho⟩ := hr.at e3
    rw [hm] at e
    cases m with
    | lst es =>
      simp at e; subst e
      obtain ⟨xs, f, l⟩ := ho
      exact ⟨a, xs, e2, f, l⟩
    | ro es => simp at e
    | dct es => simp at e
    | dctT es => simp at e
    | tb _ _ => simp at e
  | none => simp at e
  | bool b => simp at e
  | int b => simp at e
  | str b => simp at e
  | tuple b => simp at e
theorem rep_dgs (hr : HR K W H st) (h : rep K W v d) (e : deref st d = Gs ds) : ∃ a xs, v = .ref a ∧ SqL K H a xs ∧ repL K W xs ds := by
  cases d with
  | dict kvs =>
    rcases rep_dict h with ⟨r, a, e1, e2, e3⟩ | ⟨ds', a, xs, e1, e2, f, l⟩ | ⟨ds', a, xs, e1, e2, f, l⟩ | ⟨ae, ade, ce, nse, fse, he⟩
    · subst e1
      rw [deref_ref] at e
      split at e <;> simp at e
    · subst e1; simp at e
    · subst e1
      simp at e
      subst e
      exact ⟨a, xs, e2, sqL_mono hr.sub f, l⟩
    · subst he; cases e
  | _ => simp at e
theorem rep_dtuple (hr : HR K W H st) (h : rep K W v d) (e : deref st d = .tuple ds) : ∃ a xs, v = .ref a ∧ SqT K H a xs ∧ repL K W xs ds := by
  cases d with
  | tuple es => simp at e; subst e; obtain ⟨a, xs, q, f, l⟩ := h; exact ⟨a, xs, q, .inl (.inl (hr.sub _ _ f)), l⟩
  | dict kvs =>
    rcases rep_dict h with ⟨r, a, e1, e2, e3⟩ | ⟨ds', a, xs, e1, e2, f, l⟩ | ⟨ds', a, xs, e1, _, _⟩ | ⟨ae, ade, ce, nse, fse, he⟩
    · subst e1
      rw [deref_ref] at e
      split at e <;> simp at e
    · subst e1
      simp at e
      subst e
      exact ⟨a, xs, e2, f.T hr.sub, l⟩
    · subst e1; simp at e
    · subst he; cases e
  | none => simp at e
  | bool b => simp at e
  | int b => simp at e
  | str b => simp at e
  | list b => simp at e
end
abbrev F2 := D → D → Sto → R D
abbrev F1 := D → Sto → R D
def mOp2 (f : F2) (a b : M) : M := fun sl st => (a sl st).bind fun x st => (b sl st).bind fun y st => f x y st
def mOp1 (f : F1) (a : M) : M := fun sl st => (a sl st).bind fun x st => f x st
def Ok2 (N : Nv) (r : R2) (f : F2) : Prop := ∀ W H st x y dx dy Q, HR N.K W H st → rep N.K W x dx → rep N.K W y dy → Post N W H Q (fun _ _ _ => False) (f dx dy st) → r x y H Q
def Ok1 (N : Nv) (r : V → Hp → VK → Prop) (f : F1) : Prop := ∀ W H st x dx Q, HR N.K W H st → rep N.K W x dx → Post N W H Q (fun _ _ _ => False) (f dx st) → r x H Q
section
variable {X : Cx} {Wx : WX} {ea eb e : Expr} {ma mb mc : M} {r : R2} {f : F2} {pos : Pos}
/-- from a reading of two parts, one after another -/
theorem ge_op2 (hx : ∀ x y st ex s2, f x y st ≠ .exc ex s2) (ok : Ok2 (nv X) r f) (h : PE X e (tOp r (rd (nv X) Wx ma) (rd (nv X) Wx mb))) : GE X Wx e (mOp2 f ma mb) := by
  refine h.imp fun sh H Q ⟨W, sl, st, hr, hs, p⟩ => ?_
  refine rd_bind hr hs p fun d1 st1 W1 v1 H1 e1 x1 h1 s1 r1 p1 => ?_
  refine rd_bind h1 s1 p1 fun d2 st2 W2 v2 H2 e2 x2 h2 s2 r2 p2 => ?_
  refine ok W2 H2 st2 v1 v2 d1 d2 Q h2 (x2.rep r1) r2 ?_
  cases q : f d1 d2 st2 with
  | ok d st3 => rw [q] at p2; exact p2
  | bad => rw [q] at p2; exact p2
  | exc ex s3 => exact absurd q (hx _ _ _ _ _)
theorem ge_op1 {r : V → Hp → VK → Prop} {f : F1} (hx : ∀ x st ex s2, f x st ≠ .exc ex s2) (ok : Ok1 (nv X) r f) (h : PE X e (fun σ H Q => rd (nv X) Wx ma σ H fun x H1 => r x H1 Q)) : GE X Wx e (mOp1 f ma) := by
  refine h.imp fun sh H Q ⟨W, sl, st, hr, hs, p⟩ => ?_
  refine rd_bind hr hs p fun d1 st1 W1 v1 H1 e1 x1 h1 s1 r1 p1 => ?_
  refine ok W1 H1 st1 v1 d1 Q h1 r1 ?_
  cases q : f d1 st1 with
  | ok d st3 => rw [q] at p1; exact p1
  | bad => rw [q] at p1; exact p1
  | exc ex s3 => exact absurd q (hx _ _ _ _)
theorem Ok2.or {N : Nv} {r r' : R2} (h : ∀ W H st x y dx dy Q, HR N.K W H st → rep N.K W x dx → rep N.K W y dy → Post N W H Q (fun _ _ _ => False) (f dx dy st) → r x y H Q ∨ r' x y H Q) : Ok2 N (fun x y H Q => r x y H Q ∨ r' x y H Q) f := h
/-- a scalar result, the store as it is -/
theorem Post.val {N : Nv} {W : Wd} {H : Hp} {st : Sto} {Q : VK} {E : XK} {d : D} {v : V} (hr : HR N.K W H st) (p : Post N W H Q E (.ok d st)) (h : rep N.K W v d) : Q v H := p W v H .refl hr h
/-- a new tuple, a new list -/
theorem Post.tup {N : Nv} {W : Wd} {H : Hp} {st : Sto} {Q : VK} {E : XK} {xs : List V} {ds : List D} (hr : HR N.K W H st) (p : Post N W H Q E (.ok (.tuple ds) st)) (h : repL N.K W xs ds) : ∀ a, H a = none → Q (.ref a) (upd H a (.tup xs)) := fun a ha => by
  obtain ⟨h1, h2⟩ := hr.new (o := .tup xs) ha
  exact p _ _ _ h2 h1 ⟨a, xs, rfl, upd_same, h2.repL h⟩
theorem Post.lst {N : Nv} {W : Wd} {H : Hp} {st : Sto} {Q : VK} {E : XK} {xs : List V} {ds : List D} (hr : HR N.K W H st) (p : Post N W H Q E (.ok (.list ds) st)) (h : repL N.K W xs ds) : ∀ a, H a = none → Q (.ref a) (upd H a (.lst xs)) := fun a ha => by
  obtain ⟨h1, h2⟩ := hr.new (o := .lst xs) ha
  exact p _ _ _ h2 h1 ⟨a, xs, rfl, upd_same, h2.repL h⟩
end
def mVar (i : Nat) : M := fun sl st => match sl[i]? with | some (some d) => .ok d st | _ => .bad
def mC (d : D) : M := fun _ st => .ok d st
section
variable {X : Cx} {Wx : WX} {pos : Pos}
theorem ge_var (i : Nat) {x : Str} (hN : X.N[i]? = some x := by rfl) (hv : Vis X.env.scope x := by first | exact Or.inl rfl | exact Or.inr (Or.inl rfl) | exact Or.inr (Or.inr rfl)) (hd : (x == ("__debug__" : Str)) = false := by decide +kernel)
    (hcd : (x == ("__classdict__" : Str)) = false := by decide +kernel) : GE X Wx (.Name x pos) (mVar i) := by
  refine (pe_var hN hv hd hcd).imp fun sh H Q ⟨W, sl, st, hr, hs, p⟩ => ?_
  unfold mVar at p
  split at p
  · rename_i d e
    obtain ⟨v, e1, r1⟩ := hs.at_ i d e
    exact ⟨v, e1, p.val hr r1⟩
  · exact p.elim
theorem ge_c {e : Expr} {v : V} {d : D} (h : PE X e (tC v)) (r : ∀ W, rep X.K W v d) : GE X Wx e (mC d) := h.imp fun _ _ _ ⟨W, _, _, hr, _, p⟩ => p.val hr (r W)
theorem ge_int {i : Int} {j} : GE X Wx (.Constant (.int i) j pos) (mC (.int i)) := ge_c pe_int fun _ => rfl
theorem ge_bool {b : Bool} {j} : GE X Wx (.Constant (.bool b) j pos) (mC (.bool b)) := ge_c pe_bl fun _ => rfl
theorem ge_none {j} : GE X Wx (.Constant .none j pos) (mC .none) := ge_c pe_non fun _ => rfl
theorem ge_str {x : Str} {j} : GE X Wx (.Constant (.str x) j pos) (mC (.str x)) := ge_c pe_str fun _ => rfl
end
def dAdd : D → D → Option D
  | .int i, .int j => some (.int (i + j))
  | .int i, .bool k => some (.int (i + b2i k))
  | .bool k, .int j => some (.int (b2i k + j))
  | .bool k, .bool l => some (.int (b2i k + b2i l))
  | .str a, .str b => if a.length + b.length ≤ sizeLine then some (.str (a ++ b)) else none
  | .list a, .list b => if a.length + b.length ≤ sizeLine then some (.list (a ++ b)) else none
  | _, _ => none
def dAddT (a b : List D) : Option D := if a.length + b.length ≤ sizeLine then some (.tuple (a ++ b)) else none
def onD2 (g : D → D → Option D) : F2 := fun x y st => lift (g (deref st x) (deref st y)) st
def onD1 (g : D → Option D) : F1 := fun x st => lift (g (deref st x)) st
theorem onD2_nx {g : D → D → Option D} (x y : D) (st : Sto) (ex : XV) (s2 : Sto) : onD2 g x y st ≠ .exc ex s2 := by
  unfold onD2 lift; split <;> simp
theorem onD1_nx {g : D → Option D} (x : D) (st : Sto) (ex : XV) (s2 : Sto) : onD1 g x st ≠ .exc ex s2 := by
  unfold onD1 lift; split <;> simp
/-- what onD2 asks, by the operation's own cases -/
theorem onD2_post {N : Nv} {W : Wd} {H : Hp} {Q : VK} {E : XK} {g : D → D → Option D} {x y : D} {st : Sto} (p : Post N W H Q E (onD2 g x y st)) : ∃ d, g (deref st x) (deref st y) = some d ∧ Post N W H Q E (.ok d st) := by
  unfold onD2 lift at p
  split at p
  · rename_i d e; exact ⟨d, e, p⟩
  · exact p.elim
theorem onD1_post {N : Nv} {W : Wd} {H : Hp} {Q : VK} {E : XK} {g : D → Option D} {x : D} {st : Sto} (p : Post N W H Q E (onD1 g x st)) : ∃ d, g (deref st x) = some d ∧ Post N W H Q E (.ok d st) := by
  unfold onD1 lift at p
  split at p
  · rename_i d e; exact ⟨d, e, p⟩
  · exact p.elim
def fAdd : F2 := fun x y st =>
  match x, y with
  | .tuple a, .tuple b => lift (dAddT a b) st
  | .dict [(.none, .tuple a)], .dict [(.none, .tuple b)] => if a.length + b.length ≤ sizeLine then .ok (Gc (a ++ b)) st else .bad
  | _, _ => onD2 dAdd x y st
theorem fAdd_nx (x y : D) (st : Sto) (ex : XV) (s2 : Sto) : fAdd x y st ≠ .exc ex s2 := by
  unfold fAdd
  split
  · unfold lift; split <;> simp
  · split <;> simp
  · exact onD2_nx _ _ _ _ _
def mAdd : M → M → M := mOp2 fAdd
section
variable {X : Cx} {Wx : WX} {ea eb e : Expr} {ma mb mc : M} {pos : Pos}
theorem op_add_bi : OpR X (binaryOp .Add) (fun x y H Q => ∃ k j, x = .bl k ∧ y = .int j ∧ Q (.int (b2i k + j)) H) := by
  intro pins s sh H x y v u Q I rx ry ⟨k, j, ex, ey, q⟩
  subst ex ey
  cases rx
  obtain ⟨t, rfl⟩ := ry
  exact PySem.IntBool.add_bool_int ⟨.int (b2i k + j), H, I.tok _, ⟨_, rfl⟩, q⟩
theorem op_add_bb : OpR X (binaryOp .Add) (fun x y H Q => ∃ k l, x = .bl k ∧ y = .bl l ∧ Q (.int (b2i k + b2i l)) H) := by
  intro pins s sh H x y v u Q I rx ry ⟨k, l, ex, ey, q⟩
  subst ex ey
  cases rx
  cases ry
  exact add_bool ⟨.int (b2i k + b2i l), H, I.tok _, ⟨_, rfl⟩, q⟩
def rCatZ (K : PySem.W.Frag) : R2 := fun x y H Q => ∃ a b xs ys, x = .ref a ∧ y = .ref b ∧ SqT K H a xs ∧ SqT K H b ys ∧ xs.length + ys.length ≤ sizeLine ∧ (xs = [] → Q (.ref b) H) ∧ (xs ≠ [] → ys = [] → Q (.ref a) H) ∧
  (xs ≠ [] → ys ≠ [] → ∀ p o, H p = none → o.dict = none → Q (.ref p) (upd H p (.frz o (.tup (xs ++ ys)))))
theorem op_catZ : OpR X (binaryOp .Add) (rCatZ X.K) := by
  intro pins s σ H x y v u Q I rx ry h
  obtain ⟨a, b, xs, ys, rfl, rfl, ha, hb, hz, q0, q1, q2⟩ := h
  cases rx
  cases ry
  obtain ⟨its, r1, p1, _⟩ := I.tuple ha
  obtain ⟨its2, r2, p2, _⟩ := I.tuple hb
  by_cases hx : xs = []
  · subst hx
    cases r1
    exact cat_tup0 p1 p2 ⟨.ref b, H, I, rfl, q0 rfl⟩
  · refine HT.cat_tup p1 p2 (fun z => hx (r1.nil_iff.mp z)) (fun z => ⟨.ref a, H, I, rfl, q1 hx (r2.nil_iff.mp z)⟩) (fun z => ?_) (by rw [← r1.length, ← r2.length]; exact hz)
    refine ⟨.ref s.heap.objs.size, _, I.laid (t' := s.toks) (o := .frz { cls := .type "tuple", data := .seq (its ++ its2).toArray } (.tup (xs ++ ys))) (fun b ob q => Heap.get?_push_of_some _ q) (Nat.le_refl _) ?_, rfl, q2 hx (fun w => z (r2.nil_iff.mpr w)) _ _ (I.hok.fresh (Nat.le_refl _)) rfl⟩
    exact ⟨Heap.get?_push_size _ rfl, by rw [List.length_append]; exact hz, _, r1.append r2, IsTup.new _ _⟩
theorem ge_add (ha : GE X Wx ea ma) (hb : GE X Wx eb mb) : GE X Wx (.BinOp ea .Add eb pos) (mAdd ma mb) := by
  refine ge_op2 fAdd_nx ?_ (pe_op (((((op_add.or op_add_str).or op_cat).or op_catA).or ((op_add_ib.or op_add_bi).or op_add_bb)).or op_catZ) ha hb)
  intro W H st x y dx dy Q hr rx ry p0
  unfold fAdd at p0
  split at p0
  · rename_i a b
    unfold dAddT lift at p0
    split at p0
    · rename_i d e
      split at e
      · rename_i hl
        cases e
        obtain ⟨a1, xs, e1, h1, l1⟩ := rx
        obtain ⟨a2, ys, e2, h2, l2⟩ := ry
        subst e1; subst e2
        refine .inl (.inl (.inr ⟨a1, a2, xs, ys, rfl, rfl, .inl (.inl (hr.sub _ _ h1)), .inl (.inl (hr.sub _ _ h2)), by rw [repL_length l1, repL_length l2]; exact hl, fun z => ?_, fun _ z => ?_, fun _ _ => p0.tup hr (repL_append l1 l2)⟩))
        · have : a = [] := by cases a with | nil => rfl | cons q qs => obtain ⟨_, _, w, _, _⟩ := l1; rw [z] at w; cases w
          subst this
          rw [List.nil_append] at p0
          exact p0.val hr ⟨a2, ys, rfl, h2, l2⟩
        · have : b = [] := by cases b with | nil => rfl | cons q qs => obtain ⟨_, _, w, _, _⟩ := l2; rw [z] at w; cases w
          subst this
          rw [List.append_nil] at p0
          exact p0.val hr ⟨a1, xs, rfl, h1, l1⟩
      · cases e
    · exact p0.elim
  · rename_i a b
    split at p0
    · rename_i hz
      obtain ⟨c, xs, e1, z1, l1⟩ := rx
      obtain ⟨d, ys, e2, z2, l2⟩ := ry
      refine .inr ⟨c, d, xs, ys, e1, e2, z1.T hr.sub, z2.T hr.sub, by rw [repL_length l1, repL_length l2]; exact hz, fun hx => ?_, fun _ hy => ?_, fun _ _ p o hp ho => ?_⟩
      · subst hx
        have : a = [] := by have := repL_length l1; simpa using this.symm
        subst this
        rw [List.nil_append] at p0
        exact p0.val hr ⟨d, ys, rfl, z2, l2⟩
      · subst hy
        have : b = [] := by have := repL_length l2; simpa using this.symm
        subst this
        rw [List.append_nil] at p0
        exact p0.val hr ⟨c, xs, rfl, z1, l1⟩
      · obtain ⟨h2, x2⟩ := hr.new (o := .frz o (.tup (xs ++ ys))) hp
        exact p0 _ (.ref p) _ x2 h2 ⟨p, xs ++ ys, rfl, .inr ⟨o, upd_same, ho⟩, x2.repL (repL_append l1 l2)⟩
    · exact p0.elim
  · obtain ⟨d, e, p⟩ := onD2_post p0
    clear p0
    cases hx : deref st dx with
    | int i =>
      cases hy : deref st dy with
      | int j => rw [hx, hy] at e; cases e; rw [rep_dint hr rx hx, rep_dint hr ry hy]; exact .inl (.inl (.inl (.inl (.inl ⟨i, j, rfl, rfl, p.val hr rfl⟩))))
      | bool k => rw [hx, hy] at e; cases e; rw [rep_dint hr rx hx, rep_dbool hr ry hy]; exact .inl (.inr (.inl (.inl ⟨i, k, rfl, rfl, p.val hr rfl⟩)))
      | _ => rw [hx, hy] at e; cases e
    | bool k =>
      cases hy : deref st dy with
      | int j => rw [hx, hy] at e; cases e; rw [rep_dbool hr rx hx, rep_dint hr ry hy]; exact .inl (.inr (.inl (.inr ⟨k, j, rfl, rfl, p.val hr rfl⟩)))
      | bool l => rw [hx, hy] at e; cases e; rw [rep_dbool hr rx hx, rep_dbool hr ry hy]; exact .inl (.inr (.inr ⟨k, l, rfl, rfl, p.val hr rfl⟩))
      | _ => rw [hx, hy] at e; cases e
    | str a =>
      cases hy : deref st dy with
      | str b =>
        rw [hx, hy] at e
        simp only [dAdd] at e
        split at e
        · rename_i hl
          cases e; rw [rep_dstr hr rx hx, rep_dstr hr ry hy]; exact .inl (.inl (.inl (.inl (.inr ⟨a, b, rfl, rfl, hl, p.val hr rfl⟩))))
        · cases e
      | _ => rw [hx, hy] at e; cases e
    | list a =>
      cases hy : deref st dy with
      | list b =>
        rw [hx, hy] at e
        simp only [dAdd] at e
        split at e
        · rename_i hl
          cases e
          obtain ⟨a1, xs, e1, h1, l1⟩ := rep_dlist hr rx hx
          obtain ⟨a2, ys, e2, h2, l2⟩ := rep_dlist hr ry hy
          exact .inl (.inl (.inl (.inr ⟨a1, a2, xs, ys, e1, e2, h1, h2, by rw [repL_length l1, repL_length l2]; exact hl, p.lst hr (repL_append l1 l2)⟩)))
        · cases e
      | _ => rw [hx, hy] at e; cases e
    | _ => rw [hx] at e; cases e
/-- an operation of two ints -/
def dInt2 (c : Int → Int → Bool) (g : Int → Int → D) : D → D → Option D
  | .int i, .int j => if c i j then some (g i j) else none
  | _, _ => none
theorem dInt2_inv {c : Int → Int → Bool} {g : Int → Int → D} {x y d : D} (h : dInt2 c g x y = some d) : ∃ i j, x = .int i ∧ y = .int j ∧ c i j = true ∧ d = g i j := by
  unfold dInt2 at h
  split at h
  · rename_i i j
    split at h
    · rename_i hc; exact ⟨i, j, rfl, rfl, hc, (Option.some.inj h).symm⟩
    · cases h
  · cases h
theorem ok_int2 {N : Nv} {C : Int → Int → Prop} {gv : Int → Int → V} {c : Int → Int → Bool} {g : Int → Int → D} (hc : ∀ i j, c i j = true → C i j) (hg : ∀ i j W, rep N.K W (gv i j) (g i j)) : Ok2 N (rI C gv) (onD2 (dInt2 c g)) := by
  intro W H st x y dx dy Q hr rx ry p
  obtain ⟨d, e, p⟩ := onD2_post p
  obtain ⟨i, j, e1, e2, e3, e4⟩ := dInt2_inv e
  subst e4
  exact ⟨i, j, rep_dint hr rx e1, rep_dint hr ry e2, hc i j e3, p.val hr (hg i j W)⟩
theorem ok_int20 {N : Nv} {gv : Int → Int → V} {g : Int → Int → D} (hg : ∀ i j W, rep N.K W (gv i j) (g i j)) : Ok2 N (rI0 gv) (onD2 (dInt2 (fun _ _ => true) g)) := by
  intro W H st x y dx dy Q hr rx ry p
  obtain ⟨d, e, p⟩ := onD2_post p
  obtain ⟨i, j, e1, e2, e3, e4⟩ := dInt2_inv e
  subst e4
  exact ⟨i, j, rep_dint hr rx e1, rep_dint hr ry e2, p.val hr (hg i j W)⟩
def mSub : M → M → M := mOp2 (onD2 (dInt2 (fun _ _ => true) fun i j => .int (i - j)))
theorem ge_sub (ha : GE X Wx ea ma) (hb : GE X Wx eb mb) : GE X Wx (.BinOp ea .Sub eb pos) (mSub ma mb) :=
  ge_op2 onD2_nx (ok_int20 fun _ _ _ => rfl) (pe_op op_sub ha hb)
def mMod : M → M → M := mOp2 (onD2 (dInt2 (fun _ j => decide (0 < j)) fun i j => .int (i % j)))
theorem ge_mod (ha : GE X Wx ea ma) (hb : GE X Wx eb mb) : GE X Wx (.BinOp ea .Mod eb pos) (mMod ma mb) :=
  ge_op2 onD2_nx (ok_int2 (fun _ _ h => of_decide_eq_true h) fun _ _ _ => rfl) (pe_op op_mod ha hb)
def mFdiv : M → M → M := mOp2 (onD2 (dInt2 (fun _ j => decide (0 < j ∧ j < 1073741824)) fun i j => .int (i / j)))
theorem ge_fdiv (ha : GE X Wx ea ma) (hb : GE X Wx eb mb) : GE X Wx (.BinOp ea .FloorDiv eb pos) (mFdiv ma mb) :=
  ge_op2 onD2_nx (ok_int2 (fun _ _ h => of_decide_eq_true h) fun _ _ _ => rfl) (pe_op op_fdiv ha hb)
def mPow : M → M → M := mOp2 (onD2 (dInt2 (fun i j => decide (0 ≤ j ∧ j ≤ 1000000 ∧ i.natAbs < 2 ^ 64)) fun i j => .int (i ^ j.toNat)))
theorem ge_pow (ha : GE X Wx ea ma) (hb : GE X Wx eb mb) : GE X Wx (.BinOp ea .Pow eb pos) (mPow ma mb) :=
  ge_op2 onD2_nx (ok_int2 (fun _ _ h => of_decide_eq_true h) fun _ _ _ => rfl) (pe_op op_pow ha hb)
def dNeg : D → Option D
  | .int i => some (.int (-i))
  | _ => none
def mNeg : M → M := mOp1 (onD1 dNeg)
theorem ge_neg (ha : GE X Wx ea ma) : GE X Wx (.UnaryOp .USub ea pos) (mNeg ma) := by
  refine ge_op1 onD1_nx ?_ (pe_un un_neg ha)
  intro W H st x dx Q hr rx p
  obtain ⟨d, e, p⟩ := onD1_post p
  unfold dNeg at e
  split at e
  · rename_i i e1; cases e; exact ⟨i, rep_dint hr rx e1, p.val hr rfl⟩
  · cases e
end
end Pv
set_option Elab.async false
set_option linter.all false
set_option maxRecDepth 100000
set_option maxHeartbeats 4000000
namespace Pv
open PySem PySem.Spec L2
open PyProof.Rows hiding St
section
variable {K : PySem.W.Frag} {W : Wd} {H : Hp} {st : Sto} {v : V} {vs : List V}
mutual
theorem rep_dp (hs : ∀ b o, W.F b = some o → H b = some o) : ∀ {v : V} (d : D), d.canLay0 = true → rep K W v d → Dp K H v d
  | _, .none, _, h => by cases h; exact .non
  | _, .bool b, _, h => by cases h; exact .bl b
  | _, .int i, _, h => by cases h; exact .int i
  | _, .str x, _, h => by cases h; exact .str x
  | _, .list ds, hc, ⟨a, xs, e, f, l⟩ => by subst e; exact .lst (.inl (.inl (hs _ _ f))) (repL_dp hs ds (by simpa [PyData.canLay0] using hc) l)
  | _, .tuple ds, hc, ⟨a, xs, e, f, l⟩ => by subst e; exact .tup (.inl (.inl (hs _ _ f))) (repL_dp hs ds (by simpa [PyData.canLay0] using hc) l)
  | _, .dict _, hc, _ => by simp [PyData.canLay0] at hc
theorem repL_dp (hs : ∀ b o, W.F b = some o → H b = some o) : ∀ {vs : List V} (ds : List D), PyData.canLayAll0 ds = true → repL K W vs ds → DpAll K H vs ds
  | _, [], _, h => by cases h; exact .nil
  | _, d :: ds, hc, ⟨v, us, e, r, l⟩ => by
    simp only [PyData.canLayAll0, Bool.and_eq_true] at hc
    subst e; exact .cons (rep_dp hs d hc.1 r) (repL_dp hs ds hc.2 l)
end
theorem rep_dpR (hr : HR K W H st) {d e : D} (h : rep K W v d) (q : deref st d = e) (hc : e.canLay0 = true) : Dp K H v e := by
  cases d with
  | dict kvs =>
    cases e with
    | list ds =>
      obtain ⟨a, xs, e1, e2, l⟩ := rep_dlist hr h q
      subst e1
      exact .lst (.inl (.inl e2)) (repL_dp hr.sub ds (by simpa [PyData.canLay0] using hc) l)
    | tuple ds =>
      obtain ⟨a, xs, e1, e2, l⟩ := rep_dtuple hr h q
      subst e1
      exact .tup e2 (repL_dp hr.sub ds (by simpa [PyData.canLay0] using hc) l)
    | none => rw [rep_dnone hr h q]; exact .non
    | bool b => rw [rep_dbool hr h q]; exact .bl b
    | int b => rw [rep_dint hr h q]; exact .int b
    | str b => rw [rep_dstr hr h q]; exact .str b
    | dict _ => simp [PyData.canLay0] at hc
  | none => subst q; exact rep_dp hr.sub _ hc h
  | bool b => subst q; exact rep_dp hr.sub _ hc h
  | int b => subst q; exact rep_dp hr.sub _ hc h
  | str b => subst q; exact rep_dp hr.sub _ hc h
  | list b => subst q; exact rep_dp hr.sub _ hc h
  | tuple b => subst q; exact rep_dp hr.sub _ hc h
end
mutual
def cmpD : D → D → Ordering
  | .int i, .int j => if i < j then .lt else if i = j then .eq else .gt
  | .str x, .str y => if x.cps.toList < y.cps.toList then .lt else if x = y then .eq else .gt
  | .tuple xs, .tuple ys => cmpDs xs ys
  | _, _ => .eq
def cmpDs : List D → List D → Ordering
  | [], [] => .eq
  | [], _ :: _ => .lt
  | _ :: _, [] => .gt
  | x :: xs, y :: ys => match cmpD x y with | .eq => cmpDs xs ys | o => o
end
mutual
/-- data that can be set in order: ints, texts, tuples of such, place by place of one kind -/
def ordD : D → D → Bool
  | .int _, .int _ => true
  | .str _, .str _ => true
  | .tuple xs, .tuple ys => ordDs xs ys
  | _, _ => false
def ordDs : List D → List D → Bool
  | [], _ => true
  | _, [] => true
  | x :: xs, y :: ys => ordD x y && ordDs xs ys
end
def cmpR (op : CmpOp) (o : Ordering) : Bool :=
  match op with
  | .Lt => o == .lt
  | .LtE => o != .gt
  | .Gt => o == .gt
  | .GtE => o != .lt
  | _ => false
def isOrd : CmpOp → Bool
  | .Lt | .LtE | .Gt | .GtE => true
  | _ => false
theorem str_lt_irrefl (x : Str) : ¬ x.cps.toList < x.cps.toList := List.lt_irrefl _
theorem str_lt_asymm {x y : Str} (h : x.cps.toList < y.cps.toList) : ¬ y.cps.toList < x.cps.toList := List.lt_asymm h
theorem str_total {x y : Str} (h : ¬ x.cps.toList < y.cps.toList) (n : x ≠ y) : y.cps.toList < x.cps.toList := by
  rcases Std.lt_trichotomy x.cps.toList y.cps.toList with q | q | q
  · exact absurd q h
  · exact absurd (by cases x; cases y; simp only at q; congr 1; exact Array.toList_inj.mp q) n
  · exact q
mutual
theorem cmpD_eqv : ∀ (x y : D), ordD x y = true → (cmpD x y = .eq ↔ PyData.eqv x y = true)
  | .int i, y, h => by
    cases y with
    | int j =>
      simp only [cmpD, PyData.eqv]
      by_cases h1 : i < j
      · simp [h1]; omega
      · by_cases h2 : i = j
        · simp [h2]
        · simp [h1, h2]
    | _ => simp [ordD] at h
  | .str x, y, h => by
    cases y with
    | str y =>
      simp only [cmpD, PyData.eqv]
      by_cases h1 : x.cps.toList < y.cps.toList
      · simp only [h1, if_true]
        constructor
        · intro q; cases q
        · intro q
          have : x = y := by simpa using q
          subst this
          exact absurd h1 (str_lt_irrefl _)
      · by_cases h2 : x = y
        · subst h2; simp [h1]
        · simp [h1, h2]
    | _ => simp [ordD] at h
  | .tuple xs, y, h => by
    cases y with
    | tuple ys =>
      simp only [ordD] at h
      simp only [cmpD, PyData.eqv]
      exact cmpDs_eqv xs ys h
    | _ => simp [ordD] at h
  | .none, _, h => by simp [ordD] at h
  | .bool _, _, h => by simp [ordD] at h
  | .list _, _, h => by simp [ordD] at h
  | .dict _, _, h => by simp [ordD] at h
theorem cmpDs_eqv : ∀ (xs ys : List D), ordDs xs ys = true → (cmpDs xs ys = .eq ↔ PyData.eqvAll xs ys = true)
  | [], [], _ => by simp [cmpDs, PyData.eqvAll]
  | [], _ :: _, _ => by simp [cmpDs, PyData.eqvAll]
  | _ :: _, [], _ => by simp [cmpDs, PyData.eqvAll]
  | x :: xs, y :: ys, h => by
    simp only [ordDs, Bool.and_eq_true] at h
    have h1 := cmpD_eqv x y h.1
    have h2 := cmpDs_eqv xs ys h.2
    simp only [cmpDs, PyData.eqvAll, Bool.and_eq_true]
    cases e : cmpD x y with
    | eq => rw [e] at h1; simp only [true_iff] at h1; simp [h1, h2]
    | lt =>
      rw [e] at h1
      have h1' : ¬ PyData.eqv x y = true := fun q => by have := h1.mpr q; cases this
      constructor
      · intro q; cases q
      · intro q; exact absurd q.1 h1'
    | gt =>
      rw [e] at h1
      have h1' : ¬ PyData.eqv x y = true := fun q => by have := h1.mpr q; cases this
      constructor
      · intro q; cases q
      · intro q; exact absurd q.1 h1'
end
/-- the tuple's loop is the order of lists -/
theorem lexAt_cmp (op : CmpOp) (hop : isOrd op = true) : ∀ (xs ys : List D) (e r : Nat → Bool) (i : Nat), ordDs xs ys = true →
    (∀ j x y, xs[j]? = some x → ys[j]? = some y → e (i + j) = PyData.eqv x y ∧ r (i + j) = cmpR op (cmpD x y)) →
    Ob.lexAt e r (cmpR op (compare xs.length ys.length)) i (min xs.length ys.length) = cmpR op (cmpDs xs ys)
  | [], [], e, r, i, _, _ => by
    simp [Ob.lexAt, cmpDs]
  | [], y :: ys, e, r, i, _, _ => by
    have : compare (0 : Nat) (ys.length + 1) = .lt := Nat.compare_eq_lt.mpr (Nat.succ_pos _)
    simp [Ob.lexAt, cmpDs, this]
  | x :: xs, [], e, r, i, _, _ => by
    have : compare (xs.length + 1) (0 : Nat) = .gt := Nat.compare_eq_gt.mpr (Nat.succ_pos _)
    simp [Ob.lexAt, cmpDs, this]
  | x :: xs, y :: ys, e, r, i, h, q => by
    simp only [ordDs, Bool.and_eq_true] at h
    have h0 := q 0 x y rfl rfl
    have hc := cmpD_eqv x y h.1
    have ih := lexAt_cmp op hop xs ys e r (i + 1) h.2 fun j a b h1 h2 => by
      have := q (j + 1) a b (by simpa using h1) (by simpa using h2)
      rw [show i + 1 + j = i + (j + 1) by omega]; exact this
    have hm : min (x :: xs).length (y :: ys).length = min xs.length ys.length + 1 := by simp only [List.length_cons]; omega
    have hcp : compare (x :: xs).length (y :: ys).length = compare xs.length ys.length := by
      simp only [List.length_cons]
      rcases Nat.lt_trichotomy xs.length ys.length with g | g | g
      · rw [Nat.compare_eq_lt.mpr g, Nat.compare_eq_lt.mpr (by omega)]
      · rw [Nat.compare_eq_eq.mpr g, Nat.compare_eq_eq.mpr (by omega)]
      · rw [Nat.compare_eq_gt.mpr g, Nat.compare_eq_gt.mpr (by omega)]
    rw [hm, hcp, Ob.lexAt_succ]
    simp only [Nat.add_zero] at h0
    rw [h0.1, h0.2, ih]
    cases e1 : cmpD x y with
    | eq => rw [if_pos (hc.mp e1)]; simp [cmpDs, e1]
    | lt => rw [if_neg (fun z => by have := hc.mpr z; rw [e1] at this; cases this)]; simp [cmpDs, e1]
    | gt => rw [if_neg (fun z => by have := hc.mpr z; rw [e1] at this; cases this)]; simp [cmpDs, e1]
theorem readsAll_at : ∀ {h : Heap} {vs : List Value} {ds : List PyData} {as : List Addr} (i : Nat) {d : PyData}, ReadsAll h vs ds as → ds[i]? = some d → ∃ v bs, vs[i]? = some v ∧ Reads h v d bs
  | _, _, _, _, i, _, .nil, e => by simp at e
  | _, _, _, _, 0, _, .cons r _, e => by simp at e; subst e; exact ⟨_, _, rfl, r⟩
  | _, _, _, _, i + 1, _, .cons _ t, e => by simpa using readsAll_at i t (by simpa using e)
theorem rc_int (op : CmpOp) (hop : isOrd op = true) (i j : Int) (A : Around) (s : Shared) (t u : Tok) : Ob.RcOp op A s (.int i t) (.int j u) (cmpR op (cmpD (.int i) (.int j))) := by
  have e : cmpD (.int i) (.int j) = if i < j then .lt else if i = j then .eq else .gt := by simp only [cmpD]
  rw [e]
  cases op with
  | Lt =>
    have e : cmpR .Lt (if i < j then .lt else if i = j then .eq else .gt) = decide (i < j) := by
      by_cases h1 : i < j
      · simp [h1, cmpR]
      · by_cases h2 : i = j <;> simp [h1, h2, cmpR]
    rw [e]; exact Ob.RcOp.lt_int i j t u
  | LtE =>
    have e : cmpR .LtE (if i < j then .lt else if i = j then .eq else .gt) = decide (i ≤ j) := by
      by_cases h1 : i < j
      · have : i ≤ j := by omega
        simp [h1, cmpR, this]
      · by_cases h2 : i = j
        · simp [h2, cmpR]
        · have : ¬ i ≤ j := by omega
          simp [h1, h2, cmpR, this]
    rw [e]; exact Ob.RcOp.le_int i j t u
  | Gt =>
    have e : cmpR .Gt (if i < j then .lt else if i = j then .eq else .gt) = decide (j < i) := by
      by_cases h1 : i < j
      · have : ¬ j < i := by omega
        simp [h1, cmpR, this]
      · by_cases h2 : i = j
        · simp [h2, cmpR]
        · have : j < i := by omega
          simp [h1, h2, cmpR, this]
    rw [e]; exact Ob.RcOp.gt_int i j t u
  | GtE =>
    have e : cmpR .GtE (if i < j then .lt else if i = j then .eq else .gt) = decide (j ≤ i) := by
      by_cases h1 : i < j
      · have : ¬ j ≤ i := by omega
        simp [h1, cmpR, this]
      · by_cases h2 : i = j
        · simp [h2, cmpR]
        · have : j ≤ i := by omega
          simp [h1, h2, cmpR, this]
    rw [e]; exact Ob.RcOp.ge_int i j t u
  | _ => simp [isOrd] at hop
theorem rc_str (op : CmpOp) (hop : isOrd op = true) (x y : Str) (A : Around) (s : Shared) (t u : Tok) : Ob.RcOp op A s (.str x t) (.str y u) (cmpR op (cmpD (.str x) (.str y))) := by
  have e : cmpD (.str x) (.str y) = if x.cps.toList < y.cps.toList then .lt else if x = y then .eq else .gt := by simp only [cmpD]
  rw [e]
  cases op with
  | Lt =>
    have e : cmpR .Lt (if x.cps.toList < y.cps.toList then .lt else if x = y then .eq else .gt) = decide (x.cps.toList < y.cps.toList) := by
      by_cases h1 : x.cps.toList < y.cps.toList
      · simp [h1, cmpR]
      · by_cases h2 : x = y
        · subst h2; simp [h1, cmpR]
        · simp [h1, h2, cmpR]
    rw [e]; exact fun prog w E Q q => PyProof.Rows.lt_str q
  | LtE =>
    have e : cmpR .LtE (if x.cps.toList < y.cps.toList then .lt else if x = y then .eq else .gt) = !decide (y.cps.toList < x.cps.toList) := by
      by_cases h1 : x.cps.toList < y.cps.toList
      · simp [h1, cmpR, str_lt_asymm h1]
      · by_cases h2 : x = y
        · subst h2; simp [h1, cmpR]
        · simp [h1, h2, cmpR, str_total h1 h2]
    rw [e]; exact fun prog w E Q q => PySem.P.le_str q
  | Gt =>
    have e : cmpR .Gt (if x.cps.toList < y.cps.toList then .lt else if x = y then .eq else .gt) = decide (y.cps.toList < x.cps.toList) := by
      by_cases h1 : x.cps.toList < y.cps.toList
      · simp [h1, cmpR, str_lt_asymm h1]
      · by_cases h2 : x = y
        · subst h2; simp [h1, cmpR]
        · simp [h1, h2, cmpR, str_total h1 h2]
    rw [e]; exact fun prog w E Q q => PySem.P.gt_str q
  | GtE =>
    have e : cmpR .GtE (if x.cps.toList < y.cps.toList then .lt else if x = y then .eq else .gt) = !decide (x.cps.toList < y.cps.toList) := by
      by_cases h1 : x.cps.toList < y.cps.toList
      · simp [h1, cmpR]
      · by_cases h2 : x = y
        · subst h2; simp [h1, cmpR]
        · simp [h1, h2, cmpR]
    rw [e]; exact fun prog w E Q q => PySem.P.ge_str q
  | _ => simp [isOrd] at hop
theorem cmp_len (op : CmpOp) (n m : Nat) : (op = .Lt → cmpR op (compare n m) = decide (n < m)) ∧ (op = .LtE → cmpR op (compare n m) = decide (n ≤ m)) ∧ (op = .Gt → cmpR op (compare n m) = decide (n > m)) ∧ (op = .GtE → cmpR op (compare n m) = decide (n ≥ m)) := by
  rcases Nat.lt_trichotomy n m with g | g | g
  · have a1 : n ≤ m := by omega
    have a2 : ¬ n > m := by omega
    have a3 : ¬ n ≥ m := by omega
    rw [Nat.compare_eq_lt.mpr g]
    refine ⟨fun z => ?_, fun z => ?_, fun z => ?_, fun z => ?_⟩ <;> (subst z; simp [cmpR, g, a1, a2, a3])
  · subst g
    rw [Nat.compare_eq_eq.mpr rfl]
    refine ⟨fun z => ?_, fun z => ?_, fun z => ?_, fun z => ?_⟩ <;> (subst z; simp [cmpR])
  · have a1 : ¬ n ≤ m := by omega
    have a2 : ¬ n < m := by omega
    have a3 : n ≥ m := by omega
    rw [Nat.compare_eq_gt.mpr g]
    refine ⟨fun z => ?_, fun z => ?_, fun z => ?_, fun z => ?_⟩ <;> (subst z; simp [cmpR, g, a1, a2, a3])
theorem rc_tup (op : CmpOp) (hop : isOrd op = true) (xs ys : List D) (A : Around) (s : Shared) (a b : Addr) (vs ws : Array Value) (h : ordDs xs ys = true) (hu : A.units < cLine) (h1 : s.heap.IsTuple a vs) (h2 : s.heap.IsTuple b ws)
    (hl1 : vs.size = xs.length) (hl2 : ws.size = ys.length)
    (items : ∀ j (h1 : j < vs.size) (h2 : j < ws.size), SeqAt.EqAt A.in1 s vs[j] ws[j] (PyData.eqv (xs.getD j .none) (ys.getD j .none)) ∧ Ob.RcOp op A.in1 s vs[j] ws[j] (cmpR op (cmpD (xs.getD j .none) (ys.getD j .none)))) :
    Ob.RcOp op A s (.ref a) (.ref b) (cmpR op (cmpDs xs ys)) := by
  obtain ⟨e, he⟩ : ∃ e : Nat → Bool, ∀ j, e j = PyData.eqv (xs.getD j .none) (ys.getD j .none) := ⟨_, fun _ => rfl⟩
  obtain ⟨r, hr⟩ : ∃ r : Nat → Bool, ∀ j, r j = cmpR op (cmpD (xs.getD j .none) (ys.getD j .none)) := ⟨_, fun _ => rfl⟩
  have eqs : ∀ j (h1 : j < vs.size) (h2 : j < ws.size), SeqAt.EqAt A.in1 s vs[j] ws[j] (e j) := fun j h1 h2 => by rw [he]; exact (items j h1 h2).1
  have rcs : ∀ j (h1 : j < vs.size) (h2 : j < ws.size), e j = false → Ob.RcOp op A.in1 s vs[j] ws[j] (r j) := fun j h1 h2 _ => by rw [hr]; exact (items j h1 h2).2
  have fin := lexAt_cmp op hop xs ys e r 0 h fun j x y e1 e2 => by
    rw [Nat.zero_add, he, hr]
    simp only [List.getD_eq_getElem?_getD, e1, e2, Option.getD_some]
    exact ⟨trivial, trivial⟩
  obtain ⟨c1, c2, c3, c4⟩ := cmp_len op xs.length ys.length
  rw [← fin]
  cases op with
  | Lt => rw [c1 rfl, ← hl1, ← hl2]; exact Ob.RcOp.tuples_lt h1 h2 hu eqs rcs
  | LtE => rw [c2 rfl, ← hl1, ← hl2]; exact Ob.RcOp.tuples_le h1 h2 hu eqs rcs
  | Gt => rw [c3 rfl, ← hl1, ← hl2]; exact Ob.RcOp.tuples_gt h1 h2 hu eqs rcs
  | GtE => rw [c4 rfl, ← hl1, ← hl2]; exact Ob.RcOp.tuples_ge h1 h2 hu eqs rcs
  | _ => simp [isOrd] at hop
theorem depth_at : ∀ {ds : List D} {j : Nat} {d : D}, ds[j]? = some d → d.depth ≤ PyData.depthAll ds
  | [], j, _, e => by simp at e
  | x :: xs, 0, _, e => by simp at e; subst e; simp only [PyData.depthAll]; omega
  | x :: xs, j + 1, _, e => by
    have := depth_at (ds := xs) (j := j) (by simpa using e)
    simp only [PyData.depthAll]; omega
theorem lay_at : ∀ {ds : List D} {j : Nat} {d : D}, PyData.canLayAll0 ds = true → ds[j]? = some d → d.canLay0 = true
  | [], j, _, _, e => by simp at e
  | x :: xs, 0, _, h, e => by simp only [PyData.canLayAll0, Bool.and_eq_true] at h; simp at e; subst e; exact h.1
  | x :: xs, j + 1, _, h, e => by simp only [PyData.canLayAll0, Bool.and_eq_true] at h; exact lay_at h.2 (by simpa using e)
theorem ord_at : ∀ {ds es : List D} {j : Nat} {d e : D}, ordDs ds es = true → ds[j]? = some d → es[j]? = some e → ordD d e = true
  | [], _, j, _, _, _, h, _ => by simp at h
  | _ :: _, [], j, _, _, _, _, h => by simp at h
  | x :: xs, y :: ys, 0, _, _, h, h1, h2 => by simp only [ordDs, Bool.and_eq_true] at h; simp at h1 h2; subst h1; subst h2; exact h.1
  | x :: xs, y :: ys, j + 1, _, _, h, h1, h2 => by simp only [ordDs, Bool.and_eq_true] at h; exact ord_at h.2 (by simpa using h1) (by simpa using h2)
theorem rc_reads (op : CmpOp) (hop : isOrd op = true) : ∀ (n : Nat) (x y : D) (A : Around) (s : Shared) (a b : Value) (as bs : List Addr), x.depth ≤ n → ordD x y = true → x.canLay0 = true → y.canLay0 = true → A.units + min x.depth y.depth < cLine →
    Reads s.heap a x as → Reads s.heap b y bs → Ob.RcOp op A s a b (cmpR op (cmpD x y)) := by
  intro n
  induction n with
  | zero =>
    intro x y A s a b as bs hn h cx cy hu ra rb
    cases ra with
    | int i t =>
      cases rb with
      | int j u => exact rc_int op hop i j A s t u
      | _ => simp [ordD] at h
    | str i t =>
      cases rb with
      | str j u => exact rc_str op hop i j A s t u
      | _ => simp [ordD] at h
    | tuple h1 h2 h3 h4 => simp [PyData.depth] at hn
    | _ => simp [ordD] at h
  | succ n ih =>
    intro x y A s a b as bs hn h cx cy hu ra rb
    cases ra with
    | int i t =>
      cases rb with
      | int j u => exact rc_int op hop i j A s t u
      | _ => simp [ordD] at h
    | str i t =>
      cases rb with
      | str j u => exact rc_str op hop i j A s t u
      | _ => simp [ordD] at h
    | @tuple a o vs n1 xs as h1 h2 h3 h4 =>
      cases rb with
      | @tuple b o2 ws n2 ys bs g1 g2 g3 g4 =>
        simp only [ordD] at h
        simp only [PyData.canLay0] at cx cy
        simp only [PyData.depth] at hu hn
        have hl1 : vs.size = xs.length := by have := SeqAt.ReadsAll.length xs vs.toList _ h4; simpa using this
        have hl2 : ws.size = ys.length := by have := SeqAt.ReadsAll.length ys ws.toList _ g4; simpa using this
        simp only [cmpD]
        refine rc_tup op hop xs ys A s a b vs ws h (by omega) ⟨o, h1, h2, n1, h3⟩ ⟨o2, g1, g2, n2, g3⟩ hl1 hl2 fun j j1 j2 => ?_
        have e1 : xs[j]? = some xs[j] := List.getElem?_eq_getElem (by omega)
        have e2 : ys[j]? = some ys[j] := List.getElem?_eq_getElem (by omega)
        obtain ⟨v, vb, ev, rv⟩ := readsAll_at j h4 e1
        obtain ⟨u, ub, eu, ru⟩ := readsAll_at j g4 e2
        have ev' : vs[j] = v := by simpa [j1] using ev
        have eu' : ws[j] = u := by simpa [j2] using eu
        have d1 := depth_at e1
        have d2 := depth_at e2
        have q1 : xs.getD j .none = xs[j] := by simp [List.getD_eq_getElem?_getD, e1]
        have q2 : ys.getD j .none = ys[j] := by simp [List.getD_eq_getElem?_getD, e2]
        rw [ev', eu', q1, q2]
        have room : A.in1.units + min xs[j].depth ys[j].depth < cLine := by show A.units + 1 + _ < cLine; omega
        exact ⟨SeqAt.eqAt_reads _ _ A.in1 s _ _ _ _ rv ru (lay_at cx e1) (lay_at cy e2) room, ih _ _ A.in1 s _ _ _ _ (by omega) (ord_at h e1 e2) (lay_at cx e1) (lay_at cy e2) room rv ru⟩
      | _ => simp [ordD] at h
    | _ => simp [ordD] at h
end Pv
set_option Elab.async false
set_option linter.all false
set_option maxRecDepth 100000
set_option maxHeartbeats 4000000
namespace Pv
open PySem PySem.Spec L2
open PyProof.Rows hiding St
def layOk (x y : D) : Bool := x.canLay0 && y.canLay0 && decide (min x.depth y.depth ≤ 64)
def dEqB : D → D → Option Bool
  | .str a, .str b => some (a == b)
  | x, y => if layOk x y then some (PyData.eqv x y) else none
def dOrd (op : CmpOp) : D → D → Option Bool
  | .str a, .str b => some (cmpR op (cmpD (.str a) (.str b)))
  | x, y => if layOk x y && ordD x y then some (cmpR op (cmpD x y)) else none
def strIn (a b : Str) : Bool := !(Builtin.Str.occurrences b a 0 b.length 1).isEmpty
def dIn (x y : D) : Option Bool :=
  match y with
  | .list ys => if PyData.canLayAll0 ys && x.canLay0 && decide (min (PyData.depthAll ys) x.depth ≤ 64) then some (ys.any fun z => PyData.eqv z x) else none
  | .tuple ys => if PyData.canLayAll0 ys && x.canLay0 && decide (min (PyData.depthAll ys) x.depth ≤ 64) then some (ys.any fun z => PyData.eqv z x) else none
  | .str b => match x with | .str a => some (strIn a b) | _ => none
  | _ => none
def obD (o : Option Bool) : Option D := o.map .bool
def dCmp (op : CmpOp) (x y : D) : Option D :=
  match op with
  | .Eq => obD (dEqB x y)
  | .NotEq => obD ((dEqB x y).map (!·))
  | .Lt | .LtE | .Gt | .GtE => obD (dOrd op x y)
  | .In => obD (dIn x y)
  | .NotIn => obD ((dIn x y).map (!·))
  | _ => none
/-- two values compared, by their data -/
def rCmpG (K : PySem.W.Frag) (op : CmpOp) : R2 := fun x y H Q => ∃ dx dy b, (Dp K H x dx ∨ ∃ a, dx = .str a ∧ x = .str a) ∧ (Dp K H y dy ∨ ∃ a, dy = .str a ∧ y = .str a) ∧ dCmp op dx dy = some (.bool b) ∧ Q (.bl b) H
theorem layOk_inv {x y : D} (h : layOk x y = true) : x.canLay0 = true ∧ y.canLay0 = true ∧ min x.depth y.depth ≤ 64 := by
  unfold layOk at h
  rw [Bool.and_eq_true, Bool.and_eq_true] at h
  exact ⟨h.1.1, h.1.2, of_decide_eq_true h.2⟩
theorem dEqB_inv {x y : D} {b : Bool} (h : dEqB x y = some b) : (∃ a c, x = .str a ∧ y = .str c ∧ b = (a == c)) ∨ (layOk x y = true ∧ b = PyData.eqv x y) := by
  unfold dEqB at h
  split at h
  · exact .inl ⟨_, _, rfl, rfl, (Option.some.inj h).symm⟩
  · split at h
    · rename_i hl; exact .inr ⟨hl, (Option.some.inj h).symm⟩
    · cases h
theorem dOrd_inv {op : CmpOp} {x y : D} {b : Bool} (h : dOrd op x y = some b) : (∃ a c, x = .str a ∧ y = .str c ∧ b = cmpR op (cmpD x y)) ∨ (layOk x y = true ∧ ordD x y = true ∧ b = cmpR op (cmpD x y)) := by
  unfold dOrd at h
  split at h
  · exact .inl ⟨_, _, rfl, rfl, (Option.some.inj h).symm⟩
  · split at h
    · rename_i hl; rw [Bool.and_eq_true] at hl; exact .inr ⟨hl.1, hl.2, (Option.some.inj h).symm⟩
    · cases h
theorem obD_inv {o : Option Bool} {b : Bool} (h : obD o = some (.bool b)) : o = some b := by
  unfold obD at h
  cases o with
  | none => cases h
  | some c => simp at h; rw [h]
theorem obN_inv {o : Option Bool} {b : Bool} (h : obD (o.map (!·)) = some (.bool b)) : o = some (!b) := by
  have := obD_inv h
  cases o with
  | none => cases this
  | some c => simp at this; subst this; simp
section
variable {X : Cx}
theorem dp_reads' {pins : List (Addr × Obj)} {σ : L2.St} {H : Hp} {s : Shared} (I : Inv X pins σ H s) {d : D} {v : V} {u : Value} (h : Dp X.K H v d ∨ ∃ a, d = .str a ∧ v = .str a) (r : RelV v u) : ∃ as, Reads s.heap u d as := by
  rcases h with h | ⟨a, rfl, rfl⟩
  · exact Dp.reads I d v u h r
  · obtain ⟨t, rfl⟩ := r; exact ⟨_, .str a t⟩
theorem dp_str {H : Hp} {v : V} {a : Str} (h : Dp X.K H v (.str a) ∨ ∃ c, (PyData.str a) = .str c ∧ v = .str c) : v = .str a := by
  rcases h with h | ⟨c, e, rfl⟩
  · cases h; rfl
  · cases e; rfl
theorem op_cmpG (op : CmpOp) (hu : X.A.units + 66 < cLine) : OpR X (compareOp op) (rCmpG X.K op) := by
  intro pins s σ H x y v u Q I rx ry h
  obtain ⟨dx, dy, b, hx, hy, e, q⟩ := h
  obtain ⟨as, r1⟩ := dp_reads' I hx rx
  obtain ⟨bs, r2⟩ := dp_reads' I hy ry
  have fin : EP X pins σ Q (.bool b) s := ⟨.bl b, H, I, rfl, q⟩
  have hst : ∀ {a c : Str}, dx = .str a → dy = .str c → x = .str a ∧ y = .str c ∧ (∃ t, v = .str a t) ∧ (∃ t, u = .str c t) := fun {a c} e1 e2 => by
    subst e1; subst e2
    have h1 := dp_str hx
    have h2 := dp_str hy
    subst h1; subst h2
    exact ⟨rfl, rfl, rx, ry⟩
  have ordc : isOrd op = true → dOrd op dx dy = some b → wpAny (model X.prog X.w) X.A (richCompare op v u) (EP X pins σ Q) X.xe s := fun hop e => by
    rcases dOrd_inv e with ⟨a, c, e1, e2, e3⟩ | ⟨hl, ho, e3⟩
    · obtain ⟨h1, h2, ⟨t, h3⟩, ⟨t', h4⟩⟩ := hst e1 e2
      subst h3; subst h4
      refine rc_str op hop a c X.A s t t' X.prog X.w X.xe _ ?_
      rw [e1, e2] at e3
      rw [← e3]; exact fin
    · obtain ⟨c1, c2, c3⟩ := layOk_inv hl
      refine rc_reads op hop _ dx dy X.A s v u as bs (Nat.le_refl _) ho c1 c2 (by omega) r1 r2 X.prog X.w X.xe _ ?_
      rw [← e3]; exact fin
  have inc : ∀ {b'}, dIn dx dy = some b' → (∀ (Q' : Value → Shared → Prop), Q' (.bool b') s → wpAny (model X.prog X.w) X.A (compareOp .In v u) Q' X.xe s) ∧ (∀ (Q' : Value → Shared → Prop), Q' (.bool (!b')) s → wpAny (model X.prog X.w) X.A (compareOp .NotIn v u) Q' X.xe s) := fun {b'} e => by
    unfold dIn at e
    split at e
    · rename_i ys
      split at e
      · rename_i hc
        rw [Bool.and_eq_true, Bool.and_eq_true] at hc
        have h64 := of_decide_eq_true hc.2
        cases e
        exact ⟨fun Q' q => SeqAt.in_list_reads r2 r1 hc.1.1 hc.1.2 (by omega) q, fun Q' q => SeqAt.notIn_list_reads r2 r1 hc.1.1 hc.1.2 (by omega) q⟩
      · cases e
    · rename_i ys
      split at e
      · rename_i hc
        rw [Bool.and_eq_true, Bool.and_eq_true] at hc
        have h64 := of_decide_eq_true hc.2
        cases e
        exact ⟨fun Q' q => SeqAt.in_tuple_reads r2 r1 hc.1.1 hc.1.2 (by omega) q, fun Q' q => SeqAt.notIn_tuple_reads r2 r1 hc.1.1 hc.1.2 (by omega) q⟩
      · cases e
    · rename_i c
      split at e
      · rename_i a
        obtain ⟨h1, h2, ⟨t, h3⟩, ⟨t', h4⟩⟩ := hst rfl rfl
        subst h3; subst h4
        cases e
        exact ⟨fun Q' q => PyProof.Rows.in_str q, fun Q' q => PyProof.Rows.notIn_str q⟩
      · cases e
    · cases e
  cases op with
  | Eq =>
    rcases dEqB_inv (obD_inv e) with ⟨a, c, e1, e2, e3⟩ | ⟨hl, e3⟩
    · obtain ⟨h1, h2, ⟨t, h3⟩, ⟨t', h4⟩⟩ := hst e1 e2
      subst h3; subst h4
      refine PyProof.Rows.eq_str ?_
      rw [← e3]; exact fin
    · obtain ⟨c1, c2, c3⟩ := layOk_inv hl
      refine SeqAt.compareEq_reads r1 r2 c1 c2 (by omega) ?_
      rw [← e3]; exact fin
  | NotEq =>
    rcases dEqB_inv (obN_inv e) with ⟨a, c, e1, e2, e3⟩ | ⟨hl, e3⟩
    · obtain ⟨h1, h2, ⟨t, h3⟩, ⟨t', h4⟩⟩ := hst e1 e2
      subst h3; subst h4
      refine PyProof.Rows.ne_str ?_
      have : (a != c) = b := by rw [bne, ← e3]; simp
      rw [this]; exact fin
    · obtain ⟨c1, c2, c3⟩ := layOk_inv hl
      refine SeqAt.compareNe_reads r1 r2 c1 c2 (by omega) ?_
      rw [← e3, Bool.not_not]; exact fin
  | Lt => exact ordc rfl (obD_inv e)
  | LtE => exact ordc rfl (obD_inv e)
  | Gt => exact ordc rfl (obD_inv e)
  | GtE => exact ordc rfl (obD_inv e)
  | In => exact (inc (obD_inv e)).1 _ fin
  | NotIn => exact (inc (obN_inv e)).2 _ (by rw [Bool.not_not]; exact fin)
  | Is => simp [dCmp] at e
  | IsNot => simp [dCmp] at e
end
end Pv
set_option Elab.async false
set_option linter.all false
set_option maxRecDepth 100000
set_option maxHeartbeats 4000000
namespace Pv
open PySem PySem.Spec L2
open PyProof.Rows hiding St
/-- what the rules ask of the place where one stands -/
structure Gd0 (X : Cx) : Prop where
  nd : X.N.Nodup
  un : X.A.units + 200 < cLine
  gu : X.A.guards = some []
structure Gd (X : Cx) : Prop where
  calm : X.calm = true
  nd : X.N.Nodup
  un : X.A.units + 200 < cLine
  gu : X.A.guards = some []
theorem Gd.z {X : Cx} (g : Gd X) : Gd0 X := ⟨g.nd, g.un, g.gu⟩
instance {X : Cx} : Coe (Gd X) (Gd0 X) := ⟨Gd.z⟩
section
variable {X : Cx} {Wx : WX} {ea eb ec e : Expr} {ma mb mc : M} {pos : Pos}
theorem dCmp_bool {op : CmpOp} {x y d : D} (h : dCmp op x y = some d) : ∃ b, d = .bool b := by
  have mp : ∀ {o : Option Bool}, obD o = some d → ∃ b, d = .bool b := fun {o} h => by
    cases o with
    | none => cases h
    | some b => cases h; exact ⟨b, rfl⟩
  cases op with
  | Is => cases h
  | IsNot => cases h
  | Eq => exact mp h
  | NotEq => exact mp h
  | Lt => exact mp h
  | LtE => exact mp h
  | Gt => exact mp h
  | GtE => exact mp h
  | In => exact mp h
  | NotIn => exact mp h
/-- what is compared is plain -/
theorem dCmp_lay {op : CmpOp} {x y d : D} (h : dCmp op x y = some d) : (x.canLay0 = true ∨ ∃ a, x = .str a) ∧ (y.canLay0 = true ∨ ∃ a, y = .str a) := by
  have eqc : ∀ {o}, dEqB x y = some o → (x.canLay0 = true ∨ ∃ a, x = .str a) ∧ (y.canLay0 = true ∨ ∃ a, y = .str a) := fun h => by
    rcases dEqB_inv h with ⟨a, c, e1, e2, _⟩ | ⟨hl, _⟩
    · exact ⟨.inr ⟨a, e1⟩, .inr ⟨c, e2⟩⟩
    · exact ⟨.inl (layOk_inv hl).1, .inl (layOk_inv hl).2.1⟩
  have orc : ∀ {op o}, dOrd op x y = some o → (x.canLay0 = true ∨ ∃ a, x = .str a) ∧ (y.canLay0 = true ∨ ∃ a, y = .str a) := fun h => by
    rcases dOrd_inv h with ⟨a, c, e1, e2, _⟩ | ⟨hl, _, _⟩
    · exact ⟨.inr ⟨a, e1⟩, .inr ⟨c, e2⟩⟩
    · exact ⟨.inl (layOk_inv hl).1, .inl (layOk_inv hl).2.1⟩
  have inc : ∀ {o}, dIn x y = some o → (x.canLay0 = true ∨ ∃ a, x = .str a) ∧ (y.canLay0 = true ∨ ∃ a, y = .str a) := fun h => by
    unfold dIn at h
    split at h
    · split at h
      · rename_i hc; rw [Bool.and_eq_true, Bool.and_eq_true] at hc; exact ⟨.inl hc.1.2, .inl (by simpa [PyData.canLay0] using hc.1.1)⟩
      · cases h
    · split at h
      · rename_i hc; rw [Bool.and_eq_true, Bool.and_eq_true] at hc; exact ⟨.inl hc.1.2, .inl (by simpa [PyData.canLay0] using hc.1.1)⟩
      · cases h
    · split at h
      · exact ⟨.inr ⟨_, rfl⟩, .inr ⟨_, rfl⟩⟩
      · cases h
    · cases h
  have mp : ∀ {o : Option Bool} {d}, obD o = some d → ∃ b, o = some b := fun {o d} h => by cases o with | none => cases h | some b => exact ⟨b, rfl⟩
  have mp2 : ∀ {o : Option Bool} {d}, obD (o.map (!·)) = some d → ∃ b, o = some b := fun {o d} h => by cases o with | none => cases h | some b => exact ⟨b, rfl⟩
  cases op with
  | Eq => obtain ⟨b, h⟩ := mp h; exact eqc h
  | NotEq => obtain ⟨b, h⟩ := mp2 h; exact eqc h
  | Lt => obtain ⟨b, h⟩ := mp h; exact orc h
  | LtE => obtain ⟨b, h⟩ := mp h; exact orc h
  | Gt => obtain ⟨b, h⟩ := mp h; exact orc h
  | GtE => obtain ⟨b, h⟩ := mp h; exact orc h
  | In => obtain ⟨b, h⟩ := mp h; exact inc h
  | NotIn => obtain ⟨b, h⟩ := mp2 h; exact inc h
  | Is => cases h
  | IsNot => cases h
theorem ok_cmp {N : Nv} (op : CmpOp) : Ok2 N (rCmpG N.K op) (onD2 (dCmp op)) := by
  intro W H st x y dx dy Q hr rx ry p
  obtain ⟨d, e, p⟩ := onD2_post p
  obtain ⟨b, rfl⟩ := dCmp_bool e
  obtain ⟨l1, l2⟩ := dCmp_lay e
  refine ⟨deref st dx, deref st dy, b, ?_, ?_, e, p.val hr rfl⟩
  · rcases l1 with l | ⟨a, l⟩
    · exact .inl (rep_dpR hr rx rfl l)
    · exact .inr ⟨a, l, rep_dstr hr rx l⟩
  · rcases l2 with l | ⟨a, l⟩
    · exact .inl (rep_dpR hr ry rfl l)
    · exact .inr ⟨a, l, rep_dstr hr ry l⟩
def mCmp (op : CmpOp) : M → M → M := mOp2 (onD2 (dCmp op))
theorem ge_cmp {op : CmpOp} (g : Gd0 X) (ha : GE X Wx ea ma) (hb : GE X Wx eb mb) (hm : behindInMarks op eb = false := by first | exact nomark _ | rfl) : GE X Wx (.Compare ea [op] [eb] pos) (mCmp op ma mb) :=
  ge_op2 onD2_nx (ok_cmp op) (pe_cmpR (op_cmpG op (by have := g.un; omega)) ha hb hm)
def isNone : D → Bool
  | .none => true
  | _ => false
def dIsN : D → Option D := fun x => some (.bool (isNone x))
def dNotN : D → Option D := fun x => some (.bool (!isNone x))
theorem isN_rep {K : PySem.W.Frag} {W : Wd} {v : V} {d : D} (h : rep K W v d) : decide (v = V.non) = isNone d := by
  cases d with
  | none => cases h; rfl
  | bool b => cases h; rfl
  | int i => cases h; rfl
  | str x => cases h; rfl
  | list ds => obtain ⟨a, xs, e, _⟩ := h; subst e; rfl
  | tuple ds => obtain ⟨a, xs, e, _⟩ := h; subst e; rfl
  | dict ds => rcases rep_dict h with ⟨_, a, _, e, _⟩ | ⟨_, a, xs, _, e, _⟩ | ⟨_, a, xs, _, e, _⟩ | ⟨ae, ade, ce, nse, fse, he⟩ <;> first | (subst e; rfl) | (subst he; obtain ⟨e, _⟩ := h; subst e; rfl)
def f1 (g : D → Option D) : F1 := fun x st => lift (g x) st
def mIsN : M → M := mOp1 (f1 dIsN)
def mNotN : M → M := mOp1 (f1 dNotN)
/-- a op b op' c -/
def mChain (op op' : CmpOp) (a b c : M) : M := fun sl st => (a sl st).bind fun x st => (b sl st).bind fun y st => match onD2 (dCmp op) x y st with
  | .ok (.bool true) st => (c sl st).bind fun z st => onD2 (dCmp op') y z st
  | .ok (.bool false) st => .ok (.bool false) st
  | _ => .bad
theorem chain_read {op op' : CmpOp} {W : Wd} {H : Hp} {st : Sto} {sl : Sl} {sh : L2.St} {Q : VK} (hr : HR X.K W H st) (hs : SR X.K W sh sl) (p : Post (nv X) W H Q (fun cls dd H' => Wx cls dd sh H') (mChain op op' ma mb mc sl st)) :
    tChain (rCmpG X.K op) (rCmpG X.K op') (rd (nv X) Wx ma) (rd (nv X) Wx mb) (rd (nv X) Wx mc) sh H Q := by
  refine rd_bind hr hs p fun d1 st1 W1 v1 H1 e1 x1 h1 s1 r1 p1 => ?_
  refine rd_bind h1 s1 p1 fun d2 st2 W2 v2 H2 e2 x2 h2 s2 r2 p2 => ?_
  cases e3 : onD2 (dCmp op) d1 d2 st2 with
  | bad => rw [e3] at p2; exact p2.elim
  | exc a b => exact absurd e3 (onD2_nx _ _ _ _ _)
  | ok d st3 =>
    have hst : st3 = st2 := by
      unfold onD2 lift at e3
      split at e3
      · cases e3; rfl
      · cases e3
    subst hst
    rw [e3] at p2
    refine ok_cmp (N := nv X) op W2 H2 st3 v1 v2 d1 d2 _ h2 (x2.rep r1) r2 ?_
    rw [e3]
    intro W3 v3 H3 x3 h3 r3
    cases d with
    | bool k =>
      cases r3
      refine ⟨k, rfl, ?_⟩
      cases k with
      | false => simp only [Bool.false_eq_true, if_false]; exact (Post.ext x3 p2).val h3 rfl
      | true =>
        simp only [if_true]
        refine rd_bind h3 (s2.ext x3) (Post.ext x3 p2) fun d4 st4 W4 v4 H4 e4 x4 h4 s4 r4 p4 => ?_
        refine ok_cmp (N := nv X) op' W4 H4 st4 v2 v4 d2 d4 Q h4 (x4.rep (x3.rep r2)) r4 ?_
        cases q : onD2 (dCmp op') d2 d4 st4 with
        | ok d st3 => rw [q] at p4; exact p4
        | bad => rw [q] at p4; exact p4
        | exc ex s3 => exact absurd q (onD2_nx _ _ _ _ _)
    | _ => exact p2.elim
end
abbrev MT := Sl → Sto → R Bool
def PostT (N : Nv) (W : Wd) (H : Hp) (Q : Bool → Hp → Prop) (E : XK) : R Bool → Prop
  | .ok b st => ∀ W' H', Ext W H W' H' → HR N.K W' H' st → Q b H'
  | .exc x st => ∀ W' cls dd H', Ext W H W' H' → HR N.K W' H' st → repX N W' H' cls dd x → E cls dd H'
  | .bad => False
def rdT (N : Nv) (Wx : WX) (m : MT) : TT := fun sh H Q => ∃ W sl st, HR N.K W H st ∧ SR N.K W sh sl ∧ PostT N W H Q (fun cls dd H' => Wx cls dd sh H') (m sl st)
def GT (X : Cx) (Wx : WX) (e : Expr) (m : MT) : Prop := PT X e (rdT (nv X) Wx m)
def GW (X : Cx) (Wx : WX) (e : Expr) (m : MT) : Prop := PW X e (rdT (nv X) Wx m)
theorem _root_.L2.PW.imp {X : Cx} {e : Expr} {t t' : TT} (h : PW X e t) (i : ∀ σ H Q, t' σ H Q → t σ H Q) : PW X e t' := ⟨fun w pins s σ H Q I q => h.run w pins s σ H Q I (i σ H Q q)⟩
section
variable {X : Cx} {Wx : WX} {N : Nv} {W W' : Wd} {H H' : Hp} {st : Sto} {sl : Sl} {sh : L2.St}
theorem PostT.ext {Q : Bool → Hp → Prop} {E : XK} {r : R Bool} (e : Ext W H W' H') (h : PostT N W H Q E r) : PostT N W' H' Q E r := by
  cases r with
  | ok d st => exact fun W2 H2 e2 hr => h W2 H2 (e.trans e2) hr
  | exc x st => exact fun W2 c dd H2 e2 hr rp => h W2 c dd H2 (e.trans e2) hr rp
  | bad => exact h
theorem PostT.now {Q : Bool → Hp → Prop} {E : XK} {b : Bool} (hr : HR N.K W H st) (p : PostT N W H Q E (.ok b st)) : Q b H := p W H .refl hr
theorem rdT_bind {m : MT} {f : Bool → Sto → R Bool} {Q Q2 : Bool → Hp → Prop} (hr : HR N.K W H st) (hs : SR N.K W sh sl)
    (h : PostT N W H Q (fun cls dd H' => Wx cls dd sh H') ((m sl st).bind f))
    (k : ∀ b st1 W1 H1, m sl st = .ok b st1 → Ext W H W1 H1 → HR N.K W1 H1 st1 → SR N.K W1 sh sl → PostT N W1 H1 Q (fun cls dd H' => Wx cls dd sh H') (f b st1) → Q2 b H1) : rdT N Wx m sh H Q2 := by
  refine ⟨W, sl, st, hr, hs, ?_⟩
  cases e : m sl st with
  | ok d st1 => rw [e] at h; exact fun W1 H1 e1 h1 => k d st1 W1 H1 e e1 h1 (hs.ext e1) (PostT.ext e1 h)
  | exc x st1 => rw [e] at h; exact h
  | bad => rw [e] at h; exact h
/-- a value is reckoned first, then a test goes on -/
theorem rd_bindT {m : M} {f : D → Sto → R Bool} {Q : Bool → Hp → Prop} {Q2 : VK} (hr : HR N.K W H st) (hs : SR N.K W sh sl)
    (h : PostT N W H Q (fun cls dd H' => Wx cls dd sh H') ((m sl st).bind f))
    (k : ∀ d st1 W1 v H1, m sl st = .ok d st1 → Ext W H W1 H1 → HR N.K W1 H1 st1 → SR N.K W1 sh sl → rep N.K W1 v d → PostT N W1 H1 Q (fun cls dd H' => Wx cls dd sh H') (f d st1) → Q2 v H1) : rd N Wx m sh H Q2 := by
  refine ⟨W, sl, st, hr, hs, ?_⟩
  cases e : m sl st with
  | ok d st1 => rw [e] at h; exact fun W1 v H1 e1 h1 r1 => k d st1 W1 v H1 e e1 h1 (hs.ext e1) r1 (PostT.ext e1 h)
  | exc x st1 => rw [e] at h; exact h
  | bad => rw [e] at h; exact h
/-- a test first, then a value -/
theorem rdT_bindD {m : MT} {f : Bool → Sto → R D} {Q : VK} {Q2 : Bool → Hp → Prop} (hr : HR N.K W H st) (hs : SR N.K W sh sl)
    (h : Post N W H Q (fun cls dd H' => Wx cls dd sh H') ((m sl st).bind f))
    (k : ∀ b st1 W1 H1, m sl st = .ok b st1 → Ext W H W1 H1 → HR N.K W1 H1 st1 → SR N.K W1 sh sl → Post N W1 H1 Q (fun cls dd H' => Wx cls dd sh H') (f b st1) → Q2 b H1) : rdT N Wx m sh H Q2 := by
  refine ⟨W, sl, st, hr, hs, ?_⟩
  cases e : m sl st with
  | ok d st1 => rw [e] at h; exact fun W1 H1 e1 h1 => k d st1 W1 H1 e e1 h1 (hs.ext e1) (Post.ext e1 h)
  | exc x st1 => rw [e] at h; exact h
  | bad => rw [e] at h; exact h
end
/-- the truth of a value -/
def truD (st : Sto) (d : D) : Option Bool :=
  match deref st d with
  | .none => some false
  | .bool b => some b
  | .int i => some (i != 0)
  | .str y => if y.length ≤ sizeLine then some ((y.length : Int) != 0) else none
  | .list ds => some (!ds.isEmpty)
  | .tuple ds => some (!ds.isEmpty)
  | .dict [(.int r, .none)] => (match st[r.toNat]? with | some (.dct kvs) => some (!kvs.isEmpty) | _ => none)
  | _ => none
section
variable {X : Cx} {Wx : WX} {ea eb ec e : Expr} {ma mb mc : M} {ta tb tc : MT} {pos : Pos} {K : PySem.W.Frag} {W : Wd} {H : Hp} {st : Sto} {v : V} {d : D}
theorem isEmpty_repL {vs : List V} {ds : List D} (h : repL K W vs ds) : (!ds.isEmpty) = !vs.isEmpty := by
  cases ds with
  | nil => cases h; rfl
  | cons d ds => obtain ⟨v, us, e, _, _⟩ := h; subst e; rfl
theorem isEmpty_repP {κ : Type} {ks : List (κ × V)} {kvs : List (κ × D)} (h : repP K W ks kvs) : (!kvs.isEmpty) = !ks.isEmpty := by
  cases h <;> rfl
theorem tru_rep {k : Bool} (hr : HR K W H st) (h : rep K W v d) (e : truD st d = some k) : TruV K v H k := by
  unfold truD at e
  cases q : deref st d with
  | none => rw [q] at e; cases e; rw [rep_dnone hr h q]; rfl
  | bool b => rw [q] at e; cases e; rw [rep_dbool hr h q]; rfl
  | int i => rw [q] at e; cases e; rw [rep_dint hr h q]; rfl
  | str y =>
    rw [q] at e
    simp only at e
    split at e
    · rename_i hl; cases e; rw [rep_dstr hr h q]; exact ⟨hl, rfl⟩
    · cases e
  | list ds => rw [q] at e; cases e; obtain ⟨a, xs, e1, e2, l⟩ := rep_dlist hr h q; subst e1; exact .inl ⟨xs, .inl (.inl e2), isEmpty_repL l⟩
  | tuple ds => rw [q] at e; cases e; obtain ⟨a, xs, e1, e2, l⟩ := rep_dtuple hr h q; subst e1; exact .inr (.inl ⟨xs, e2, isEmpty_repL l⟩)
  | dict kvs =>
    cases d with
    | dict kvs' =>
      rcases rep_dict h with ⟨r, a, e1, e2, e3⟩ | ⟨ds', a, xs, e1, _, _⟩ | ⟨ds', a, xs, e1, _, _⟩ | ⟨ae, ade, ce, nse, fse, he⟩
      rotate_left
      · subst e1; simp at q
      · subst e1; rw [deref_gs] at e; cases e
      · subst he; cases q; cases e
      subst e1
      obtain ⟨m, hm, _, ho⟩ := hr.at e3
      rw [deref_ref, hm] at q
      cases m with
      | lst ds => simp at q
      | ro ds => simp at q; subst q; rw [deref_ref, hm] at e; simp [hm] at e
      | dct ds =>
        rw [deref_ref, hm] at e
        have e' : (!ds.isEmpty) = k := by simpa [hm] using e
        subst e'
        obtain ⟨ks, f1, f2⟩ := ho
        subst e2
        exact .inr (.inr ⟨ks, f1, isEmpty_repP f2⟩)
      | dctT ds => simp at q; subst q; rw [deref_ref, hm] at e; simp [hm] at e
      | tb _ _ => simp at q; subst q; rw [deref_ref, hm] at e; simp [hm] at e
    | none => simp at q
    | bool _ => simp at q
    | int _ => simp at q
    | str _ => simp at q
    | list _ => simp at q
    | tuple _ => simp at q
def mTru (m : M) : MT := fun sl st => (m sl st).bind fun d st => lift (truD st d) st
def mTb (m : M) : MT := fun sl st => (m sl st).bind fun d st => match d with | .bool b => .ok b st | _ => .bad
/-- any value, by its truth -/
theorem gt_val (ha : GE X Wx ea ma) (he : ∀ whole, isTrue ea X.env whole = (do let v ← whole; standAt ea.pos; holding [v] (truthy v)) := by intro _; rfl) : GT X Wx ea (mTru ma) := by
  refine (pt_truth ha he).imp fun sh H Q ⟨W, sl, st, hr, hs, p⟩ => ?_
  refine rd_bindT hr hs p fun d1 st1 W1 v1 H1 e1 x1 h1 s1 r1 p1 => ?_
  cases e : truD st1 d1 with
  | none => rw [e] at p1; exact p1.elim
  | some k => rw [e] at p1; exact ⟨k, tru_rep h1 r1 e, PostT.now h1 p1⟩
theorem gt_cmp {op : CmpOp} (g : Gd0 X) (ha : GE X Wx ea ma) (hb : GE X Wx eb mb) (hm : behindInMarks op eb = false := by first | exact nomark _ | rfl) : GT X Wx (.Compare ea [op] [eb] pos) (mTb (mCmp op ma mb)) := by
  refine (pt_cmpR (op_cmpG op (by have := g.un; omega)) ha hb hm).imp fun sh H Q ⟨W, sl, st, hr, hs, p⟩ => ?_
  have p' : PostT (nv X) W H Q (fun cls dd H' => Wx cls dd sh H') ((ma sl st).bind fun x st => (mb sl st).bind fun y st => (onD2 (dCmp op) x y st).bind fun d st => match d with | .bool b => .ok b st | _ => .bad) := by
    have e : (mTb (mCmp op ma mb)) sl st = ((ma sl st).bind fun x st => (mb sl st).bind fun y st => (onD2 (dCmp op) x y st).bind fun d st => match d with | .bool b => .ok b st | _ => .bad) := by
      unfold mTb mCmp mOp2
      cases ma sl st with
      | ok a b =>
        show ((mb sl b).bind _).bind _ = (mb sl b).bind _
        cases mb sl b <;> rfl
      | exc _ _ => rfl
      | bad => rfl
    rw [← e]; exact p
  refine rd_bindT hr hs p' fun d1 st1 W1 v1 H1 e1 x1 h1 s1 r1 p1 => ?_
  refine rd_bindT h1 s1 p1 fun d2 st2 W2 v2 H2 e2 x2 h2 s2 r2 p2 => ?_
  refine ok_cmp (N := nv X) op W2 H2 st2 v1 v2 d1 d2 _ h2 (x2.rep r1) r2 ?_
  cases q : onD2 (dCmp op) d1 d2 st2 with
  | bad => rw [q] at p2; exact p2.elim
  | exc _ _ => exact absurd q (onD2_nx _ _ _ _ _)
  | ok d st3 =>
    rw [q] at p2
    intro W3 v3 H3 x3 h3 r3
    cases d with
    | bool b => cases r3; exact ⟨b, rfl, PostT.now h3 (PostT.ext x3 p2)⟩
    | _ => exact p2.elim
theorem gt_isN {j p2} (ha : GE X Wx ea ma) : GT X Wx (.Compare ea [.Is] [.Constant .none j p2] pos) (mTb (mIsN ma)) := by
  refine (pt_cmp (pc_isN ha)).imp fun sh H Q ⟨W, sl, st, hr, hs, p⟩ => ?_
  have e : (mTb (mIsN ma)) sl st = ((ma sl st).bind fun x st => .ok (isNone x) st) := by
    unfold mTb mIsN mOp1
    cases ma sl st <;> rfl
  rw [e] at p
  refine rd_bindT hr hs p fun d1 st1 W1 v1 H1 e1 x1 h1 s1 r1 p1 => ⟨_, rfl, ?_⟩
  rw [isN_rep r1]; exact PostT.now h1 p1
theorem gt_notN {j p2} (ha : GE X Wx ea ma) : GT X Wx (.Compare ea [.IsNot] [.Constant .none j p2] pos) (mTb (mNotN ma)) := by
  refine (pt_cmp (pc_notN ha)).imp fun sh H Q ⟨W, sl, st, hr, hs, p⟩ => ?_
  have e : (mTb (mNotN ma)) sl st = ((ma sl st).bind fun x st => .ok (!isNone x) st) := by
    unfold mTb mNotN mOp1
    cases ma sl st <;> rfl
  rw [e] at p
  refine rd_bindT hr hs p fun d1 st1 W1 v1 H1 e1 x1 h1 s1 r1 p1 => ⟨_, rfl, ?_⟩
  rw [isN_rep r1]; exact PostT.now h1 p1
theorem chainT_read {op op' : CmpOp} {W : Wd} {H : Hp} {st : Sto} {sl : Sl} {sh : L2.St} {Q : Bool → Hp → Prop} (hr : HR X.K W H st) (hs : SR X.K W sh sl) (p : PostT (nv X) W H Q (fun cls dd H' => Wx cls dd sh H') (mTb (mChain op op' ma mb mc) sl st)) :
    tTest (tChain (rCmpG X.K op) (rCmpG X.K op') (rd (nv X) Wx ma) (rd (nv X) Wx mb) (rd (nv X) Wx mc)) sh H Q := by
  refine chain_read (op := op) (op' := op') (ma := ma) (mb := mb) (mc := mc) hr hs ?_
  unfold mTb at p
  cases q : mChain op op' ma mb mc sl st with
  | bad => rw [q] at p; exact p
  | exc x st => rw [q] at p; exact p
  | ok d st1 =>
    rw [q] at p
    cases d with
    | bool b => intro W1 v H1 x1 h1 r1; cases r1; exact ⟨b, rfl, p W1 H1 x1 h1⟩
    | _ => exact p.elim
theorem gt_chain {op op' : CmpOp} (g : Gd0 X) (ha : GE X Wx ea ma) (hb : GE X Wx eb mb) (hc : GE X Wx ec mc) (hm : lastMarks [op, op'] [eb, ec] = false := by with_unfolding_all rfl) :
    GT X Wx (.Compare ea [op, op'] [eb, ec] pos) (mTb (mChain op op' ma mb mc)) :=
  (pt_chain (op_cmpG op (by have := g.un; omega)) (op_cmpG op' (by have := g.un; omega)) ha hb hc hm).imp fun sh H Q ⟨W, sl, st, hr, hs, p⟩ => chainT_read hr hs p
def mNotT (t : MT) : MT := fun sl st => (t sl st).bind fun b st => .ok (!b) st
theorem gt_not (ha : GT X Wx ea ta) : GT X Wx (.UnaryOp .Not ea pos) (mNotT ta) := by
  refine (pt_not ha).imp fun sh H Q ⟨W, sl, st, hr, hs, p⟩ => ?_
  exact rdT_bind hr hs p fun b st1 W1 H1 e1 x1 h1 s1 p1 => PostT.now h1 p1
def mAndT (t u : MT) : MT := fun sl st => (t sl st).bind fun b st => if b = true then u sl st else .ok false st
def mOrT (t u : MT) : MT := fun sl st => (t sl st).bind fun b st => if b = true then .ok true st else u sl st
theorem gw_and {rest : List Expr} (ha : GT X Wx ea ta) (hb : GW X Wx (.BoolOp .And (eb :: rest) pos) tb) : GW X Wx (.BoolOp .And (ea :: eb :: rest) pos) (mAndT ta tb) := by
  refine (pw_and ha hb).imp fun sh H Q ⟨W, sl, st, hr, hs, p⟩ => ?_
  refine rdT_bind hr hs p fun b st1 W1 H1 e1 x1 h1 s1 p1 => ?_
  cases b with
  | true => rw [if_pos rfl] at p1 ⊢; exact ⟨W1, sl, st1, h1, s1, p1⟩
  | false => rw [if_neg Bool.false_ne_true] at p1 ⊢; exact PostT.now h1 p1
theorem gw_or {rest : List Expr} (ha : GT X Wx ea ta) (hb : GW X Wx (.BoolOp .Or (eb :: rest) pos) tb) : GW X Wx (.BoolOp .Or (ea :: eb :: rest) pos) (mOrT ta tb) := by
  refine (pw_or ha hb).imp fun sh H Q ⟨W, sl, st, hr, hs, p⟩ => ?_
  refine rdT_bind hr hs p fun b st1 W1 H1 e1 x1 h1 s1 p1 => ?_
  cases b with
  | true => rw [if_pos rfl] at p1 ⊢; exact PostT.now h1 p1
  | false => rw [if_neg Bool.false_ne_true] at p1 ⊢; exact ⟨W1, sl, st1, h1, s1, p1⟩
theorem gw_and1 (ha : GT X Wx ea ta) : GW X Wx (.BoolOp .And [ea] pos) ta := pw_and1 ha
theorem gw_or1 (ha : GT X Wx ea ta) : GW X Wx (.BoolOp .Or [ea] pos) ta := pw_or1 ha
theorem gt_bool (h : GW X Wx e ta) : GT X Wx e ta := PW.pt h
def mAnd (a b : M) : M := fun sl st => (a sl st).bind fun x st => match truD st x with | some true => b sl st | some false => .ok x st | none => .bad
def mOr (a b : M) : M := fun sl st => (a sl st).bind fun x st => match truD st x with | some true => .ok x st | some false => b sl st | none => .bad
theorem ge_and {rest : List Expr} (ha : GE X Wx ea ma) (hb : GE X Wx (.BoolOp .And (eb :: rest) pos) mb) : GE X Wx (.BoolOp .And (ea :: eb :: rest) pos) (mAnd ma mb) := by
  refine (pe_andT ha hb).imp fun sh H Q ⟨W, sl, st, hr, hs, p⟩ => ?_
  refine rd_bind hr hs p fun d1 st1 W1 v1 H1 e1 x1 h1 s1 r1 p1 => ?_
  cases e : truD st1 d1 with
  | none => rw [e] at p1; exact p1.elim
  | some k =>
    rw [e] at p1
    refine ⟨k, tru_rep h1 r1 e, ?_⟩
    cases k with
    | true => rw [if_pos rfl]; exact ⟨W1, sl, st1, h1, s1, p1⟩
    | false => rw [if_neg Bool.false_ne_true]; exact p1.val h1 r1
theorem ge_one {op} (ha : GE X Wx ea ma) : GE X Wx (.BoolOp op [ea] pos) ma := pe_one ha
def mNot (a : M) : M := fun sl st => (a sl st).bind fun x st => match truD st x with | some k => .ok (.bool (!k)) st | none => .bad
theorem ge_not (ha : GE X Wx ea ma) : GE X Wx (.UnaryOp .Not ea pos) (mNot ma) := by
  refine (pe_notT ha).imp fun sh H Q ⟨W, sl, st, hr, hs, p⟩ => ?_
  refine rd_bind hr hs p fun d1 st1 W1 v1 H1 e1 x1 h1 s1 r1 p1 => ?_
  cases e : truD st1 d1 with
  | none => rw [e] at p1; exact p1.elim
  | some k => rw [e] at p1; exact ⟨k, tru_rep h1 r1 e, p1.val h1 rfl⟩
def mIf (t : MT) (a b : M) : M := fun sl st => (t sl st).bind fun k st => if k = true then a sl st else b sl st
theorem ge_if (hc : GT X Wx ec tc) (ha : GE X Wx ea ma) (hb : GE X Wx eb mb) : GE X Wx (.IfExp ec ea eb pos) (mIf tc ma mb) := by
  refine (pe_ifExp hc ha hb).imp fun sh H Q ⟨W, sl, st, hr, hs, p⟩ => ?_
  refine rdT_bindD hr hs p fun b st1 W1 H1 e1 x1 h1 s1 p1 => ?_
  cases b with
  | true => rw [if_pos rfl] at p1 ⊢; exact ⟨W1, sl, st1, h1, s1, p1⟩
  | false => rw [if_neg Bool.false_ne_true] at p1 ⊢; exact ⟨W1, sl, st1, h1, s1, p1⟩
end
end Pv
set_option Elab.async false
set_option linter.all false
set_option maxRecDepth 100000
set_option maxHeartbeats 4000000
namespace Pv
open PySem PySem.Spec L2
open PyProof.Rows hiding St
abbrev Ms := Sl → Sto → R (List D)
def msNil : Ms := fun _ st => .ok [] st
def msCons (a : M) (r : Ms) : Ms := fun sl st => (a sl st).bind fun x st => (r sl st).bind fun xs st => .ok (x :: xs) st
def PostL (N : Nv) (W : Wd) (H : Hp) (Q : List V → Hp → Prop) (E : XK) : R (List D) → Prop
  | .ok ds st => ∀ W' vs H', Ext W H W' H' → HR N.K W' H' st → repL N.K W' vs ds → Q vs H'
  | .exc x st => ∀ W' cls dd H', Ext W H W' H' → HR N.K W' H' st → repX N W' H' cls dd x → E cls dd H'
  | .bad => False
def rdL (N : Nv) (Wx : WX) (m : Ms) : TA := fun sh H Q => ∃ W sl st, HR N.K W H st ∧ SR N.K W sh sl ∧ PostL N W H Q (fun cls dd H' => Wx cls dd sh H') (m sl st)
def GA (X : Cx) (Wx : WX) (es : List Expr) (ms : Ms) : Prop := PA X es (rdL (nv X) Wx ms)
section
variable {X : Cx} {Wx : WX} {N : Nv} {W W' : Wd} {H H' : Hp} {st : Sto} {sl : Sl} {sh : L2.St}
theorem PostL.ext {Q : List V → Hp → Prop} {E : XK} {r : R (List D)} (e : Ext W H W' H') (h : PostL N W H Q E r) : PostL N W' H' Q E r := by
  cases r with
  | ok d st => exact fun W2 v H2 e2 hr rp => h W2 v H2 (e.trans e2) hr rp
  | exc x st => exact fun W2 c dd H2 e2 hr rp => h W2 c dd H2 (e.trans e2) hr rp
  | bad => exact h
theorem rd_bindL {m : M} {f : D → Sto → R (List D)} {Q : List V → Hp → Prop} {Q2 : VK} (hr : HR N.K W H st) (hs : SR N.K W sh sl)
    (h : PostL N W H Q (fun cls dd H' => Wx cls dd sh H') ((m sl st).bind f))
    (k : ∀ d st1 W1 v H1, m sl st = .ok d st1 → Ext W H W1 H1 → HR N.K W1 H1 st1 → SR N.K W1 sh sl → rep N.K W1 v d → PostL N W1 H1 Q (fun cls dd H' => Wx cls dd sh H') (f d st1) → Q2 v H1) : rd N Wx m sh H Q2 := by
  refine ⟨W, sl, st, hr, hs, ?_⟩
  cases e : m sl st with
  | ok d st1 => rw [e] at h; exact fun W1 v H1 e1 h1 r1 => k d st1 W1 v H1 e e1 h1 (hs.ext e1) r1 (PostL.ext e1 h)
  | exc x st1 => rw [e] at h; exact h
  | bad => rw [e] at h; exact h
theorem rdL_bindL {m : Ms} {f : List D → Sto → R (List D)} {Q Q2 : List V → Hp → Prop} (hr : HR N.K W H st) (hs : SR N.K W sh sl)
    (h : PostL N W H Q (fun cls dd H' => Wx cls dd sh H') ((m sl st).bind f))
    (k : ∀ ds st1 W1 vs H1, m sl st = .ok ds st1 → Ext W H W1 H1 → HR N.K W1 H1 st1 → SR N.K W1 sh sl → repL N.K W1 vs ds → PostL N W1 H1 Q (fun cls dd H' => Wx cls dd sh H') (f ds st1) → Q2 vs H1) : rdL N Wx m sh H Q2 := by
  refine ⟨W, sl, st, hr, hs, ?_⟩
  cases e : m sl st with
  | ok d st1 => rw [e] at h; exact fun W1 v H1 e1 h1 r1 => k d st1 W1 v H1 e e1 h1 (hs.ext e1) r1 (PostL.ext e1 h)
  | exc x st1 => rw [e] at h; exact h
  | bad => rw [e] at h; exact h
theorem rdL_bind {m : Ms} {f : List D → Sto → R D} {Q : VK} {Q2 : List V → Hp → Prop} (hr : HR N.K W H st) (hs : SR N.K W sh sl)
    (h : Post N W H Q (fun cls dd H' => Wx cls dd sh H') ((m sl st).bind f))
    (k : ∀ ds st1 W1 vs H1, m sl st = .ok ds st1 → Ext W H W1 H1 → HR N.K W1 H1 st1 → SR N.K W1 sh sl → repL N.K W1 vs ds → Post N W1 H1 Q (fun cls dd H' => Wx cls dd sh H') (f ds st1) → Q2 vs H1) : rdL N Wx m sh H Q2 := by
  refine ⟨W, sl, st, hr, hs, ?_⟩
  cases e : m sl st with
  | ok d st1 => rw [e] at h; exact fun W1 v H1 e1 h1 r1 => k d st1 W1 v H1 e e1 h1 (hs.ext e1) r1 (Post.ext e1 h)
  | exc x st1 => rw [e] at h; exact h
  | bad => rw [e] at h; exact h
theorem PostL.now {Q : List V → Hp → Prop} {E : XK} {ds : List D} {vs : List V} (hr : HR N.K W H st) (p : PostL N W H Q E (.ok ds st)) (h : repL N.K W vs ds) : Q vs H := p W vs H .refl hr h
theorem ga_nil : GA X Wx [] msNil := pa_nil.imp fun sh H Q ⟨W, sl, st, hr, hs, p⟩ => PostL.now (vs := []) hr p rfl
theorem ga_cons {e : Expr} {es : List Expr} {m : M} {ms : Ms} (ha : GE X Wx e m) (hr : GA X Wx es ms) (hs : starEach (e :: es) X.env = (false, eval e X.env) :: starEach es X.env := by rfl) : GA X Wx (e :: es) (msCons m ms) := by
  refine (pa_cons ha hr hs).imp fun sh H Q ⟨W, sl, st, hr, hs, p⟩ => ?_
  refine rd_bindL hr hs p fun d1 st1 W1 v1 H1 e1 x1 h1 s1 r1 p1 => ?_
  refine rdL_bindL h1 s1 p1 fun ds st2 W2 vs H2 e2 x2 h2 s2 r2 p2 => ?_
  exact PostL.now h2 p2 ⟨v1, vs, rfl, x2.rep r1, r2⟩
end
def mkTup (ds : List D) (st : Sto) : R D := if ds.length ≤ sizeLine then .ok (.tuple ds) st else .bad
def mkLst (ds : List D) (st : Sto) : R D := if ds.length ≤ sizeLine then .ok (.list ds) st else .bad
/-- a list that will grow: an object of the store -/
def mkLstM (ds : List D) (st : Sto) : R D := if ds.length ≤ sizeLine then .ok (Rf st.length) (st ++ [.lst ds]) else .bad
def mTup (ms : Ms) : M := fun sl st => (ms sl st).bind mkTup
def mLst (ms : Ms) : M := fun sl st => (ms sl st).bind mkLst
def mLstM (ms : Ms) : M := fun sl st => (ms sl st).bind mkLstM
section
variable {X : Cx} {Wx : WX} {es : List Expr} {ms : Ms} {pos : Pos} {N : Nv} {W W' : Wd} {H H' : Hp} {st : Sto}
theorem post_tup {Q : VK} {E : XK} {ds : List D} {vs : List V} (hr : HR N.K W H st) (h : repL N.K W vs ds) (p : Post N W H Q E (mkTup ds st)) : vs.length ≤ sizeLine ∧ ∀ a, H a = none → Q (.ref a) (upd H a (.tup vs)) := by
  unfold mkTup at p
  split at p
  · rename_i hl; exact ⟨by rw [repL_length h]; exact hl, p.tup hr h⟩
  · exact p.elim
theorem post_lst {Q : VK} {E : XK} {ds : List D} {vs : List V} (hr : HR N.K W H st) (h : repL N.K W vs ds) (p : Post N W H Q E (mkLst ds st)) : vs.length ≤ sizeLine ∧ ∀ a, H a = none → Q (.ref a) (upd H a (.lst vs)) := by
  unfold mkLst at p
  split at p
  · rename_i hl; exact ⟨by rw [repL_length h]; exact hl, p.lst hr h⟩
  · exact p.elim
theorem Post.lstM {Q : VK} {E : XK} {ds : List D} {vs : List V} (hr : HR N.K W H st) (h : repL N.K W vs ds) (p : Post N W H Q E (.ok (Rf st.length) (st ++ [.lst ds]))) : ∀ a, H a = none → Q (.ref a) (upd H a (.lst vs)) := fun a ha => by
  have ho : repO N.K ⟨W.F, W.rho ++ [a]⟩ (upd H a (.lst vs)) a (.lst ds) := ⟨vs, upd_same, repL_mono (W := W) (W' := ⟨W.F, W.rho ++ [a]⟩) (fun _ _ z => z) (fun r b z => by
    have hlt : r < W.rho.length := (List.getElem?_eq_some_iff.mp z).1
    show (W.rho ++ [a])[r]? = some b
    rw [List.getElem?_append_left hlt]; exact z) ds h⟩
  obtain ⟨h1, h2⟩ := hr.newM ha ho
  refine p _ _ _ h2 h1 ⟨st.length, a, rfl, rfl, ?_⟩
  show (W.rho ++ [a])[st.length]? = some a
  rw [← hr.len]; simp
theorem post_lstM {Q : VK} {E : XK} {ds : List D} {vs : List V} (hr : HR N.K W H st) (h : repL N.K W vs ds) (p : Post N W H Q E (mkLstM ds st)) : vs.length ≤ sizeLine ∧ ∀ a, H a = none → Q (.ref a) (upd H a (.lst vs)) := by
  unfold mkLstM at p
  split at p
  · rename_i hl; exact ⟨by rw [repL_length h]; exact hl, p.lstM hr h⟩
  · exact p.elim
theorem ge_tup {c} (h : GA X Wx es ms) : GE X Wx (.Tuple es c pos) (mTup ms) := by
  refine (pe_tup h).imp fun sh H Q ⟨W, sl, st, hr, hs, p⟩ => ?_
  exact rdL_bind hr hs p fun ds st1 W1 vs H1 e1 x1 h1 s1 r1 p1 => post_tup h1 r1 p1
theorem ge_lst (h : GA X Wx es ms) : GE X Wx (.List es pos) (mLst ms) := by
  refine (pe_lst h).imp fun sh H Q ⟨W, sl, st, hr, hs, p⟩ => ?_
  exact rdL_bind hr hs p fun ds st1 W1 vs H1 e1 x1 h1 s1 r1 p1 => post_lst h1 r1 p1
theorem ge_lstM (h : GA X Wx es ms) : GE X Wx (.List es pos) (mLstM ms) := by
  refine (pe_lst h).imp fun sh H Q ⟨W, sl, st, hr, hs, p⟩ => ?_
  exact rdL_bind hr hs p fun ds st1 W1 vs H1 e1 x1 h1 s1 r1 p1 => post_lstM h1 r1 p1
end
def keyOf : D → Option Key
  | .int i => some (.inl i)
  | .str x => some (.inr x)
  | _ => none
def keysOf : List D → Option (List Key)
  | [] => some []
  | d :: ds => match keyOf d, keysOf ds with | some k, some ks => some (k :: ks) | _, _ => none
def lookD {κ : Type} [DecidableEq κ] (kvs : List (κ × D)) (k : κ) : Option D := (kvs.find? fun kv => decide (kv.1 = k)).map (·.2)
def putD {κ : Type} [DecidableEq κ] (kvs : List (κ × D)) (k : κ) (d : D) : List (κ × D) :=
  if (kvs.any fun kv => decide (kv.1 = k)) = true then kvs.map (fun kv => if kv.1 = k then (kv.1, d) else kv) else kvs ++ [(k, d)]
/-- what the dict holds at a key: none where it is no dict or no key -/
def dlook (st : Sto) (x y : D) : Option (Option D) :=
  match x with
  | .dict [(.int r, .none)] => (match st[r.toNat]? with
    | some (.dct kvs) => (keyOf y).map (lookD kvs)
    | some (.dctT kvs) => (match y with | .tuple ds => (keysOf ds).map (lookD kvs) | _ => none)
    | _ => none)
  | _ => none
section
variable {K : PySem.W.Frag} {W : Wd} {H : Hp} {st : Sto} {v u : V} {d y : D}
theorem keyOf_rep {k : Key} (h : rep K W v d) (e : keyOf d = some k) : v = kV k := by
  cases d with
  | int i => cases h; cases e; rfl
  | str x => cases h; cases e; rfl
  | _ => cases e
theorem keysOf_rep : ∀ {ds : List D} {vs : List V} {ks : List Key}, repL K W vs ds → keysOf ds = some ks → vs = ks.map kV
  | [], _, _, h, e => by cases h; cases e; rfl
  | d :: ds, _, ks, ⟨v, us, e1, r, l⟩, e => by
    simp only [keysOf] at e
    split at e
    · rename_i k ks' e2 e3
      cases e
      subst e1
      rw [keyOf_rep r e2, keysOf_rep l e3]; rfl
    · cases e
theorem look_rep {κ : Type} [DecidableEq κ] {ks : List (κ × V)} {kvs : List (κ × D)} (h : repP K W ks kvs) (k : κ) :
    (∀ d, lookD kvs k = some d → ∃ v, valV ks k = some v ∧ rep K W v d) ∧ (lookD kvs k = none → valV ks k = none) := by
  induction h with
  | nil => exact ⟨fun d e => (by cases e), fun _ => rfl⟩
  | @cons p q ps qs hq t ih =>
    by_cases hk : q.1 = k
    · have e1 : lookD (q :: qs) k = some q.2 := by simp [lookD, List.find?_cons, hk]
      have e2 : valV (p :: ps) k = some p.2 := valV_pos (by rw [hq.1]; exact hk)
      exact ⟨fun d e => by rw [e1] at e; cases e; exact ⟨_, e2, hq.2⟩, fun e => by rw [e1] at e; cases e⟩
    · have e1 : lookD (q :: qs) k = lookD qs k := by simp [lookD, List.find?_cons, hk]
      have e2 : valV (p :: ps) k = valV ps k := valV_neg (by rw [hq.1]; exact hk)
      rw [e1, e2]; exact ih
theorem any_rep {κ : Type} [DecidableEq κ] {ks : List (κ × V)} {kvs : List (κ × D)} (h : repP K W ks kvs) (k : κ) : (kvs.any fun kv => decide (kv.1 = k)) = ks.any fun kv => decide (kv.1 = k) := by
  induction h with
  | nil => rfl
  | @cons p q ps qs hq t ih => rw [List.any_cons, List.any_cons, ih, hq.1]
theorem put_rep {κ : Type} [DecidableEq κ] {ks : List (κ × V)} {kvs : List (κ × D)} (h : repP K W ks kvs) (k : κ) (r : rep K W v d) : repP K W (putK ks k v) (putD kvs k d) := by
  have ha := any_rep h k
  unfold putK putD
  rw [ha]
  split
  · rename_i hany
    clear ha hany
    induction h with
    | nil => exact .nil
    | @cons p q ps qs hq t ih =>
      simp only [List.map_cons]
      refine .cons ?_ ih
      by_cases hk : q.1 = k
      · rw [if_pos (by rw [hq.1]; exact hk), if_pos hk]; exact ⟨hq.1, r⟩
      · rw [if_neg (by rw [hq.1]; exact hk), if_neg hk]; exact hq
  · have snoc : ∀ {ks : List (κ × V)} {kvs : List (κ × D)}, repP K W ks kvs → repP K W (ks ++ [(k, v)]) (kvs ++ [(k, d)]) := by
      intro ks kvs h
      induction h with
      | nil => exact .cons ⟨rfl, r⟩ .nil
      | cons hq t ih => exact .cons hq ih
    exact snoc h
theorem repP_length {κ : Type} {ks : List (κ × V)} {kvs : List (κ × D)} (h : repP K W ks kvs) : ks.length = kvs.length := by
  induction h with
  | nil => rfl
  | cons _ _ ih => simp [ih]
/-- where a dict of the store stands, and what it holds -/
theorem dlook_rep (hr : HR K W H st) (h : rep K W v d) (hy : rep K W u y) {o : Option D} (e : dlook st d y = some o) : ∃ a ov, v = .ref a ∧ DGet H a u ov ∧ (∀ r, o = some r → ∃ w, ov = some w ∧ rep K W w r) ∧ (o = none → ov = none) := by
  unfold dlook at e
  split at e
  · rename_i i
    rcases rep_dict h with ⟨r, a, e1, e2, e3⟩ | ⟨ds', a, xs, e1, _, _⟩ | ⟨ds', a, xs, e1, _, _⟩ | ⟨ae, ade, ce, nse, fse, he⟩
    rotate_left
    · cases e1
    · cases e1
    · cases he
    have ei : i = (r : Int) := by injection e1 with q1 _; injection q1 with q2 _; injection q2
    subst ei
    rw [Int.toNat_natCast] at e
    obtain ⟨m, hm, _, ho⟩ := hr.at e3
    rw [hm] at e
    subst e2
    cases m with
    | dct kvs =>
      obtain ⟨ks, h1, h2⟩ := ho
      simp only at e
      obtain ⟨k, hk, eo⟩ := Option.map_eq_some_iff.mp e
      have := keyOf_rep hy hk
      subst this
      obtain ⟨l1, l2⟩ := look_rep h2 k
      refine ⟨a, valV ks k, rfl, .inl ⟨ks, k, .inl h1, rfl, rfl⟩, fun r hr' => ?_, fun hn => l2 (by rw [eo, hn])⟩
      obtain ⟨w, q1, q2⟩ := l1 r (by rw [eo, hr'])
      exact ⟨w, q1, q2⟩
    | dctT kvs =>
      obtain ⟨ks, h1, h2⟩ := ho
      simp only at e
      split at e
      · rename_i ds
        obtain ⟨k, hk, eo⟩ := Option.map_eq_some_iff.mp e
        obtain ⟨b, xs, q1, q2, q3⟩ := hy
        subst q1
        have := keysOf_rep q3 hk
        subst this
        obtain ⟨l1, l2⟩ := look_rep h2 k
        refine ⟨a, valV ks k, rfl, .inr ⟨ks, k, b, .inl h1, rfl, hr.sub _ _ q2, rfl⟩, fun r hr' => ?_, fun hn => l2 (by rw [eo, hn])⟩
        obtain ⟨w, q1, q2⟩ := l1 r (by rw [eo, hr'])
        exact ⟨w, q1, q2⟩
      · cases e
    | lst ds => cases e
    | ro ds => cases e
    | tb _ _ => cases e
  · cases e
end
def dIx (x y : D) : Option D :=
  match x, y with
  | .list ds, .int i => atI ds i
  | .tuple ds, .int i => atI ds i
  | .dict [(.none, .list ds)], .int i => atI ds i
  | .str z, .int i => if z.length ≤ sizeLine then (atI z.cps.toList i).map fun c => .str ⟨#[c]⟩ else none
  | _, _ => none
/-- a list, a tuple, a text at an int; a dict at a key that is there -/
def fIx : F2 := fun x y st => match dlook st x y with
  | some (some d) => .ok d st
  | some none => .bad
  | none => onD2 dIx x y st
def mIx : M → M → M := mOp2 fIx
section
variable {X : Cx} {Wx : WX} {ea eb e : Expr} {ma mb mc : M} {pos : Pos} {K : PySem.W.Frag} {W : Wd} {H : Hp} {st : Sto}
theorem atI_rep {vs : List V} {ds : List D} (h : repL K W vs ds) {i : Int} {d : D} (e : atI ds i = some d) : ∃ v, atI vs i = some v ∧ rep K W v d := by
  unfold atI at e ⊢
  rw [repL_length h]
  cases q : ixN ds.length i with
  | none => rw [q] at e; cases e
  | some j => rw [q] at e; exact repL_get j h e
theorem ge_ix (g : Gd0 X) (ha : GE X Wx ea ma) (hb : GE X Wx eb mb) (hs : PlainIx eb := by exact fun _ _ => rfl) : GE X Wx (.Subscript ea eb pos) (mIx ma mb) := by
  refine (PE.or (pe_ix ix_seq ha hb hs) (pe_dget (by have := g.un; omega) ha hb hs)).imp fun sh H Q ⟨W, sl, st, hr, hs, p⟩ => ?_
  cases e1 : ma sl st with
  | bad => unfold mIx mOp2 at p; rw [e1] at p; exact p.elim
  | exc x s2 =>
    refine .inl (rd_bind hr hs p fun d1 st1 W1 v1 H1 e2 => ?_)
    rw [e1] at e2; cases e2
  | ok d1 st1 =>
    cases e2 : mb sl st1 with
    | bad => unfold mIx mOp2 at p; rw [e1] at p; simp only [R.bind_ok] at p; rw [e2] at p; exact p.elim
    | exc x s2 =>
      refine .inl (rd_bind hr hs p fun d1' st1' W1 v1 H1 f1 x1 h1 s1 r1 p1 => ?_)
      rw [e1] at f1; cases f1
      refine rd_bind h1 s1 p1 fun d2' st2' W2 v2 H2 f2 => ?_
      rw [e2] at f2; cases f2
    | ok d2 st2 =>
      cases e3 : dlook st2 d1 d2 with
      | none =>
        refine .inl (rd_bind hr hs p fun d1' st1' W1 v1 H1 f1 x1 h1 s1 r1 p1 => ?_)
        rw [e1] at f1; cases f1
        refine rd_bind h1 s1 p1 fun d2' st2' W2 v2 H2 f2 x2 h2 s2 r2 p2 => ?_
        rw [e2] at f2; cases f2
        unfold fIx at p2
        rw [e3] at p2
        obtain ⟨d, e, p⟩ := onD2_post p2
        have r1' := x2.rep r1
        cases hx : deref st2 d1 with
        | list ds =>
          cases hy : deref st2 d2 with
          | int i =>
            rw [hx, hy] at e
            obtain ⟨a1, xs, q1, q2, l1⟩ := rep_dlist h2 r1' hx
            obtain ⟨v, q3, q4⟩ := atI_rep l1 (show atI ds i = some d from e)
            exact .inl ⟨a1, xs, i, v, q1, rep_dint h2 r2 hy, .inl (.inl q2), q3, p.val h2 q4⟩
          | _ => rw [hx, hy] at e; cases e
        | tuple ds =>
          cases hy : deref st2 d2 with
          | int i =>
            rw [hx, hy] at e
            obtain ⟨a1, xs, q1, q2, l1⟩ := rep_dtuple h2 r1' hx
            obtain ⟨v, q3, q4⟩ := atI_rep l1 (show atI ds i = some d from e)
            exact .inr (.inl ⟨a1, xs, i, v, q1, rep_dint h2 r2 hy, q2, q3, p.val h2 q4⟩)
          | _ => rw [hx, hy] at e; cases e
        | str z =>
          cases hy : deref st2 d2 with
          | int i =>
            rw [hx, hy] at e
            simp only [dIx] at e
            split at e
            · rename_i hl
              obtain ⟨c, q1, q2⟩ := Option.map_eq_some_iff.mp e
              subst q2
              exact .inr (.inr ⟨z, i, c, rep_dstr h2 r1' hx, rep_dint h2 r2 hy, hl, q1, p.val h2 rfl⟩)
            · cases e
          | _ => rw [hx, hy] at e; cases e
        | dict kvs =>
          rw [hx] at e
          unfold dIx at e
          split at e
          · rename_i q _; cases q
          · rename_i q _; cases q
          · rename_i ds i q hy
            cases q
            obtain ⟨a1, xs, q1, q2, l1⟩ := rep_dgs h2 r1' hx
            obtain ⟨v, q3, q4⟩ := atI_rep l1 (show atI ds i = some d from e)
            exact .inl ⟨a1, xs, i, v, q1, rep_dint h2 r2 hy, q2, q3, p.val h2 q4⟩
          · rename_i q _; cases q
          · cases e
        | _ => rw [hx] at e; cases e
      | some o =>
        refine .inr (rd_bind hr hs p fun d1' st1' W1 v1 H1 f1 x1 h1 s1 r1 p1 => ?_)
        rw [e1] at f1; cases f1
        refine rd_bind h1 s1 p1 fun d2' st2' W2 v2 H2 f2 x2 h2 s2 r2 p2 => ?_
        rw [e2] at f2; cases f2
        unfold fIx at p2
        rw [e3] at p2
        obtain ⟨a, ov, q1, q2, q3, q4⟩ := dlook_rep h2 (x2.rep r1) r2 e3
        cases o with
        | none => exact p2.elim
        | some d =>
          obtain ⟨w, q5, q6⟩ := q3 d rfl
          subst q5
          exact ⟨a, w, q1, q2, p2.val h2 q6⟩
abbrev MO? := Sl → Sto → R (Option Int)
def moNone : MO? := fun _ st => .ok none st
def moSome (m : M) : MO? := fun sl st => (m sl st).bind fun d st => match d with | .int i => .ok (some i) st | _ => .bad
def cutD (xs : List D) (lo hi : Option Int) : List D := (xs.drop (HT.sIx xs.length 0 lo)).take (HT.sIx xs.length xs.length hi - HT.sIx xs.length 0 lo)
def fSl (lo hi : Option Int) : F1 := fun x st =>
  match x with
  | .tuple ds => .ok (.tuple (cutD ds lo hi)) st
  | .dict [(.int r, .none)] => (match st[r.toNat]? with | some (.lst ds) => .ok (.list (cutD ds lo hi)) st | some (.ro ds) => .ok (.list (cutD ds lo hi)) st | _ => .bad)
  | .list ds => .ok (.list (cutD ds lo hi)) st
  | .dict [(.none, .list ds)] => .ok (.list (cutD ds lo hi)) st
  | .str z => if z.length ≤ sizeLine then .ok (.str (cutS z lo hi)) st else .bad
  | _ => .bad
def mSl (ma : M) (lo hi : MO?) : M := fun sl st => (ma sl st).bind fun x st => (lo sl st).bind fun l st => (hi sl st).bind fun h st => fSl l h x st
theorem cut_rep {vs : List V} {ds : List D} (h : repL K W vs ds) (lo hi : Option Int) : repL K W (cutV vs lo hi) (cutD ds lo hi) := by
  unfold cutV cutD
  rw [repL_length h]
  exact repL_take _ (repL_drop _ h)
theorem cut_whole {ds : List D} {lo hi : Option Int} (h : HT.sIx ds.length 0 lo = 0 ∧ HT.sIx ds.length ds.length hi = ds.length) : cutD ds lo hi = ds := by
  unfold cutD
  rw [h.1, h.2]; simp
def PostO (N : Nv) (W : Wd) (H : Hp) (Q : Option Int → Hp → Prop) (E : XK) : R (Option Int) → Prop
  | .ok o st => ∀ W' H', Ext W H W' H' → HR N.K W' H' st → Q o H'
  | .exc x st => ∀ W' cls dd H', Ext W H W' H' → HR N.K W' H' st → repX N W' H' cls dd x → E cls dd H'
  | .bad => False
/-- a slice's bound: its reading, and what it is -/
def GO (X : Cx) (Wx : WX) (e : Option Expr) (m : MO?) : Prop := PO X e (fun sh H Q => ∃ W sl st, HR X.K W H st ∧ SR X.K W sh sl ∧ PostO (nv X) W H Q (fun cls dd H' => Wx cls dd sh H') (m sl st))
theorem go_none : GO X Wx none moNone := ⟨fun pins s σ H Q I h => po_none.run pins s σ H Q I (by obtain ⟨W, sl, st, hr, hs, p⟩ := h; exact p W H .refl hr)⟩
theorem go_some (ha : GE X Wx ea ma) : GO X Wx (some ea) (moSome ma) := by
  refine ⟨fun pins s σ H Q I ⟨W, sl, st, hr, hs, p⟩ => (po_some ha).run pins s σ H Q I ?_⟩
  refine ⟨W, sl, st, hr, hs, ?_⟩
  unfold moSome at p
  cases e : ma sl st with
  | bad => rw [e] at p; exact p
  | exc x st => rw [e] at p; exact p
  | ok d st1 =>
    rw [e] at p
    intro W1 v H1 x1 h1 r1
    cases d with
    | int i => cases r1; exact ⟨i, rfl, p W1 H1 x1 h1⟩
    | _ => exact p.elim
theorem ge_slice {lo hi : Option Expr} {ml mh : MO?} {p2 : Pos} (ha : GE X Wx ea ma) (hl : GO X Wx lo ml) (hh : GO X Wx hi mh) : GE X Wx (.Subscript ea (.Slice lo hi none p2) pos) (mSl ma ml mh) := by
  refine (pe_slice ((sl_list.or sl_tupA).or sl_str) ha hl hh).imp fun sh H Q ⟨W, sl, st, hr, hs, p⟩ => ?_
  refine rd_bind hr hs p fun d1 st1 W1 v1 H1 e1 x1 h1 s1 r1 p1 => ?_
  refine ⟨W1, sl, st1, h1, s1, ?_⟩
  cases e2 : ml sl st1 with
  | bad => rw [e2] at p1; exact p1
  | exc x st => rw [e2] at p1; exact p1
  | ok l st2 =>
    rw [e2] at p1
    intro W2 H2 x2 h2
    refine ⟨W2, sl, st2, h2, s1.ext x2, ?_⟩
    have p2' := Post.ext x2 p1
    simp only [R.bind_ok] at p2'
    cases e3 : mh sl st2 with
    | bad => rw [e3] at p2'; exact p2'
    | exc x st => rw [e3] at p2'; exact p2'
    | ok h st3 =>
      rw [e3] at p2'
      intro W3 H3 x3 h3
      have p3 := Post.ext x3 p2'
      simp only [R.bind_ok] at p3
      have r3 := x3.rep (x2.rep r1)
      unfold fSl at p3
      split at p3
      · rename_i ds
        obtain ⟨a, xs, q1, q2, q3⟩ := r3
        subst q1
        refine .inl (.inr ⟨a, xs, rfl, .inl (.inl (h3.sub _ _ q2)), fun hw => ?_, fun _ => p3.tup h3 (cut_rep q3 l h)⟩)
        rw [repL_length q3] at hw
        rw [cut_whole hw] at p3
        exact p3.val h3 ⟨a, xs, rfl, q2, q3⟩
      · rename_i i
        rcases rep_dict r3 with ⟨r, a, f1, f2, f3⟩ | ⟨ds', a, xs, f1, _, _⟩ | ⟨ds', a, xs, f1, _, _⟩ | ⟨ae, ade, ce, nse, fse, he⟩
        rotate_left
        · cases f1
        · cases f1
        · cases he
        have ei : i = (r : Int) := by injection f1 with q1 _; injection q1 with q2 _; injection q2
        subst ei
        rw [Int.toNat_natCast] at p3
        obtain ⟨m, hm, _, ho⟩ := h3.at f3
        rw [hm] at p3
        cases m with
        | lst ds =>
          obtain ⟨xs, g1, g2⟩ := ho
          exact .inl (.inl ⟨a, xs, f2, .inl (.inl g1), p3.lst h3 (cut_rep g2 l h)⟩)
        | ro ds =>
          obtain ⟨o, xs, g1, g2⟩ := ho
          exact .inl (.inl ⟨a, xs, f2, .inl (.inr ⟨o, g1⟩), p3.lst h3 (cut_rep g2 l h)⟩)
        | dct _ => exact p3.elim
        | dctT _ => exact p3.elim
        | tb _ _ => exact p3.elim
      · rename_i ds
        obtain ⟨a, xs, q1, q2, q3⟩ := r3
        exact .inl (.inl ⟨a, xs, q1, .inl (.inl (h3.sub _ _ q2)), p3.lst h3 (cut_rep q3 l h)⟩)
      · rename_i ds
        obtain ⟨a, xs, q1, q2, q3⟩ := r3
        exact .inl (.inl ⟨a, xs, q1, sqL_mono h3.sub q2, p3.lst h3 (cut_rep q3 l h)⟩)
      · rename_i z
        split at p3
        · rename_i hz; cases r3; exact .inr ⟨z, rfl, hz, p3.val h3 rfl⟩
        · exact p3.elim
      · exact p3.elim
end
section
variable {X : Cx} {Wx : WX} {ea eb e : Expr} {ma mb mc : M} {pos p : Pos} {x : Str}
theorem ge_callB1 {id : String} {r : List V → Hp → VK → Prop} {f : F1} (hc : CallR X (.builtin id) r) (nx : ∀ x st ex s2, f x st ≠ .exc ex s2) (ok : Ok1 (nv X) (fun x H Q => r [x] H Q) f) (hg : Gl X x) (hm : X.mg x = none) (hv : bootBuiltins x = some (.builtin id))
    (ha : GE X Wx ea ma) (hn : x ≠ "__name__") (hdb : (x == ("__debug__" : Str)) = false)
    (he : starEach (ea :: []) X.env = (false, eval ea X.env) :: starEach [] X.env := by rfl) (hpl : (backTo pos (starEach [] X.env)).any (·.1) = false := by rfl) : GE X Wx (.Call (.Name x p) [ea] [] pos) (mOp1 f ma) :=
  ge_op1 nx ok (pe_callB hc hg hm hv (pa_cons ha pa_nil he) hn hdb he hpl)
theorem ge_callT1 {T : String} {r : List V → Hp → VK → Prop} {f : F1} (hc : CallR X (.type T) r) (nx : ∀ x st ex s2, f x st ≠ .exc ex s2) (ok : Ok1 (nv X) (fun x H Q => r [x] H Q) f) (hg : Gl X x) (hm : X.mg x = none) (hv : bootBuiltins x = some (.type T))
    (ha : GE X Wx ea ma) (hn : x ≠ "__name__") (hdb : (x == ("__debug__" : Str)) = false)
    (he : starEach (ea :: []) X.env = (false, eval ea X.env) :: starEach [] X.env := by rfl) (hpl : (backTo pos (starEach [] X.env)).any (·.1) = false := by rfl) : GE X Wx (.Call (.Name x p) [ea] [] pos) (mOp1 f ma) :=
  ge_op1 nx ok (pe_callTy hc hg hm hv (pa_cons ha pa_nil he) hn hdb he hpl)
def dLen : D → Option D
  | .list ds => some (.int ds.length)
  | .tuple ds => some (.int ds.length)
  | .dict [(.none, .list ds)] => some (.int ds.length)
  | .str z => if z.length ≤ sizeLine then some (.int z.length) else none
  | _ => none
def fLen : F1 := onD1 dLen
def mLen : M → M := mOp1 fLen
theorem ge_len (hm : X.mg "len" = none) (ha : GE X Wx ea ma) (hg : Gl X "len" := by rfl)
    (he : starEach (ea :: []) X.env = (false, eval ea X.env) :: starEach [] X.env := by rfl) (hpl : (backTo pos (starEach [] X.env)).any (·.1) = false := by rfl) : GE X Wx (.Call (.Name "len" p) [ea] [] pos) (mLen ma) := by
  refine ge_callB1 call_len onD1_nx ?_ hg hm PySem.boot_len ha (by decide +kernel) (by decide +kernel) he hpl
  intro W H st x dx Q hr rx p
  obtain ⟨d, e, p⟩ := onD1_post p
  cases hx : deref st dx with
  | list ds => rw [hx] at e; cases e; obtain ⟨a, xs, e1, e2, l⟩ := rep_dlist hr rx hx; subst e1; exact ⟨_, ds.length, rfl, .inl ⟨xs, .inl (.inl e2), (repL_length l).symm⟩, p.val hr rfl⟩
  | tuple ds => rw [hx] at e; cases e; obtain ⟨a, xs, e1, e2, l⟩ := rep_dtuple hr rx hx; subst e1; exact ⟨_, ds.length, rfl, .inr ⟨xs, e2, (repL_length l).symm⟩, p.val hr rfl⟩
  | str z =>
    rw [hx] at e
    simp only [dLen] at e
    split at e
    · rename_i hl; cases e; rw [rep_dstr hr rx hx]; exact ⟨_, z.length, rfl, ⟨hl, rfl⟩, p.val hr rfl⟩
    · cases e
  | dict kvs =>
    rw [hx] at e
    unfold dLen at e
    split at e
    · rename_i q; cases q
    · rename_i q; cases q
    · rename_i q; cases q; cases e; obtain ⟨a, xs, e1, e2, l⟩ := rep_dgs hr rx hx; subst e1; exact ⟨_, _, rfl, .inl ⟨xs, e2, (repL_length l).symm⟩, p.val hr rfl⟩
    · rename_i q; cases q
    · cases e
  | _ => rw [hx] at e; cases e
def dInt : D → Option D
  | .int i => some (.int i)
  | .bool k => some (.int (if k then 1 else 0))
  | .str a => if a.length ≤ 640 then (PySem.intText? a).map .int else none
  | _ => none
def mInt : M → M := mOp1 (onD1 dInt)
theorem CallR.or {f : Value} {r r' : List V → Hp → VK → Prop} (h : CallR X f r) (h' : CallR X f r') : CallR X f (fun xs H Q => r xs H Q ∨ r' xs H Q) := by
  intro pins s σ H xs us Q I rx q
  rcases q with q | q
  · exact h pins s σ H xs us Q I rx q
  · exact h' pins s σ H xs us Q I rx q
theorem ge_toint (hm : X.mg "int" = none) (ha : GE X Wx ea ma) (hg : Gl X "int" := by rfl)
    (he : starEach (ea :: []) X.env = (false, eval ea X.env) :: starEach [] X.env := by rfl) (hpl : (backTo pos (starEach [] X.env)).any (·.1) = false := by rfl) : GE X Wx (.Call (.Name "int" p) [ea] [] pos) (mInt ma) := by
  refine ge_callT1 (CallR.or call_int1 call_int_str) onD1_nx ?_ hg hm PyProof.Rows.boot_int ha (by decide +kernel) (by decide +kernel) he hpl
  intro W H st x dx Q hr rx p
  obtain ⟨d, e, p⟩ := onD1_post p
  cases hx : deref st dx with
  | int i => rw [hx] at e; cases e; rw [rep_dint hr rx hx]; exact .inl (.inl ⟨i, rfl, p.val hr rfl⟩)
  | bool i => rw [hx] at e; cases e; rw [rep_dbool hr rx hx]; exact .inl (.inr ⟨i, rfl, p.val hr rfl⟩)
  | str z =>
    rw [hx] at e
    simp only [dInt] at e
    split at e
    · rename_i hl
      obtain ⟨n, e1, e2⟩ := Option.map_eq_some_iff.mp e
      subst e2
      rw [rep_dstr hr rx hx]; exact .inr ⟨z, n, rfl, e1, hl, p.val hr rfl⟩
    · cases e
  | _ => rw [hx] at e; cases e
def dTuple : D → Option D
  | .list ds => some (.tuple ds)
  | _ => none
def fTuple : F1 := fun x st => match x with | .tuple ds => .ok (.tuple ds) st | _ => onD1 dTuple x st
theorem fTuple_nx (x : D) (st : Sto) (ex : XV) (s2 : Sto) : fTuple x st ≠ .exc ex s2 := by
  unfold fTuple; split
  · simp
  · exact onD1_nx _ _ _ _
def mTuple : M → M := mOp1 fTuple
theorem ge_totuple (hm : X.mg "tuple" = none) (ha : GE X Wx ea ma) (hg : Gl X "tuple" := by rfl)
    (he : starEach (ea :: []) X.env = (false, eval ea X.env) :: starEach [] X.env := by rfl) (hpl : (backTo pos (starEach [] X.env)).any (·.1) = false := by rfl) : GE X Wx (.Call (.Name "tuple" p) [ea] [] pos) (mTuple ma) := by
  refine ge_callT1 call_tuple_of fTuple_nx ?_ hg hm (by decide +kernel) ha (by decide +kernel) (by decide +kernel) he hpl
  intro W H st x dx Q hr rx p
  unfold fTuple at p
  split at p
  · rename_i ds
    obtain ⟨a, xs, q1, q2, q3⟩ := rx
    subst q1
    exact ⟨a, xs, rfl, .inr ⟨.inl (.inl (hr.sub _ _ q2)), p.val hr ⟨a, xs, rfl, q2, q3⟩⟩⟩
  · obtain ⟨d, e, p⟩ := onD1_post p
    cases hx : deref st dx with
    | list ds => rw [hx] at e; cases e; obtain ⟨a, xs, e1, e2, l⟩ := rep_dlist hr rx hx; subst e1; exact ⟨a, xs, rfl, .inl ⟨.inl (.inl e2), p.tup hr l⟩⟩
    | _ => rw [hx] at e; cases e
def dList : D → Option D
  | .list ds => some (.list ds)
  | .tuple ds => some (.list ds)
  | _ => none
def mList : M → M := mOp1 (onD1 dList)
theorem ge_tolist (hm : X.mg "list" = none) (ha : GE X Wx ea ma) (hg : Gl X "list" := by rfl)
    (he : starEach (ea :: []) X.env = (false, eval ea X.env) :: starEach [] X.env := by rfl) (hpl : (backTo pos (starEach [] X.env)).any (·.1) = false := by rfl) : GE X Wx (.Call (.Name "list" p) [ea] [] pos) (mList ma) := by
  refine ge_callT1 call_list_of onD1_nx ?_ hg hm (by decide +kernel) ha (by decide +kernel) (by decide +kernel) he hpl
  intro W H st x dx Q hr rx p
  obtain ⟨d, e, p⟩ := onD1_post p
  cases hx : deref st dx with
  | list ds => rw [hx] at e; cases e; obtain ⟨a, xs, e1, e2, l⟩ := rep_dlist hr rx hx; subst e1; exact ⟨a, xs, rfl, .inl (.inl (.inl e2)), p.lst hr l⟩
  | tuple ds => rw [hx] at e; cases e; obtain ⟨a, xs, e1, e2, l⟩ := rep_dtuple hr rx hx; subst e1; exact ⟨a, xs, rfl, .inr e2, p.lst hr l⟩
  | _ => rw [hx] at e; cases e
/-- the truth values of a list -/
def boolsOf : List D → Option (List Bool)
  | [] => some []
  | .bool b :: ds => (boolsOf ds).map (b :: ·)
  | _ => none
def dAll : D → Option D
  | .list ds => (boolsOf ds).map fun bs => .bool (bs.all id)
  | _ => none
def dAny : D → Option D
  | .list ds => (boolsOf ds).map fun bs => .bool (bs.any id)
  | _ => none
def mAll : M → M := mOp1 (onD1 dAll)
def mAny : M → M := mOp1 (onD1 dAny)
end
end Pv
set_option Elab.async false
set_option linter.all false
set_option maxRecDepth 100000
set_option maxHeartbeats 4000000
namespace Pv
open PySem PySem.Spec L2
open PyProof.Rows hiding St
inductive RS where
  | nx (sl : Sl) (st : Sto) | rt (d : D) (st : Sto) | bk (sl : Sl) (st : Sto) | ct (sl : Sl) (st : Sto) | exc (x : XV) (st : Sto) | bad
abbrev MS := Sl → Sto → RS
def PostS (N : Nv) (n : Nat) (Wx : WX) (W : Wd) (H : Hp) (D : Ends) : RS → Prop
  | .nx sl st => ∀ W' sh' H', sh'.length = n → Ext W H W' H' → HR N.K W' H' st → SR N.K W' sh' sl → D.nx sh' H'
  | .bk sl st => ∀ W' sh' H', sh'.length = n → Ext W H W' H' → HR N.K W' H' st → SR N.K W' sh' sl → D.bk sh' H'
  | .ct sl st => ∀ W' sh' H', sh'.length = n → Ext W H W' H' → HR N.K W' H' st → SR N.K W' sh' sl → D.ct sh' H'
  | .rt d st => ∀ W' v H', Ext W H W' H' → HR N.K W' H' st → rep N.K W' v d → D.rt v H'
  | .exc x st => ∀ W' (sh' : L2.St) cls dd H', sh'.length = n → Ext W H W' H' → HR N.K W' H' st → repX N W' H' cls dd x → Wx cls dd sh' H'
  | .bad => False
def rdS (N : Nv) (Wx : WX) (m : MS) : TS := fun D sh H => ∃ W sl st, HR N.K W H st ∧ SR N.K W sh sl ∧ PostS N sh.length Wx W H D (m sl st)
def GS (X : Cx) (Wx : WX) (s : Stmt) (m : MS) : Prop := PS X s (rdS (nv X) Wx m)
def GSs (X : Cx) (Wx : WX) (s : List Stmt) (m : MS) : Prop := PSs X s (rdS (nv X) Wx m)
def RS.bind (r : RS) (f : Sl → Sto → RS) : RS := match r with | .nx sl st => f sl st | r => r
@[simp] theorem RS.bind_nx (sl : Sl) (st : Sto) (f : Sl → Sto → RS) : (RS.nx sl st).bind f = f sl st := rfl
@[simp] theorem RS.bind_rt (d : D) (st : Sto) (f : Sl → Sto → RS) : (RS.rt d st).bind f = .rt d st := rfl
@[simp] theorem RS.bind_bk (sl : Sl) (st : Sto) (f : Sl → Sto → RS) : (RS.bk sl st).bind f = .bk sl st := rfl
@[simp] theorem RS.bind_ct (sl : Sl) (st : Sto) (f : Sl → Sto → RS) : (RS.ct sl st).bind f = .ct sl st := rfl
@[simp] theorem RS.bind_exc (x : XV) (st : Sto) (f : Sl → Sto → RS) : (RS.exc x st).bind f = .exc x st := rfl
@[simp] theorem RS.bind_bad (f : Sl → Sto → RS) : RS.bad.bind f = .bad := rfl
/-- a value is reckoned, then the statement goes on -/
def R.thenS {α : Type} (r : R α) (f : α → Sto → RS) : RS := match r with | .ok a st => f a st | .exc x st => .exc x st | .bad => .bad
@[simp] theorem R.thenS_ok {α : Type} (a : α) (st : Sto) (f : α → Sto → RS) : (R.ok a st).thenS f = f a st := rfl
@[simp] theorem R.thenS_exc {α : Type} (x : XV) (st : Sto) (f : α → Sto → RS) : (R.exc x st : R α).thenS f = .exc x st := rfl
@[simp] theorem R.thenS_bad {α : Type} (f : α → Sto → RS) : (R.bad : R α).thenS f = .bad := rfl
section
variable {X : Cx} {Wx : WX} {N : Nv} {W W' : Wd} {H H' : Hp} {st : Sto} {sl : Sl} {sh : L2.St} {n : Nat} {D D' : Ends}
theorem PostS.ext {r : RS} (e : Ext W H W' H') (h : PostS N n Wx W H D r) : PostS N n Wx W' H' D r := by
  cases r with
  | nx sl st => exact fun W2 s2 H2 l e2 a b => h W2 s2 H2 l (e.trans e2) a b
  | bk sl st => exact fun W2 s2 H2 l e2 a b => h W2 s2 H2 l (e.trans e2) a b
  | ct sl st => exact fun W2 s2 H2 l e2 a b => h W2 s2 H2 l (e.trans e2) a b
  | rt d st => exact fun W2 s2 H2 e2 a b => h W2 s2 H2 (e.trans e2) a b
  | exc x st => exact fun W2 s2 c dd H2 l e2 a b => h W2 s2 c dd H2 l (e.trans e2) a b
  | bad => exact h
theorem rd_bindS {m : M} {f : Pv.D → Sto → RS} {Q2 : VK} (hr : HR N.K W H st) (hs : SR N.K W sh sl)
    (h : PostS N sh.length Wx W H D ((m sl st).thenS f))
    (k : ∀ d st1 W1 v H1, m sl st = .ok d st1 → Ext W H W1 H1 → HR N.K W1 H1 st1 → SR N.K W1 sh sl → rep N.K W1 v d → PostS N sh.length Wx W1 H1 D (f d st1) → Q2 v H1) : rd N Wx m sh H Q2 := by
  refine ⟨W, sl, st, hr, hs, ?_⟩
  cases e : m sl st with
  | ok d st1 => rw [e] at h; exact fun W1 v H1 e1 h1 r1 => k d st1 W1 v H1 e e1 h1 (hs.ext e1) r1 (PostS.ext e1 h)
  | exc x st1 => rw [e] at h; exact fun W1 c dd H1 e1 a b => h W1 sh c dd H1 rfl e1 a b
  | bad => rw [e] at h; exact h
theorem rdT_bindS {m : MT} {f : Bool → Sto → RS} {Q2 : Bool → Hp → Prop} (hr : HR N.K W H st) (hs : SR N.K W sh sl)
    (h : PostS N sh.length Wx W H D ((m sl st).thenS f))
    (k : ∀ b st1 W1 H1, m sl st = .ok b st1 → Ext W H W1 H1 → HR N.K W1 H1 st1 → SR N.K W1 sh sl → PostS N sh.length Wx W1 H1 D (f b st1) → Q2 b H1) : rdT N Wx m sh H Q2 := by
  refine ⟨W, sl, st, hr, hs, ?_⟩
  cases e : m sl st with
  | ok d st1 => rw [e] at h; exact fun W1 H1 e1 h1 => k d st1 W1 H1 e e1 h1 (hs.ext e1) (PostS.ext e1 h)
  | exc x st1 => rw [e] at h; exact fun W1 c dd H1 e1 a b => h W1 sh c dd H1 rfl e1 a b
  | bad => rw [e] at h; exact h
/-- one after another -/
def sSeq (a b : MS) : MS := fun sl st => (a sl st).bind b
def sNil : MS := fun sl st => .nx sl st
theorem gss_nil : GSs X Wx [] sNil := pss_nil.imp fun D sh H ⟨W, sl, st, hr, hs, p⟩ => p W sh H rfl .refl hr hs
theorem gss_one {s : Stmt} {a : MS} (h : GS X Wx s a) : GSs X Wx [s] a := pss_one h
theorem gss_cons {s : Stmt} {r : List Stmt} {a b : MS} (h : GS X Wx s a) (hr : GSs X Wx r b) : GSs X Wx (s :: r) (sSeq a b) := by
  refine (pss_cons h hr).imp fun D sh H ⟨W, sl, st, hr, hs, p⟩ => ?_
  refine ⟨W, sl, st, hr, hs, ?_⟩
  unfold sSeq at p
  cases e : a sl st with
  | nx sl1 st1 =>
    rw [e] at p
    intro W1 sh1 H1 l1 e1 h1 s1
    have q := PostS.ext e1 p
    rw [← l1] at q
    exact ⟨W1, sl1, st1, h1, s1, q⟩
  | rt d st1 => rw [e] at p; exact p
  | bk a b => rw [e] at p; exact p
  | ct a b => rw [e] at p; exact p
  | exc a b => rw [e] at p; exact p
  | bad => rw [e] at p; exact p
abbrev MG := Pv.D → Sl → Sto → R Sl
abbrev MGs := List Pv.D → Sl → Sto → R Sl
def PostG (N : Nv) (n : Nat) (Wx : WX) (W : Wd) (H : Hp) (Q : L2.St → Hp → Prop) : R Sl → Prop
  | .ok sl st => ∀ W' sh' H', sh'.length = n → Ext W H W' H' → HR N.K W' H' st → SR N.K W' sh' sl → Q sh' H'
  | .exc x st => ∀ W' (sh' : L2.St) cls dd H', sh'.length = n → Ext W H W' H' → HR N.K W' H' st → repX N W' H' cls dd x → Wx cls dd sh' H'
  | .bad => False
theorem PostG.ext {Q : L2.St → Hp → Prop} {r : R Sl} (e : Ext W H W' H') (h : PostG N n Wx W H Q r) : PostG N n Wx W' H' Q r := by
  cases r with
  | ok sl st => exact fun W2 s2 H2 l e2 a b => h W2 s2 H2 l (e.trans e2) a b
  | exc x st => exact fun W2 s2 c dd H2 l e2 a b => h W2 s2 c dd H2 l (e.trans e2) a b
  | bad => exact h
def rdG (N : Nv) (Wx : WX) (t : MG) : TG := fun v sh H Q => ∃ W sl st d, HR N.K W H st ∧ SR N.K W sh sl ∧ rep N.K W v d ∧ PostG N sh.length Wx W H Q (t d sl st)
def GG (X : Cx) (Wx : WX) (tg : Expr) (t : MG) : Prop := PG X tg (rdG (nv X) Wx t)
theorem _root_.L2.PG.imp {X : Cx} {e : Expr} {t t' : TG} (h : PG X e t) (i : ∀ v σ H Q, t' v σ H Q → t v σ H Q) : PG X e t' := ⟨fun pins s σ H v u Q I r q => h.run pins s σ H v u Q I r (i v σ H Q q)⟩
def rdGs (N : Nv) (Wx : WX) (t : MGs) : TGs := fun vs sh H Q => ∃ W sl st ds, HR N.K W H st ∧ SR N.K W sh sl ∧ repL N.K W vs ds ∧ PostG N sh.length Wx W H Q (t ds sl st)
def GGs (X : Cx) (Wx : WX) (tgs : List Expr) (t : MGs) : Prop := PGs X tgs (rdGs (nv X) Wx t)
theorem _root_.L2.PGs.imp {X : Cx} {e : List Expr} {t t' : TGs} (h : PGs X e t) (i : ∀ v σ H Q, t' v σ H Q → t v σ H Q) : PGs X e t' := ⟨fun pins s σ H v u Q I r q => h.run pins s σ H v u Q I r (i v σ H Q q)⟩
def tgName (i : Nat) : MG := fun d sl st => .ok (sl.set i (some d)) st
def tgNil : MGs := fun ds sl st => match ds with | [] => .ok sl st | _ => .bad
def tgCons (a : MG) (r : MGs) : MGs := fun ds sl st => match ds with | d :: ds => (a d sl st).bind (r ds) | _ => .bad
/-- a tuple's (or a list's) items, one for each target -/
def tgTup (n : Nat) (t : MGs) : MG := fun d sl st => match d with | .tuple ds => if ds.length = n then t ds sl st else .bad | _ => .bad
theorem gg_name {x : Str} {pos : Pos} (g : Gd0 X) (i : Nat) (hi : X.N[i]? = some x := by rfl) (hx : Loc X.env.scope x := by first | exact Or.inl rfl | exact Or.inr rfl) (hf : X.fn x = true ∨ X.env.scope.names.lookup x = some .local := by first | exact .inl rfl | exact .inr rfl) : GG X Wx (.Name x pos) (tgName i) := by
  refine (pg_name g.nd hi hx hf).imp fun v sh H Q ⟨W, sl, st, d, hr, hs, r, p⟩ => ?_
  exact p W _ H (by simp) .refl hr (hs.set i r)
theorem ggs_nil : GGs X Wx [] tgNil := by
  refine pgs_nil.imp fun vs sh H Q ⟨W, sl, st, ds, hr, hs, r, p⟩ => ?_
  cases ds with
  | nil => cases r; exact ⟨rfl, p W _ H rfl .refl hr hs⟩
  | cons _ _ => exact p.elim
theorem ggs_cons {e : Expr} {es : List Expr} {a : MG} {r : MGs} (ha : GG X Wx e a) (hr : GGs X Wx es r) (h : (assignEach (e :: es) X.env).map (·.2) = assign e X.env :: (assignEach es X.env).map (·.2) := by rfl) : GGs X Wx (e :: es) (tgCons a r) := by
  refine (pgs_cons ha hr h).imp fun vs sh H Q ⟨W, sl, st, ds, hr, hs, rl, p⟩ => ?_
  cases ds with
  | nil => exact p.elim
  | cons d ds =>
    obtain ⟨v, us, e, r1, l1⟩ := rl
    refine ⟨v, us, e, W, sl, st, d, hr, hs, r1, ?_⟩
    unfold tgCons at p
    simp only at p
    cases q : a d sl st with
    | ok sl1 st1 =>
      rw [q] at p
      intro W1 sh1 H1 ln e1 h1 s1
      have p1 := PostG.ext e1 p
      rw [← ln] at p1
      exact ⟨W1, sl1, st1, ds, h1, s1, e1.repL l1, p1⟩
    | exc a b => rw [q] at p; exact p
    | bad => rw [q] at p; exact p
theorem gg_tup {es : List Expr} {k n : Nat} {t : MGs} {pos : Pos} (g : Gd X) (h : GGs X Wx es t) (hn : (assignEach es X.env).length = n := by rfl) (hst : (assignEach es X.env).findIdx? (·.1) = none := by rfl) : GG X Wx (.Tuple es k pos) (tgTup n t) := by
  refine (pg_tup g.calm h hn hst).imp fun v sh H Q ⟨W, sl, st, d, hr, hs, r, p⟩ => ?_
  unfold tgTup at p
  split at p
  · rename_i ds
    split at p
    · rename_i hl
      obtain ⟨a, xs, e, f, l⟩ := r
      exact ⟨a, xs, e, .inl (.inl (hr.sub _ _ f)), by rw [repL_length l]; exact hl, W, sl, st, ds, hr, hs, l, p⟩
    · exact p.elim
  · exact p.elim
/-- o[i] = v, the store behind it -/
def setO (st : Sto) (o i v : Pv.D) : Option Sto :=
  match o with
  | .dict [(.int r, .none)] => (match st[r.toNat]? with
    | some (.dct kvs) => if kvs.length < sizeLine then (keyOf i).map fun k => st.set r.toNat (.dct (putD kvs k v)) else none
    | some (.dctT kvs) => (match i with | .tuple ds => if kvs.length < sizeLine then (keysOf ds).map fun k => st.set r.toNat (.dctT (putD kvs k v)) else none | _ => none)
    | some (.lst ds) => (match i with | .int k => (ixN ds.length k).map fun j => st.set r.toNat (.lst (ds.set j v)) | _ => none)
    | _ => none)
  | _ => none
theorem setO_rep {o i v : V} {od id vd : Pv.D} {st' : Sto} (hr : HR N.K W H st) (ro : rep N.K W o od) (ri : rep N.K W i id) (rv : rep N.K W v vd) (e : setO st od id vd = some st') :
    ∃ H', Ext W H W H' ∧ HR N.K W H' st' ∧ ∀ Q : Hp → Prop, Q H' → rSetL o i v H Q ∨ rSetD o i v H Q := by
  unfold setO at e
  split at e
  · rename_i j
    rcases rep_dict ro with ⟨r, a, e1, e2, e3⟩ | ⟨ds', a, xs, e1, _, _⟩ | ⟨ds', a, xs, e1, _, _⟩ | ⟨ae, ade, ce, nse, fse, he⟩
    rotate_left
    · cases e1
    · cases e1
    · cases he
    have ei : j = (r : Int) := by injection e1 with q1 _; injection q1 with q2 _; injection q2
    subst ei
    rw [Int.toNat_natCast] at e
    obtain ⟨m, hm, _, ho⟩ := hr.at e3
    rw [hm] at e
    subst e2
    cases m with
    | dct kvs =>
      obtain ⟨ks, h1, h2⟩ := ho
      simp only at e
      split at e
      · rename_i hl
        obtain ⟨k, hk, eo⟩ := Option.map_eq_some_iff.mp e
        subst eo
        have := keyOf_rep ri hk
        subst this
        obtain ⟨h3, x3⟩ := hr.set (o := .dK (putK ks k v)) (m := .dct (putD kvs k vd)) e3 hm ⟨_, upd_same, put_rep h2 k rv⟩
        exact ⟨_, x3, h3, fun Q q => .inr ⟨a, _, rfl, .inl ⟨ks, k, h1, rfl, by rw [repP_length h2]; exact hl, rfl⟩, q⟩⟩
      · cases e
    | dctT kvs =>
      obtain ⟨ks, h1, h2⟩ := ho
      simp only at e
      split at e
      · rename_i ds
        split at e
        · rename_i hl
          obtain ⟨k, hk, eo⟩ := Option.map_eq_some_iff.mp e
          subst eo
          obtain ⟨b, xs, q1, q2, q3⟩ := ri
          subst q1
          have := keysOf_rep q3 hk
          subst this
          obtain ⟨h3, x3⟩ := hr.set (o := .dT (putK ks k v)) (m := .dctT (putD kvs k vd)) e3 hm ⟨_, upd_same, put_rep h2 k rv⟩
          exact ⟨_, x3, h3, fun Q q => .inr ⟨a, _, rfl, .inr ⟨ks, k, b, h1, rfl, hr.sub _ _ q2, by rw [repP_length h2]; exact hl, rfl⟩, q⟩⟩
        · cases e
      · cases e
    | lst ds =>
      obtain ⟨xs, h1, h2⟩ := ho
      simp only at e
      split at e
      · rename_i k
        obtain ⟨j, hj, eo⟩ := Option.map_eq_some_iff.mp e
        subst eo
        cases ri
        obtain ⟨h3, x3⟩ := hr.set (o := .lst (xs.set j v)) (m := .lst (ds.set j vd)) e3 hm ⟨_, upd_same, repL_set j h2 rv⟩
        exact ⟨_, x3, h3, fun Q q => .inl ⟨a, xs, k, j, rfl, rfl, h1, by rw [repL_length h2]; exact hj, q⟩⟩
      · cases e
    | ro ds => cases e
    | tb _ _ => cases e
  · cases e
theorem PSet.or {t t' : TSet} (h : PSet X t) (h' : PSet X t') : PSet X (fun o i v H Q => t o i v H Q ∨ t' o i v H Q) := by
  intro pins s σ H o i v ov iv u Q I ro ri rv q
  rcases q with q | q
  · exact h pins s σ H o i v ov iv u Q I ro ri rv q
  · exact h' pins s σ H o i v ov iv u Q I ro ri rv q
def tgSub (mo mi : M) : MG := fun d sl st => (mo sl st).bind fun o st => (mi sl st).bind fun i st => match setO st o i d with | some st' => .ok sl st' | none => .bad
theorem rd_bindG {m : M} {f : Pv.D → Sto → R Sl} {Q : L2.St → Hp → Prop} {Q2 : VK} (hr : HR N.K W H st) (hs : SR N.K W sh sl)
    (h : PostG N sh.length Wx W H Q ((m sl st).bind f))
    (k : ∀ d st1 W1 v H1, m sl st = .ok d st1 → Ext W H W1 H1 → HR N.K W1 H1 st1 → SR N.K W1 sh sl → rep N.K W1 v d → PostG N sh.length Wx W1 H1 Q (f d st1) → Q2 v H1) : rd N Wx m sh H Q2 := by
  refine ⟨W, sl, st, hr, hs, ?_⟩
  cases e : m sl st with
  | ok d st1 => rw [e] at h; exact fun W1 v H1 e1 h1 r1 => k d st1 W1 v H1 e e1 h1 (hs.ext e1) r1 (PostG.ext e1 h)
  | exc x st1 => rw [e] at h; exact fun W1 c dd H1 e1 a b => h W1 sh c dd H1 rfl e1 a b
  | bad => rw [e] at h; exact h
theorem gg_sub {o i : Expr} {mo mi : M} {tpos : Pos} (g : Gd X) (ho : GE X Wx o mo) (hi : GE X Wx i mi) (ha : ∀ v, assign (.Subscript o i tpos) X.env v = (do
      let ov ← holding [v] (eval o X.env)
      let iv ← holding [v, ov] (eval i X.env)
      standAt tpos
      holding [v, ov, iv] (setItem ov iv v)
      release [v, ov, iv] []) := by intro _; rfl) : GG X Wx (.Subscript o i tpos) (tgSub mo mi) := by
  refine (pg_sub (ha := ha) ho hi (PSet.or set_list (set_dict (by have := g.un; omega)))).imp fun v sh H Q ⟨W, sl, st, d, hr, hs, r, p⟩ => ?_
  refine rd_bindG hr hs p fun d1 st1 W1 v1 H1 e1 x1 h1 s1 r1 p1 => ?_
  refine rd_bindG h1 s1 p1 fun d2 st2 W2 v2 H2 e2 x2 h2 s2 r2 p2 => ?_
  cases e : setO st2 d1 d2 d with
  | none => rw [e] at p2; exact p2.elim
  | some st3 =>
    rw [e] at p2
    obtain ⟨H3, x3, h3, k⟩ := setO_rep h2 (x2.rep r1) r2 (x2.rep (x1.rep r)) e
    exact k _ (p2 W2 sh H3 rfl x3 h3 (s2.ext x3))
/-- target = e -/
def sAsg (m : M) (t : MG) : MS := fun sl st => (m sl st).thenS fun d st => (t d sl st).thenS .nx
theorem PostG.of {r : R Sl} (p : PostS N n Wx W H D (r.thenS .nx)) : PostG N n Wx W H D.nx r := by
  cases r with
  | ok a b => exact p
  | exc a b => exact p
  | bad => exact p
theorem asg_read {m : M} {t : MG} (hr : HR N.K W H st) (hs : SR N.K W sh sl) (p : PostS N sh.length Wx W H D (sAsg m t sl st)) : tAsg (rd N Wx m) (rdG N Wx t) D sh H := by
  refine rd_bindS hr hs p fun d1 st1 W1 v1 H1 e1 x1 h1 s1 r1 p1 => ?_
  exact ⟨W1, sl, st1, d1, h1, s1, r1, .of p1⟩
theorem gs_asg {tg e : Expr} {m : M} {t : MG} {pos : Pos} (he : GE X Wx e m) (hg : GG X Wx tg t) (hs : swapsWithSole [tg] e pos.line X.env = pure false := by rfl) (hw : swappedStores [tg] e X.env = pure none := by rfl)
    (h1 : (assignEach [tg] X.env).map (·.2) = [assign tg X.env] := by rfl) : GS X Wx (.Assign [tg] e pos) (sAsg m t) :=
  (ps_asg he hg hs hw h1).imp fun D sh H ⟨W, sl, st, hr, hs, p⟩ => asg_read hr hs p
end
end Pv
set_option Elab.async false
set_option linter.all false
set_option maxRecDepth 100000
set_option maxHeartbeats 4000000
namespace Pv
open PySem PySem.Spec L2
open PyProof.Rows hiding St
section
variable {X : Cx} {Wx : WX} {N : Nv} {W W' : Wd} {H H' : Hp} {st : Sto} {sl : Sl} {sh : L2.St} {n : Nat} {D D' : Ends}
def set2 (i j : Nat) (sl : Sl) : List Pv.D → Sto → RS
  | [a, b], st => .nx ((sl.set i (some a)).set j (some b)) st
  | _, _ => .bad
def set3 (i j l : Nat) (sl : Sl) : List Pv.D → Sto → RS
  | [a, b, c], st => .nx (((sl.set i (some a)).set j (some b)).set l (some c)) st
  | _, _ => .bad
theorem set2_inv {i j : Nat} {ds : List Pv.D} {vs : List V} (hr : HR N.K W H st) (hs : SR N.K W sh sl) (r : repL N.K W vs ds) (p : PostS N sh.length Wx W H D (set2 i j sl ds st)) : ∃ v w, vs = [v, w] ∧ D.nx ((sh.set i (some v)).set j (some w)) H := by
  cases ds with
  | nil => exact p.elim
  | cons d ds =>
    cases ds with
    | nil => exact p.elim
    | cons e ds =>
      cases ds with
      | cons _ _ => exact p.elim
      | nil =>
        obtain ⟨v, us, q1, r, w, us2, q2, r2, q3⟩ := r
        subst q3; subst q2; subst q1
        exact ⟨v, w, rfl, p W _ H (by simp) .refl hr ((hs.set i r).set j r2)⟩
theorem set3_inv {i j l : Nat} {ds : List Pv.D} {vs : List V} (hr : HR N.K W H st) (hs : SR N.K W sh sl) (r : repL N.K W vs ds) (p : PostS N sh.length Wx W H D (set3 i j l sl ds st)) : ∃ u v w, vs = [u, v, w] ∧ D.nx (((sh.set i (some u)).set j (some v)).set l (some w)) H := by
  cases ds with
  | nil => exact p.elim
  | cons d ds =>
    cases ds with
    | nil => exact p.elim
    | cons e ds =>
      cases ds with
      | nil => exact p.elim
      | cons f ds =>
        cases ds with
        | cons _ _ => exact p.elim
        | nil =>
          obtain ⟨v, us, q1, r, w, us2, q2, r2, x, us3, q3, r3, q4⟩ := r
          subst q4; subst q3; subst q2; subst q1
          exact ⟨v, w, x, rfl, p W _ H (by simp) .refl hr (((hs.set i r).set j r2).set l r3)⟩
def sPar2 (i j : Nat) (ms : Ms) : MS := fun sl st => (ms sl st).thenS (set2 i j sl)
def sPar3 (i j l : Nat) (ms : Ms) : MS := fun sl st => (ms sl st).thenS (set3 i j l sl)
theorem rdL_bindS {m : Ms} {f : List Pv.D → Sto → RS} {Q2 : List V → Hp → Prop} (hr : HR N.K W H st) (hs : SR N.K W sh sl)
    (h : PostS N sh.length Wx W H D ((m sl st).thenS f))
    (k : ∀ ds st1 W1 vs H1, m sl st = .ok ds st1 → Ext W H W1 H1 → HR N.K W1 H1 st1 → SR N.K W1 sh sl → repL N.K W1 vs ds → PostS N sh.length Wx W1 H1 D (f ds st1) → Q2 vs H1) : rdL N Wx m sh H Q2 := by
  refine ⟨W, sl, st, hr, hs, ?_⟩
  cases e : m sl st with
  | ok d st1 => rw [e] at h; exact fun W1 v H1 e1 h1 r1 => k d st1 W1 v H1 e e1 h1 (hs.ext e1) r1 (PostS.ext e1 h)
  | exc x st1 => rw [e] at h; exact fun W1 c dd H1 e1 a b => h W1 sh c dd H1 rfl e1 a b
  | bad => rw [e] at h; exact h
theorem par2_read {i j : Nat} {ms : Ms} (hr : HR N.K W H st) (hs : SR N.K W sh sl) (p : PostS N sh.length Wx W H D (sPar2 i j ms sl st)) : tPar i j (rdL N Wx ms) D sh H :=
  rdL_bindS hr hs p fun ds st1 W1 vs H1 e1 x1 h1 s1 r1 p1 => set2_inv h1 s1 r1 p1
theorem par3_read {i j l : Nat} {ms : Ms} (hr : HR N.K W H st) (hs : SR N.K W sh sl) (p : PostS N sh.length Wx W H D (sPar3 i j l ms sl st)) : tPar3 i j l (rdL N Wx ms) D sh H :=
  rdL_bindS hr hs p fun ds st1 W1 vs H1 e1 x1 h1 s1 r1 p1 => set3_inv h1 s1 r1 p1
theorem gs_par2 {i j : Nat} {x y : Str} {a b : Expr} {ms : Ms} {px py pt pos : Pos} {kt k2 pt2} (g : Gd X) (ha : GA X Wx [a, b] ms) (hi : X.N[i]? = some x) (hj : X.N[j]? = some y) (hij : i ≠ j)
    (hx : X.env.scope.names.lookup x = some .local) (hy : X.env.scope.names.lookup y = some .local)
    (hw : swappedStores [.Tuple [.Name x px, .Name y py] kt pt] (.Tuple [a, b] k2 pt2) X.env = pure (some [x, y]))
    (hs : swapsWithSole [.Tuple [.Name x px, .Name y py] kt pt] (.Tuple [a, b] k2 pt2) pos.line X.env = pure false) :
    GS X Wx (.Assign [.Tuple [.Name x px, .Name y py] kt pt] (.Tuple [a, b] k2 pt2) pos) (sPar2 i j ms) :=
  PS.imp (ps_par g.calm g.nd hi hj hij hx hy ha hw hs) fun D sh H ⟨W, sl, st, hr, hs, p⟩ => par2_read hr hs p
theorem gs_par3 {i j l : Nat} {x y z : Str} {a b c : Expr} {ms : Ms} {px py pz pt pos : Pos} {kt k2 pt2} (g : Gd X) (ha : GA X Wx [a, b, c] ms) (hi : X.N[i]? = some x) (hj : X.N[j]? = some y) (hl : X.N[l]? = some z) (hij : i ≠ j) (hil : i ≠ l) (hjl : j ≠ l)
    (hx : X.env.scope.names.lookup x = some .local) (hy : X.env.scope.names.lookup y = some .local) (hz : X.env.scope.names.lookup z = some .local)
    (hw : swappedStores [.Tuple [.Name x px, .Name y py, .Name z pz] kt pt] (.Tuple [a, b, c] k2 pt2) X.env = pure (some [x, y, z]))
    (hs : swapsWithSole [.Tuple [.Name x px, .Name y py, .Name z pz] kt pt] (.Tuple [a, b, c] k2 pt2) pos.line X.env = pure false) :
    GS X Wx (.Assign [.Tuple [.Name x px, .Name y py, .Name z pz] kt pt] (.Tuple [a, b, c] k2 pt2) pos) (sPar3 i j l ms) :=
  PS.imp (ps_par3 g.calm g.nd hi hj hl hij hil hjl hx hy hz ha hw hs) fun D sh H ⟨W, sl, st, hr, hs, p⟩ => par3_read hr hs p
def sExpr (m : M) : MS := fun sl st => (m sl st).thenS fun _ st => .nx sl st
theorem gs_expr {e : Expr} {m : M} {pos : Pos} (he : GE X Wx e m) (hs : swapsWith e none pos.line X.env = pure false := by rfl) : GS X Wx (.Expr e pos) (sExpr m) := by
  refine PS.imp (ps_expr he hs) fun D sh H ⟨W, sl, st, hr, hs, p⟩ => ?_
  exact rd_bindS hr hs p fun d1 st1 W1 v1 H1 e1 x1 h1 s1 r1 p1 => p1 W1 sh H1 rfl .refl h1 s1
def sRet (m : M) : MS := fun sl st => (m sl st).thenS fun d st => .rt d st
theorem gs_ret {e : Expr} {m : M} {pos : Pos} (he : GE X Wx e m) : GS X Wx (.Return (some e) pos) (sRet m) := by
  refine PS.imp (ps_ret he) fun D sh H ⟨W, sl, st, hr, hs, p⟩ => ?_
  exact rd_bindS hr hs p fun d1 st1 W1 v1 H1 e1 x1 h1 s1 r1 p1 => p1 W1 v1 H1 .refl h1 r1
def sRetN : MS := fun sl st => .rt .none st
def sIf (t : MT) (a b : MS) : MS := fun sl st => (t sl st).thenS fun k st => if k = true then a sl st else b sl st
theorem gs_if {c : Expr} {p q : List Stmt} {t : MT} {a b : MS} {pos : Pos} (hc : GT X Wx c t) (ha : GSs X Wx p a) (hb : GSs X Wx q b) : GS X Wx (.If c p q pos) (sIf t a b) := by
  refine PS.imp (ps_if hc ha hb) fun D sh H ⟨W, sl, st, hr, hs, p⟩ => ?_
  refine rdT_bindS hr hs p fun k st1 W1 H1 e1 x1 h1 s1 p1 => ?_
  cases k with
  | true => rw [if_pos rfl] at p1 ⊢; exact ⟨W1, sl, st1, h1, s1, p1⟩
  | false => rw [if_neg Bool.false_ne_true] at p1 ⊢; exact ⟨W1, sl, st1, h1, s1, p1⟩
mutual
def sameD : Pv.D → Pv.D → Bool
  | .none, .none => true
  | .bool a, .bool b => a == b
  | .int a, .int b => decide (a = b)
  | .str a, .str b => decide (a = b)
  | .list a, .list b => sameL a b
  | .tuple a, .tuple b => sameL a b
  | .dict a, .dict b => sameP a b
  | _, _ => false
def sameL : List Pv.D → List Pv.D → Bool
  | [], [] => true
  | a :: as, b :: bs => sameD a b && sameL as bs
  | _, _ => false
def sameP : List (Pv.D × Pv.D) → List (Pv.D × Pv.D) → Bool
  | [], [] => true
  | (a, c) :: as, (b, d) :: bs => sameD a b && (sameD c d && sameP as bs)
  | _, _ => false
end
mutual
theorem sameD_eq : ∀ a b : Pv.D, sameD a b = true → a = b
  | .none, b, h => by cases b <;> first | rfl | cases h
  | .bool x, b, h => by cases b <;> first | (simp only [sameD, beq_iff_eq] at h; rw [h]) | cases h
  | .int x, b, h => by cases b <;> first | (simp only [sameD, decide_eq_true_eq] at h; rw [h]) | cases h
  | .str x, b, h => by cases b <;> first | (simp only [sameD, decide_eq_true_eq] at h; rw [h]) | cases h
  | .list x, b, h => by cases b <;> first | (simp only [sameD] at h; rw [sameL_eq _ _ h]) | cases h
  | .tuple x, b, h => by cases b <;> first | (simp only [sameD] at h; rw [sameL_eq _ _ h]) | cases h
  | .dict x, b, h => by cases b <;> first | (simp only [sameD] at h; rw [sameP_eq _ _ h]) | cases h
theorem sameL_eq : ∀ a b : List Pv.D, sameL a b = true → a = b
  | [], b, h => by cases b <;> first | rfl | cases h
  | x :: xs, b, h => by
    cases b with
    | nil => cases h
    | cons y ys =>
      simp only [sameL, Bool.and_eq_true] at h
      rw [sameD_eq _ _ h.1, sameL_eq _ _ h.2]
theorem sameP_eq : ∀ a b : List (Pv.D × Pv.D), sameP a b = true → a = b
  | [], b, h => by cases b <;> first | rfl | cases h
  | (x, z) :: xs, b, h => by
    cases b with
    | nil => cases h
    | cons y ys =>
      obtain ⟨y1, y2⟩ := y
      simp only [sameP, Bool.and_eq_true] at h
      rw [sameD_eq _ _ h.1, sameD_eq _ _ h.2.1, sameP_eq _ _ h.2.2]
end
mutual
theorem sameD_refl : ∀ a : Pv.D, sameD a a = true
  | .none => rfl
  | .bool x => by simp [sameD]
  | .int x => by simp [sameD]
  | .str x => by simp [sameD]
  | .list x => by simp only [sameD]; exact sameL_refl x
  | .tuple x => by simp only [sameD]; exact sameL_refl x
  | .dict x => by simp only [sameD]; exact sameP_refl x
theorem sameL_refl : ∀ a : List Pv.D, sameL a a = true
  | [] => rfl
  | x :: xs => by simp only [sameL, sameD_refl x, sameL_refl xs]; rfl
theorem sameP_refl : ∀ a : List (Pv.D × Pv.D), sameP a a = true
  | [] => rfl
  | (x, z) :: xs => by simp only [sameP, sameD_refl x, sameD_refl z, sameP_refl xs]; rfl
end
structure Src where
  items : List Pv.D
  /-- what must stay true of the store while the walk goes on -/
  keep : Sto → Prop
  [dec : DecidablePred keep]
instance (s : Src) : DecidablePred s.keep := s.dec
abbrev MI := Sl → Sto → R Src
def WalkK (K : PySem.W.Frag) (J : It) (W0 : Wd) (s : Src) : Prop := ∀ W H st, HR K W H st → (∀ b o, W0.F b = some o → W.F b = some o) → (∀ (r : Nat) a, W0.rho[r]? = some a → W.rho[r]? = some a) → s.keep st →
  J.stop s.items.length H ∧ ∀ i d, s.items[i]? = some d → J.go i H ∧ ∀ x H', J.yld i H x H' → ∃ W', Ext W H W' H' ∧ HR K W' H' st ∧ rep K W' x d
def PostI (N : Nv) (n : L2.St) (Wx : WX) (W : Wd) (H : Hp) (Q : It → Hp → Prop) : R Src → Prop
  | .ok s st => ∀ W' H' J, Ext W H W' H' → HR N.K W' H' st → WalkK N.K J W' s → Q J H'
  | .exc x st => ∀ W' cls dd H', Ext W H W' H' → HR N.K W' H' st → repX N W' H' cls dd x → Wx cls dd n H'
  | .bad => False
theorem PostI.ext {Q : It → Hp → Prop} {r : R Src} (e : Ext W H W' H') (h : PostI N sh Wx W H Q r) : PostI N sh Wx W' H' Q r := by
  cases r with
  | ok sl st => exact fun W2 H2 J e2 a b => h W2 H2 J (e.trans e2) a b
  | exc x st => exact fun W2 c dd H2 e2 a b => h W2 c dd H2 (e.trans e2) a b
  | bad => exact h
def rdI (N : Nv) (Wx : WX) (m : MI) : TI := fun sh H R => ∃ W sl st, HR N.K W H st ∧ SR N.K W sh sl ∧ PostI N sh Wx W H R (m sl st)
def GI (X : Cx) (Wx : WX) (tg e : Expr) (m : MI) : Prop := PI X tg e (rdI (nv X) Wx m)
theorem _root_.L2.PI.imp {tg e : Expr} {t t' : TI} (h : PI X tg e t) (i : ∀ σ H R, t' σ H R → t σ H R) : PI X tg e t' := ⟨fun pins s σ H R I q => h.run pins s σ H R I (i σ H R q)⟩
theorem _root_.L2.PI.or {tg e : Expr} {t t' : TI} (h : PI X tg e t) (h' : PI X tg e t') : PI X tg e (fun σ H R => t σ H R ∨ t' σ H R) := ⟨fun pins s σ H R I q => q.elim (h.run pins s σ H R I) (h'.run pins s σ H R I)⟩
theorem rd_bindI {m : M} {f : Pv.D → Sto → R Src} {Q : It → Hp → Prop} {Q2 : VK} (hr : HR N.K W H st) (hs : SR N.K W sh sl)
    (h : PostI N sh Wx W H Q ((m sl st).bind f))
    (k : ∀ d st1 W1 v H1, m sl st = .ok d st1 → Ext W H W1 H1 → HR N.K W1 H1 st1 → SR N.K W1 sh sl → rep N.K W1 v d → PostI N sh Wx W1 H1 Q (f d st1) → Q2 v H1) : rd N Wx m sh H Q2 := by
  refine ⟨W, sl, st, hr, hs, ?_⟩
  cases e : m sl st with
  | ok d st1 => rw [e] at h; exact fun W1 v H1 e1 h1 r1 => k d st1 W1 v H1 e e1 h1 (hs.ext e1) r1 (PostI.ext e1 h)
  | exc x st1 => rw [e] at h; exact h
  | bad => rw [e] at h; exact h
/-- the signs of a text -/
def signs (z : Str) : List Pv.D := z.cps.toList.map fun c => .str ⟨#[c]⟩
def always : Sto → Prop := fun _ => True
instance : DecidablePred always := fun _ => .isTrue trivial
def holdsLst (r : Nat) (ds : List Pv.D) : Sto → Prop := fun st => st[r]? = some (.lst ds)
def keptB (r : Nat) (ds : List Pv.D) (st : Sto) : Bool := match st[r]? with | some (.lst es) => sameL es ds | _ => false
theorem kept_iff (r : Nat) (ds : List Pv.D) (st : Sto) : keptB r ds st = true ↔ holdsLst r ds st := by
  unfold keptB holdsLst
  constructor
  · intro h
    split at h
    · rename_i es e; rw [e, sameL_eq es ds h]
    · cases h
  · intro h; rw [h]; exact sameL_refl ds
instance (r : Nat) (ds : List Pv.D) : DecidablePred (holdsLst r ds) := fun st => decidable_of_iff _ (kept_iff r ds st)
/-- the items that a for meets: a list's, a tuple's, a text's signs; a list that may change is not walked while it does -/
def srcOf (d : Pv.D) (st : Sto) : R Src :=
  match d with
  | .list ds => .ok ⟨ds, always⟩ st
  | .tuple ds => .ok ⟨ds, always⟩ st
  | .dict [(.none, .tuple ds)] => .ok ⟨ds, always⟩ st
  | .dict [(.none, .list ds)] => .ok ⟨ds, always⟩ st
  | .str z => .ok ⟨signs z, always⟩ st
  | .dict [(.int r, .none)] => (match st[r.toNat]? with | some (.lst ds) => .ok ⟨ds, holdsLst r.toNat ds⟩ st | _ => .bad)
  | _ => .bad
def mIter (m : M) : MI := fun sl st => (m sl st).bind srcOf
theorem walk_list {a : Addr} {xs : List V} {ds : List Pv.D} {K : PySem.W.Frag} (hf : SqL K W.F a xs) (l : repL K W xs ds) : WalkK K (Itl K a) W ⟨ds, always⟩ := by
  intro W1 H1 st1 h1 f r _
  have hq : SqL K H1 a xs := sqL_mono h1.sub (sqL_mono f hf)
  have l1 : repL K W1 xs ds := repL_mono f r ds l
  refine ⟨⟨xs, hq, by rw [repL_length l]; exact Nat.le_refl _⟩, fun i d hd => ?_⟩
  obtain ⟨v, hv, rv⟩ := repL_get i l1 hd
  refine ⟨⟨xs, v, hq, hv⟩, fun x H' y => ?_⟩
  obtain ⟨e, y⟩ := y
  subst e
  have := y xs hq
  rw [hv] at this
  cases this
  exact ⟨W1, .refl, h1, rv⟩
theorem walk_ref {a : Addr} {r0 : Nat} {ds : List Pv.D} {K : PySem.W.Frag} (hf : W.rho[r0]? = some a) : WalkK K (Itl K a) W ⟨ds, holdsLst r0 ds⟩ := by
  intro W1 H1 st1 h1 f r k
  obtain ⟨m, hm, _, ho⟩ := h1.at (r r0 a hf)
  have k' : st1[r0]? = some (.lst ds) := k
  rw [k'] at hm
  cases hm
  obtain ⟨xs, g1, l1⟩ := ho
  have hq : SqL K H1 a xs := .inl (.inl g1)
  refine ⟨⟨xs, hq, by rw [repL_length l1]; exact Nat.le_refl _⟩, fun i d hd => ?_⟩
  obtain ⟨v, hv, rv⟩ := repL_get i l1 hd
  refine ⟨⟨xs, v, hq, hv⟩, fun x H' y => ?_⟩
  obtain ⟨e, y⟩ := y
  subst e
  have := y xs hq
  rw [hv] at this
  cases this
  exact ⟨W1, .refl, h1, rv⟩
theorem walk_tup {a : Addr} {xs : List V} {ds : List Pv.D} {K : PySem.W.Frag} (hf : ∀ W1 H1 st1, HR K W1 H1 st1 → (∀ b o, W.F b = some o → W1.F b = some o) → SqT K H1 a xs) (l : repL K W xs ds) : WalkK K (Itt K a) W ⟨ds, always⟩ := by
  intro W1 H1 st1 h1 f r _
  have hq : SqT K H1 a xs := hf W1 H1 st1 h1 f
  have l1 : repL K W1 xs ds := repL_mono f r ds l
  refine ⟨⟨xs, hq, by rw [repL_length l]; exact Nat.le_refl _⟩, fun i d hd => ?_⟩
  obtain ⟨v, hv, rv⟩ := repL_get i l1 hd
  refine ⟨⟨xs, v, hq, hv⟩, fun x H' y => ?_⟩
  obtain ⟨e, y⟩ := y
  subst e
  have := y xs hq
  rw [hv] at this
  cases this
  exact ⟨W1, .refl, h1, rv⟩
theorem walk_str {z : Str} {K : PySem.W.Frag} : WalkK K (Its z) W ⟨signs z, always⟩ := by
  intro W1 H1 st1 h1 f r _
  have hl : (signs z).length = z.cps.size := by unfold signs; simp
  refine ⟨by show z.cps.size ≤ (signs z).length; rw [hl]; exact Nat.le_refl _, fun i d hd => ?_⟩
  have hi : i < z.cps.size := by rw [← hl]; exact (List.getElem?_eq_some_iff.mp hd).1
  refine ⟨hi, fun x H' y => ?_⟩
  obtain ⟨e, c, hc, ex⟩ := y
  subst e; subst ex
  have : signs z = z.cps.toList.map fun c => PyData.str ⟨#[c]⟩ := rfl
  rw [this, List.getElem?_map] at hd
  have hc' : z.cps.toList[i]? = some c := by simpa using hc
  rw [hc'] at hd
  cases hd
  exact ⟨W1, .refl, h1, rfl⟩
theorem gi_iter {tg ea : Expr} {ma : M} (ha : GE X Wx ea ma) : GI X Wx tg ea (mIter ma) := by
  refine PI.imp (PI.or (PI.or (pi_list ha) (pi_tup ha)) (pi_str ha)) fun sh H R ⟨W, sl, st, hr, hs, p⟩ => ?_
  cases e1 : ma sl st with
  | bad => unfold mIter at p; rw [e1] at p; exact p.elim
  | exc x s2 =>
    refine .inl (.inl (rd_bindI hr hs p fun d1 st1 W1 v1 H1 e2 => ?_))
    rw [e1] at e2; cases e2
  | ok d st1 =>
    cases d with
    | list ds =>
      refine .inl (.inl (rd_bindI hr hs p fun d1 st1' W1 v1 H1 e2 x1 h1 s1 r1 p1 => ?_))
      rw [e1] at e2; cases e2
      obtain ⟨a, xs, q1, q2, l⟩ := r1
      exact ⟨a, q1, ⟨xs, .inl (.inl (h1.sub _ _ q2))⟩, p1 W1 H1 _ .refl h1 (walk_list (.inl (.inl q2)) l)⟩
    | tuple ds =>
      refine .inl (.inr (rd_bindI hr hs p fun d1 st1' W1 v1 H1 e2 x1 h1 s1 r1 p1 => ?_))
      rw [e1] at e2; cases e2
      obtain ⟨a, xs, q1, q2, l⟩ := r1
      exact ⟨a, q1, ⟨xs, .inl (.inl (h1.sub _ _ q2))⟩, p1 W1 H1 _ .refl h1 (walk_tup (fun W2 H2 st2 h2 f => .inl (.inl (h2.sub _ _ (f _ _ q2)))) l)⟩
    | str z =>
      refine .inr (rd_bindI hr hs p fun d1 st1' W1 v1 H1 e2 x1 h1 s1 r1 p1 => ?_)
      rw [e1] at e2; cases e2
      cases r1
      exact ⟨z, rfl, p1 W1 H1 _ .refl h1 walk_str⟩
    | dict kvs =>
      by_cases hk : ∃ ds', kvs = [(.none, .tuple ds')]
      · obtain ⟨ds0, hk⟩ := hk
        subst hk
        refine .inl (.inr (rd_bindI hr hs p fun d1 st1' W1 v1 H1 e2 x1 h1 s1 r1 p1 => ?_))
        rw [e1] at e2; cases e2
        obtain ⟨a, xs, f2, f3, f4⟩ := r1
        exact ⟨a, f2, ⟨xs, f3.T h1.sub⟩, p1 W1 H1 _ .refl h1 (walk_tup (fun W2 H2 st2 h2 f => f3.T fun b o e => h2.sub _ _ (f b o e)) f4)⟩
      · refine .inl (.inl (rd_bindI hr hs p fun d1 st1' W1 v1 H1 e2 x1 h1 s1 r1 p1 => ?_))
        rw [e1] at e2; cases e2
        rcases rep_dict r1 with ⟨r, a, f1, f2, f3⟩ | ⟨ds', a, xs, f1, f2, f3, f4⟩ | ⟨ds', a, xs, f1, f2, f3, f4⟩ | ⟨ae, ade, ce, nse, fse, he⟩
        rotate_left
        · exact absurd ⟨_, f1⟩ hk
        · subst f1
          exact ⟨a, f2, ⟨xs, sqL_mono h1.sub f3⟩, p1 W1 H1 _ .refl h1 (walk_list f3 f4)⟩
        · subst he; exact p1.elim
        subst f1
        unfold srcOf at p1
        simp only [Int.toNat_natCast] at p1
        obtain ⟨m, hm, _, ho⟩ := h1.at f3
        rw [hm] at p1
        cases m with
        | lst ds =>
          obtain ⟨xs, g1, g2⟩ := ho
          exact ⟨a, f2, ⟨xs, .inl (.inl g1)⟩, p1 W1 H1 _ .refl h1 (walk_ref f3)⟩
        | ro _ => exact p1.elim
        | dct _ => exact p1.elim
        | dctT _ => exact p1.elim
        | tb _ _ => exact p1.elim
    | none => unfold mIter at p; rw [e1] at p; exact p.elim
    | bool _ => unfold mIter at p; rw [e1] at p; exact p.elim
    | int _ => unfold mIter at p; rw [e1] at p; exact p.elim
/-- range(n), range(a, b) -/
def rngD (lo : Int) (n : Nat) : List Pv.D := (List.range n).map fun (k : Nat) => PyData.int (lo + (k : Int))
theorem rngD_length (lo : Int) (n : Nat) : (rngD lo n).length = n := by unfold rngD; simp
theorem walk_range {K : PySem.W.Frag} {lo : Int} {n : Nat} : WalkK K (Itr lo n) W ⟨rngD lo n, always⟩ := by
  intro W1 H1 st1 h1 f r _
  refine ⟨by show n ≤ (rngD lo n).length; rw [rngD_length]; exact Nat.le_refl _, fun i d hd => ?_⟩
  have hi : i < n := by rw [← rngD_length lo n]; exact (List.getElem?_eq_some_iff.mp hd).1
  refine ⟨hi, fun x H' y => ?_⟩
  obtain ⟨e, ex⟩ := y
  subst e; subst ex
  have hx : (rngD lo n)[i]? = some (.int (lo + i)) := by unfold rngD; rw [List.getElem?_map, List.getElem?_range hi]; rfl
  rw [hx] at hd
  cases hd
  exact ⟨W1, .refl, h1, rfl⟩
def inR62 (j : Int) : Bool := decide (-(2 ^ 62) ≤ j ∧ j < 2 ^ 62)
def fRng1 (d : Pv.D) (st : Sto) : R Src := match d with | .int j => if inR62 j = true then .ok ⟨rngD 0 j.toNat, always⟩ st else .bad | _ => .bad
def fRng2 (c d : Pv.D) (st : Sto) : R Src := match c with
  | .int i => (match d with | .int j => if inR62 i = true ∧ inR62 j = true then .ok ⟨rngD i (j - i).toNat, always⟩ st else .bad | _ => .bad)
  | _ => .bad
def mRng1 (a : M) : MI := fun sl st => (a sl st).bind fRng1
def mRng2 (a b : M) : MI := fun sl st => (a sl st).bind fun x st => (b sl st).bind fun y st => fRng2 x y st
theorem gi_range1 {tg ea : Expr} {ma : M} {p pos : Pos} (hm : X.mg "range" = none) (ha : GE X Wx ea ma) (hg : Gl X "range" := by rfl) (hs : starEach [ea] X.env = [(false, eval ea X.env)] := by rfl)
    (hs1 : starEach (ea :: []) X.env = (false, eval ea X.env) :: starEach [] X.env := by rfl) : GI X Wx tg (.Call (.Name "range" p) [ea] [] pos) (mRng1 ma) := by
  refine PI.imp (pi_range1 hg hm (pa_cons ha pa_nil hs1) hs) fun sh H R ⟨W, sl, st, hr, hs, p⟩ => ?_
  refine rd_bindI hr hs p fun d1 st1 W1 v1 H1 e1 x1 h1 s1 r1 p1 => ?_
  cases d1 with
  | int j =>
    cases r1
    unfold fRng1 at p1
    simp only at p1
    split at p1
    · rename_i hj
      obtain ⟨j1, j2⟩ := of_decide_eq_true hj
      exact ⟨j, rfl, j1, j2, p1 W1 H1 _ .refl h1 walk_range⟩
    · exact p1.elim
  | _ => exact p1.elim
theorem gi_range2 {tg ea eb : Expr} {ma mb : M} {p pos : Pos} (hm : X.mg "range" = none) (ha : GE X Wx ea ma) (hb : GE X Wx eb mb) (hg : Gl X "range" := by rfl) (hs : starEach [ea, eb] X.env = [(false, eval ea X.env), (false, eval eb X.env)] := by rfl) (hs2 : starEach [eb] X.env = [(false, eval eb X.env)] := by rfl)
    (hs1 : starEach (ea :: [eb]) X.env = (false, eval ea X.env) :: starEach [eb] X.env := by rfl) (hs0 : starEach (eb :: []) X.env = (false, eval eb X.env) :: starEach [] X.env := by rfl) : GI X Wx tg (.Call (.Name "range" p) [ea, eb] [] pos) (mRng2 ma mb) := by
  refine PI.imp (pi_range2 hg hm (pa_cons ha (pa_cons hb pa_nil hs0) hs1) hs hs2) fun sh H R ⟨W, sl, st, hr, hs, p⟩ => ?_
  refine rd_bindI hr hs p fun d1 st1 W1 v1 H1 e1 x1 h1 s1 r1 p1 => ?_
  refine rd_bindI h1 s1 p1 fun d2 st2 W2 v2 H2 e2 x2 h2 s2 r2 p2 => ?_
  cases d1 with
  | int i =>
    cases d2 with
    | int j =>
      cases r1; cases r2
      unfold fRng2 at p2
      simp only at p2
      split at p2
      · rename_i hj
        obtain ⟨j1, j2⟩ := of_decide_eq_true hj.1
        obtain ⟨j3, j4⟩ := of_decide_eq_true hj.2
        exact ⟨i, j, rfl, ⟨j1, j2, j3, j4⟩, p2 W2 H2 _ .refl h2 walk_range⟩
      · exact p2.elim
    | _ => exact p2.elim
  | _ => exact p2.elim
/-- slots forgotten -/
def wipeD (sl : Sl) : List Nat → Sl
  | [] => sl
  | v :: vs => (wipeD sl vs).set v none
theorem wipeD_length (sl : Sl) : ∀ vs : List Nat, (wipeD sl vs).length = sl.length
  | [] => rfl
  | v :: vs => by unfold wipeD; rw [List.length_set, wipeD_length sl vs]
theorem wipeD_some {sl : Sl} {i : Nat} {x : Pv.D} : ∀ {vs : List Nat}, (wipeD sl vs)[i]? = some (some x) → sl[i]? = some (some x) ∧ i ∉ vs
  | [], h => ⟨h, by simp⟩
  | v :: vs, h => by
    unfold wipeD at h
    by_cases hi : v = i
    · subst hi
      by_cases hv : v < (wipeD sl vs).length
      · rw [List.getElem?_set_self hv] at h; cases h
      · rw [List.getElem?_eq_none (by simpa using hv)] at h; cases h
    · rw [List.getElem?_set_ne hi] at h
      obtain ⟨a, b⟩ := wipeD_some h
      exact ⟨a, by simp [b, Ne.symm hi]⟩
theorem SR.wipe {K : PySem.W.Frag} {vs : List Nat} (s : SR K W sh sl) : SR K W sh (wipeD sl vs) := s.weak (wipeD_length _ _) fun i d e => (wipeD_some e).1
/-- the turns over some items: tg stores the item, body goes on; fg: slots that no later turn reads -/
def forL (keep : Sto → Prop) [DecidablePred keep] (tg : MG) (body : MS) (fg : List Nat) : List Pv.D → Sl → Sto → RS
  | [], sl, st => if keep st then .nx sl st else .bad
  | d :: ds, sl, st => if keep st then (match (tg d sl st).thenS body with
    | .nx sl st => forL keep tg body fg ds (wipeD sl fg) st
    | .ct sl st => forL keep tg body fg ds (wipeD sl fg) st
    | .bk sl st => .nx (wipeD sl fg) st
    | r => r) else .bad
def sFor (fg : List Nat) (mi : MI) (tg : MG) (body : MS) : MS := fun sl st => (mi sl st).thenS fun s st => forL s.keep tg body fg s.items (wipeD sl fg) st
theorem for_read {mi : MI} {tg : MG} {body : MS} {fg : List Nat} (hr : HR N.K W H st) (hs : SR N.K W sh sl) (p : PostS N sh.length Wx W H D (sFor fg mi tg body sl st)) : tFor (rdI N Wx mi) (rdG N Wx tg) (rdS N Wx body) D sh H := by
  refine ⟨W, sl, st, hr, hs, ?_⟩
  unfold sFor at p
  cases e : mi sl st with
  | bad => rw [e] at p; exact p
  | exc x s2 => rw [e] at p; exact fun W1 c dd H1 e1 a b => p W1 sh c dd H1 rfl e1 a b
  | ok s st1 =>
    rw [e] at p
    intro W1 H1 J x1 h1 wk
    have p1 := PostS.ext x1 p
    simp only [R.thenS_ok] at p1
    refine ⟨fun i m sh' H' => sh'.length = sh.length ∧ i ≤ s.items.length ∧ m = s.items.length - i ∧ ∃ W' sl' st', (∀ b o, W1.F b = some o → W'.F b = some o) ∧ (∀ (r : Nat) a, W1.rho[r]? = some a → W'.rho[r]? = some a) ∧ HR N.K W' H' st' ∧ SR N.K W' sh' sl' ∧
      PostS N sh.length Wx W' H' D (forL s.keep tg body fg (s.items.drop i) sl' st'), ⟨s.items.length, rfl, Nat.zero_le _, by simp, W1, _, st1, fun _ _ z => z, fun _ _ z => z, h1, (hs.ext x1).wipe, by simpa using p1⟩, ?_⟩
    rintro i m sh2 H2 ⟨hl2, hi, hm, W2, sl2, st2, f2, r2, h2, s2, p2⟩
    by_cases hk : s.keep st2
    · obtain ⟨stp, go⟩ := wk W2 H2 st2 h2 f2 r2 hk
      by_cases hlt : i < s.items.length
      · obtain ⟨gi, yi⟩ := go i _ (List.getElem?_eq_getElem hlt)
        refine .inr ⟨gi, fun sh3 H3 => sh3.length = sh.length ∧ ∃ W' sl' st', (∀ b o, W1.F b = some o → W'.F b = some o) ∧ (∀ (r : Nat) a, W1.rho[r]? = some a → W'.rho[r]? = some a) ∧ HR N.K W' H3 st' ∧ SR N.K W' sh3 sl' ∧
          PostS N sh.length Wx W' H3 D (forL s.keep tg body fg (s.items.drop (i + 1)) sl' st'), fun sh3 H3 ⟨a, b⟩ => ⟨s.items.length - (i + 1), by omega, a, hlt, rfl, b⟩, fun x H3 y => ?_⟩
        obtain ⟨W3, x3, h3, rx⟩ := yi x H3 y
        rw [List.drop_eq_getElem_cons hlt] at p2
        unfold forL at p2
        rw [if_pos hk] at p2
        have p3 := PostS.ext x3 p2
        have f3 : ∀ b o, W1.F b = some o → W3.F b = some o := fun b o z => x3.fr b o (f2 b o z)
        have r3 : ∀ (r : Nat) a, W1.rho[r]? = some a → W3.rho[r]? = some a := fun r a z => x3.at r a (r2 r a z)
        refine ⟨W3, sl2, st2, s.items[i], h3, s2.ext x3, rx, ?_⟩
        cases q : tg s.items[i] sl2 st2 with
        | bad => rw [q] at p3; exact p3
        | exc a b => rw [q] at p3; rw [hl2]; exact p3
        | ok sl4 st4 =>
          rw [q] at p3
          simp only [R.thenS_ok] at p3
          intro W4 sh4 H4 l4 x4 h4 s4
          have p4 := PostS.ext x4 p3
          have f4 : ∀ b o, W1.F b = some o → W4.F b = some o := fun b o z => x4.fr b o (f3 b o z)
          have r4 : ∀ (r : Nat) a, W1.rho[r]? = some a → W4.rho[r]? = some a := fun r a z => x4.at r a (r3 r a z)
          refine ⟨W4, sl4, st4, h4, s4, ?_⟩
          have ll : sh4.length = sh.length := l4.trans hl2
          have step : ∀ sl5 st5, PostS N sh.length Wx W4 H4 D (forL s.keep tg body fg (s.items.drop (i + 1)) (wipeD sl5 fg) st5) → ∀ W5 sh5 H5, sh5.length = sh4.length → Ext W4 H4 W5 H5 → HR N.K W5 H5 st5 → SR N.K W5 sh5 sl5 →
              sh5.length = sh.length ∧ ∃ W' sl' st', (∀ b o, W1.F b = some o → W'.F b = some o) ∧ (∀ (r : Nat) a, W1.rho[r]? = some a → W'.rho[r]? = some a) ∧ HR N.K W' H5 st' ∧ SR N.K W' sh5 sl' ∧
                PostS N sh.length Wx W' H5 D (forL s.keep tg body fg (s.items.drop (i + 1)) sl' st') := fun sl5 st5 pp W5 sh5 H5 l5 x5 h5 s5 =>
            ⟨l5.trans ll, W5, _, st5, fun b o z => x5.fr b o (f4 b o z), fun r a z => x5.at r a (r4 r a z), h5, s5.wipe, PostS.ext x5 pp⟩
          cases qb : body sl4 st4 with
          | nx sl5 st5 => rw [qb] at p4; exact step sl5 st5 p4
          | ct sl5 st5 => rw [qb] at p4; exact step sl5 st5 p4
          | bk sl5 st5 =>
            rw [qb] at p4
            intro W5 sh5 H5 l5 x5 h5 s5
            exact p4 W5 sh5 H5 (l5.trans ll) x5 h5 s5.wipe
          | rt d st5 => rw [qb] at p4; exact p4
          | exc a b => rw [qb] at p4; rw [ll]; exact p4
          | bad => rw [qb] at p4; exact p4
      · have e : i = s.items.length := by omega
        subst e
        rw [List.drop_length] at p2
        unfold forL at p2
        rw [if_pos hk] at p2
        exact .inl ⟨stp, p2 W2 sh2 H2 hl2 .refl h2 s2⟩
    · exfalso
      cases q : s.items.drop i with
      | nil => rw [q] at p2; unfold forL at p2; rw [if_neg hk] at p2; exact p2
      | cons d ds => rw [q] at p2; unfold forL at p2; rw [if_neg hk] at p2; exact p2
theorem gs_for {tg iter : Expr} {body : List Stmt} {mi : MI} {mt : MG} {mb : MS} {pos : Pos} (fg : List Nat) (g : Gd X) (hp : PassesOwn (model X.prog X.w) X.A X.env X.xe) (hi : GI X Wx tg iter mi) (hg : GG X Wx tg mt) (hb : GSs X Wx body mb)
    (hs : ∀ x, foldedSetIterable iter X.env x = pure x := by intro _; rfl) : GS X Wx (.For tg iter body [] pos) (sFor fg mi mt mb) :=
  PS.imp (ps_for hp g.calm hi hg hb hs) fun D sh H ⟨W, sl, st, hr, hs, p⟩ => for_read hr hs p
end
end Pv
set_option Elab.async false
set_option linter.all false
set_option maxRecDepth 100000
set_option maxHeartbeats 4000000
namespace Pv
open PySem PySem.Spec L2
open PyProof.Rows hiding St
inductive CP where
  | nm (i : Nat) | tp (is : List Nat)
inductive CT where
  | nm (i : Nat) | tp (is : List Nat) | tq (ps : List CP)
def setAll (sl : Sl) : List Nat → List Pv.D → Option Sl
  | [], [] => some sl
  | i :: is, d :: ds => setAll (sl.set i (some d)) is ds
  | _, _ => none
def cpSet (p : CP) (d : Pv.D) (sl : Sl) : Option Sl :=
  match p with
  | .nm i => some (sl.set i (some d))
  | .tp is => (match d with | .tuple ds => setAll sl is ds | _ => none)
def setAllP (sl : Sl) : List CP → List Pv.D → Option Sl
  | [], [] => some sl
  | p :: ps, d :: ds => (match cpSet p d sl with | some sl2 => setAllP sl2 ps ds | none => none)
  | _, _ => none
def ctSet (t : CT) (d : Pv.D) (sl : Sl) : Option Sl :=
  match t with
  | .nm i => some (sl.set i (some d))
  | .tp is => (match d with | .tuple ds => setAll sl is ds | _ => none)
  | .tq ps => (match d with | .tuple ds => setAllP sl ps ds | _ => none)
def gNames : List Nat → TGs
  | [] => gNil
  | i :: is => gCons (gName i) (gNames is)
def gcp (K : PySem.W.Frag) : CP → TG
  | .nm i => gName i
  | .tp is => gTup K is.length (gNames is)
def gPs (K : PySem.W.Frag) : List CP → TGs
  | [] => gNil
  | p :: ps => gCons (gcp K p) (gPs K ps)
def gct (K : PySem.W.Frag) : CT → TG
  | .nm i => gName i
  | .tp is => gTup K is.length (gNames is)
  | .tq ps => gTup K ps.length (gPs K ps)
def cpIn (vs : List Nat) (p : CP) : Bool := match p with | .nm i => vs.contains i | .tp is => is.all vs.contains
def ctIn (t : CT) (vs : List Nat) : Bool := match t with | .nm i => vs.contains i | .tp is => is.all vs.contains | .tq ps => ps.all (cpIn vs)
theorem wipe_set {σ : L2.St} {x : Option V} {i : Nat} : ∀ {vs : List Nat}, i ∈ vs → wipe (σ.set i x) vs = wipe σ vs
  | [], h => by cases h
  | v :: vs, h => by
    unfold wipe
    by_cases hv : v = i
    · subst hv
      by_cases hm : v ∈ vs
      · rw [wipe_set hm]
      · have key : ∀ (vs : List Nat), v ∉ vs → wipe (σ.set v x) vs = (wipe σ vs).set v x := by
          intro vs
          induction vs with
          | nil => intro _; rfl
          | cons u us ih =>
            intro hu
            unfold wipe
            rw [ih (fun z => hu (List.mem_cons_of_mem _ z))]
            exact List.set_comm _ _ (fun z => hu (by rw [z]; exact List.mem_cons_self))
        rw [key vs hm, List.set_set]
    · rw [wipe_set (by rcases List.mem_cons.mp h with q | q; exact absurd q.symm hv; exact q)]
theorem wipe_wipe {σ : L2.St} (vs : List Nat) : ∀ us : List Nat, (∀ u ∈ us, u ∈ vs) → wipe (wipe σ us) vs = wipe σ vs
  | [], _ => rfl
  | u :: us, h => by
    show wipe ((wipe σ us).set u none) vs = wipe σ vs
    rw [wipe_set (h u List.mem_cons_self)]
    exact wipe_wipe vs us fun w hw => h w (List.mem_cons_of_mem _ hw)
section
variable {X : Cx} {Wx : WX} {N : Nv} {W W' : Wd} {H H' : Hp} {st : Sto} {sl : Sl} {sh : L2.St} {n : Nat} {D D' : Ends}
theorem gNames_run {vs : List Nat} : ∀ {is : List Nat} {ds : List Pv.D} {xs : List V} {sl sl2 : Sl} {sh sh0 : L2.St}, (∀ i ∈ is, i ∈ vs) → SR N.K W sh sl → repL N.K W xs ds → setAll sl is ds = some sl2 → wipe sh vs = wipe sh0 vs →
    ∀ (Q : L2.St → Hp → Prop), (∀ sh2, SR N.K W sh2 sl2 → sh2.length = sh.length → wipe sh2 vs = wipe sh0 vs → Q sh2 H) → gNames is xs sh H Q
  | [], [], _, sl, sl2, sh, sh0, _, s, l, e, w, Q, q => by cases l; cases e; exact ⟨rfl, q sh s rfl w⟩
  | i :: is, d :: ds, _, sl, sl2, sh, sh0, hi, s, ⟨v, us, e1, r, l⟩, e, w, Q, q => by
    subst e1
    refine ⟨v, us, rfl, ?_⟩
    refine gNames_run (sh0 := sh0) (fun j hj => hi j (List.mem_cons_of_mem _ hj)) (s.set i r) l e ?_ Q fun sh2 s2 l2 w2 => q sh2 s2 (by rw [l2]; simp) w2
    rw [wipe_set (hi i List.mem_cons_self)]; exact w
  | [], _ :: _, _, _, _, _, _, _, _, _, e, _, _, _ => by cases e
  | _ :: _, [], _, _, _, _, _, _, _, _, e, _, _, _ => by cases e
theorem setAll_length : ∀ (is : List Nat) (ds : List Pv.D) (sl sl2 : Sl), setAll sl is ds = some sl2 → ds.length = is.length := by
  intro is
  induction is with
  | nil => intro ds sl sl2 e; cases ds with | nil => rfl | cons _ _ => cases e
  | cons i is ih => intro ds sl sl2 e; cases ds with | nil => cases e | cons d ds => simp [ih ds _ _ e]
theorem setAllP_length : ∀ (ps : List CP) (ds : List Pv.D) (sl sl2 : Sl), setAllP sl ps ds = some sl2 → ds.length = ps.length := by
  intro ps
  induction ps with
  | nil => intro ds sl sl2 e; cases ds with | nil => rfl | cons _ _ => cases e
  | cons p ps ih =>
    intro ds sl sl2 e
    cases ds with
    | nil => cases e
    | cons d ds =>
      unfold setAllP at e
      cases hc : cpSet p d sl with
      | none => rw [hc] at e; cases e
      | some sl3 => rw [hc] at e; simp [ih ds _ _ e]
theorem cp_run {p : CP} {d : Pv.D} {v : V} {sl2 : Sl} {vs : List Nat} {sh0 : L2.St} (hin : cpIn vs p = true) (hr : HR N.K W H st) (s : SR N.K W sh sl) (r : rep N.K W v d) (e : cpSet p d sl = some sl2) (w : wipe sh vs = wipe sh0 vs) (Q : L2.St → Hp → Prop)
    (q : ∀ sh2, SR N.K W sh2 sl2 → sh2.length = sh.length → wipe sh2 vs = wipe sh0 vs → Q sh2 H) : gcp N.K p v sh H Q := by
  cases p with
  | nm i =>
    cases e
    have hi : i ∈ vs := by simpa [cpIn] using hin
    exact q _ (s.set i r) (by simp) (by rw [wipe_set hi]; exact w)
  | tp is =>
    unfold cpSet at e
    simp only at e
    split at e
    · rename_i ds
      obtain ⟨a, xs, e1, f, l⟩ := r
      have hall : ∀ i ∈ is, i ∈ vs := by
        intro i hi
        have := List.all_eq_true.mp (show is.all vs.contains = true from hin) i hi
        simpa using this
      have hlen : xs.length = is.length := by rw [repL_length l]; exact setAll_length is ds sl sl2 e
      exact ⟨a, xs, e1, .inl (.inl (hr.sub _ _ f)), hlen, gNames_run hall s l e w Q q⟩
    · cases e
theorem gPs_run {vs : List Nat} (hr : HR N.K W H st) : ∀ {ps : List CP} {ds : List Pv.D} {xs : List V} {sl sl2 : Sl} {sh sh0 : L2.St}, (∀ p ∈ ps, cpIn vs p = true) → SR N.K W sh sl → repL N.K W xs ds → setAllP sl ps ds = some sl2 → wipe sh vs = wipe sh0 vs →
    ∀ (Q : L2.St → Hp → Prop), (∀ sh2, SR N.K W sh2 sl2 → sh2.length = sh.length → wipe sh2 vs = wipe sh0 vs → Q sh2 H) → gPs N.K ps xs sh H Q
  | [], [], _, sl, sl2, sh, sh0, _, s, l, e, w, Q, q => by cases l; cases e; exact ⟨rfl, q sh s rfl w⟩
  | p :: ps, d :: ds, _, sl, sl2, sh, sh0, hi, s, ⟨v, us, e1, r, l⟩, e, w, Q, q => by
    subst e1
    unfold setAllP at e
    cases hc : cpSet p d sl with
    | none => rw [hc] at e; cases e
    | some sl3 =>
      rw [hc] at e
      refine ⟨v, us, rfl, ?_⟩
      exact cp_run (sh0 := sh0) (hi p List.mem_cons_self) hr s r hc w _ fun sh3 s3 l3 w3 =>
        gPs_run hr (sh0 := sh0) (fun j hj => hi j (List.mem_cons_of_mem _ hj)) s3 l e w3 Q fun sh2 s2 l2 w2 => q sh2 s2 (by rw [l2, l3]) w2
  | [], _ :: _, _, _, _, _, _, _, _, _, e, _, _, _ => by cases e
  | _ :: _, [], _, _, _, _, _, _, _, _, e, _, _, _ => by cases e
theorem ct_run {t : CT} {d : Pv.D} {v : V} {sl2 : Sl} {vs : List Nat} (hin : ctIn t vs = true) (hr : HR N.K W H st) (s : SR N.K W sh sl) (r : rep N.K W v d) (e : ctSet t d sl = some sl2) (Q : L2.St → Hp → Prop)
    (q : ∀ sh2, SR N.K W sh2 sl2 → sh2.length = sh.length → wipe sh2 vs = wipe sh vs → Q sh2 H) : gct N.K t v sh H Q := by
  cases t with
  | nm i =>
    cases e
    have hi : i ∈ vs := by simpa [ctIn] using hin
    exact q _ (s.set i r) (by simp) (wipe_set hi)
  | tp is =>
    unfold ctSet at e
    simp only at e
    split at e
    · rename_i ds
      obtain ⟨a, xs, e1, f, l⟩ := r
      have hall : ∀ i ∈ is, i ∈ vs := by
        intro i hi
        have := List.all_eq_true.mp (show is.all vs.contains = true from hin) i hi
        simpa using this
      have hlen : xs.length = is.length := by
        rw [repL_length l]
        have key : ∀ (is : List Nat) (ds : List Pv.D) (sl sl2 : Sl), setAll sl is ds = some sl2 → ds.length = is.length := by
          intro is
          induction is with
          | nil => intro ds sl sl2 e; cases ds with | nil => rfl | cons _ _ => cases e
          | cons i is ih => intro ds sl sl2 e; cases ds with | nil => cases e | cons d ds => simp [ih ds _ _ e]
        exact key is ds sl sl2 e
      exact ⟨a, xs, e1, .inl (.inl (hr.sub _ _ f)), hlen, gNames_run hall s l e rfl Q q⟩
    · cases e
  | tq ps =>
    unfold ctSet at e
    simp only at e
    split at e
    · rename_i ds
      obtain ⟨a, xs, e1, f, l⟩ := r
      have hall : ∀ p ∈ ps, cpIn vs p = true := fun p hp => List.all_eq_true.mp (show ps.all (cpIn vs) = true from hin) p hp
      have hlen : xs.length = ps.length := by rw [repL_length l]; exact setAllP_length ps ds sl sl2 e
      exact ⟨a, xs, e1, .inl (.inl (hr.sub _ _ f)), hlen, gPs_run hr hall s l e rfl Q q⟩
    · cases e
theorem gct_name {x : Str} {pos : Pos} (i : Nat) (g : Gd X) (hi : X.N[i]? = some x := by rfl) (hx : Loc X.env.scope x := by first | exact Or.inl rfl | exact Or.inr rfl) (hf : X.fn x = true ∨ X.env.scope.names.lookup x = some .local := by first | exact .inl rfl | exact .inr rfl) : PG X (.Name x pos) (gct X.K (.nm i)) :=
  pg_name g.nd hi hx hf
/-- the items that are made -/
def lcL (keep : Sto → Prop) [DecidablePred keep] (t : CT) (tt : MT) (te : M) (sl : Sl) : List Pv.D → Sto → R (List Pv.D)
  | [], st => if keep st then .ok [] st else .bad
  | d :: ds, st => if keep st then (match ctSet t d sl with
    | none => .bad
    | some sl2 => match tt sl2 st with
      | .ok true st => (match te sl2 st with
        | .ok y st => (match lcL keep t tt te sl ds st with | .ok ys st => .ok (y :: ys) st | _ => .bad)
        | _ => .bad)
      | .ok false st => lcL keep t tt te sl ds st
      | _ => .bad) else .bad
def tYesM : MT := fun _ st => .ok true st
def lcR (mi : MI) (t : CT) (tt : MT) (te : M) (vs : List Nat) : Ms := fun sl st => (mi sl st).bind fun s st => (lcL s.keep t tt te (wipeD sl vs) s.items st).bind fun ys st => if ys.length ≤ sizeLine then .ok ys st else .bad
def mLc (mi : MI) (t : CT) (tt : MT) (te : M) (vs : List Nat) : M := fun sl st => (lcR mi t tt te vs sl st).bind fun ys st => .ok (.list ys) st
theorem SR.wipes {K : PySem.W.Frag} (vs : List Nat) (s : SR K W sh sl) : SR K W (L2.wipe sh vs) (wipeD sl vs) := by
  refine ⟨by rw [wipe_length, wipeD_length]; exact s.len, fun i d h => ?_⟩
  obtain ⟨h1, h2⟩ := wipeD_some h
  obtain ⟨v, hv, r⟩ := s.at_ i d h1
  refine ⟨v, ?_, r⟩
  have key : ∀ vs : List Nat, i ∉ vs → (L2.wipe sh vs)[i]? = sh[i]? := by
    intro vs
    induction vs with
    | nil => intro _; rfl
    | cons u us ih =>
      intro hu
      unfold L2.wipe
      rw [List.getElem?_set_ne (fun z => hu (by rw [z]; exact List.mem_cons_self))]
      exact ih fun z => hu (List.mem_cons_of_mem _ z)
  rw [key vs h2]; exact hv
/-- beside the store stands an object that is written from outside -/
structure Bes (W1 : Wd) (H1 : Hp) (Dd : Addr) (W2 : Wd) (H2 : Hp) : Prop where
  e : Ext W1 H1 W2 H2
  n : Dd ∉ W2.rho
  f : W2.F Dd = none
def plainO2 (o : HO) : Bool := match o with
  | .tup _ => false
  | o => plainO o
theorem plainO2_o {o : HO} (h : plainO2 o = true) : plainO o = true := by
  unfold plainO2 at h
  split at h
  · cases h
  · exact h
theorem plainO2_t {o : HO} (h : plainO2 o = true) : ∀ xs, o ≠ .tup xs := fun xs e => by subst e; cases h
theorem Bes.step {W1 W2 W3 : Wd} {H1 H2 H3 : Hp} {Dd : Addr} {o : HO} (b : Bes W1 H1 Dd W2 H2) (x : Ext W2 H2 W3 H3) (h : H2 Dd = some o) (hpl : plainO2 o = true) : Bes W1 H1 Dd W3 H3 ∧ H3 Dd = some o := by
  refine ⟨⟨b.e.trans x, ?_, ?_⟩, x.out _ _ h b.n (plainO_tbl (plainO2_o hpl))⟩
  · obtain ⟨r, hr, hm⟩ := x.rh
    rw [hr]
    intro z
    rcases List.mem_append.mp z with z | z
    · exact b.n z
    · obtain ⟨ps, y⟩ := hm _ z _ h; exact plainO_tbl (plainO2_o hpl) ps y
  · cases q : W3.F Dd with
    | none => rfl
    | some u =>
      rcases x.nf _ _ q with z | z
      · rw [b.f] at z; cases z
      · obtain ⟨ys, y⟩ := z.some h (plainO_tbl (plainO2_o hpl)); exact absurd y (plainO2_t hpl ys)
theorem Bes.write {W1 W2 : Wd} {H1 H2 : Hp} {Dd : Addr} {u : HO} {K : PySem.W.Frag} (b : Bes W1 H1 Dd W2 H2) (h : HR K W2 H2 st) (hD : H1 Dd = none) (ht : LamX.Tabs (tbs st) (upd H2 Dd u)) : Bes W1 H1 Dd W2 (upd H2 Dd u) ∧ HR K W2 (upd H2 Dd u) st := by
  refine ⟨⟨⟨b.e.fr, b.e.rh, fun c o e hc ht => ?_, fun c e => ?_, b.e.nf⟩, b.n, b.f⟩, ⟨h.len, h.nd, fun c o e => ?_, fun r c m e1 e2 => ?_, ht, h.nt⟩⟩
  · have hb : c ≠ Dd := fun w => by subst w; rw [hD] at e; cases e
    rw [upd_ne hb]; exact b.e.out c o e hc ht
  · by_cases hb : c = Dd
    · subst hb; exact .of hD
    · exact b.e.non c fun o z => e o (by rw [upd_ne hb]; exact z)
  · have hb : c ≠ Dd := fun w => by subst w; rw [b.f] at e; cases e
    rw [upd_ne hb]; exact h.sub _ _ e
  · have hb : c ≠ Dd := fun w => b.n (by rw [← w]; exact List.mem_of_getElem? e1)
    obtain ⟨p, q⟩ := h.obj r c m e1 e2
    exact ⟨p, repO_mono (W := W2) (fun _ _ z => z) (fun _ _ z => z) (fun u z => by rw [upd_ne hb]; exact z) q⟩
theorem lc_loop {J : It} {s : Src} {t : CT} {tt : MT} {te : M} {vs : List Nat} {Q : VK} {W1 : Wd} {H1 : Hp} {st1 st2 : Sto} {ys : List Pv.D} (hin : ctIn t vs = true) (h1 : HR N.K W1 H1 st1) (s1 : SR N.K W1 sh sl) (wk : WalkK N.K J W1 s)
    (e : lcL s.keep t tt te (wipeD sl vs) s.items st1 = .ok ys st2) (hz : ys.length ≤ sizeLine) {Dd : Addr} (hD : H1 Dd = none)
    (fin : ∀ W2 H2 xs, Bes W1 H1 Dd W2 H2 → HR N.K W2 H2 st2 → H2 Dd = some (.lst xs) → repL N.K W2 xs ys → Q (.ref Dd) H2) :
    ∃ Wv : Nat → Nat → Hp → Prop, (∃ m, Wv 0 m (upd H1 Dd (.lst []))) ∧ ∀ i m H, Wv i m H →
      (J.stop i H ∧ Q (.ref Dd) H) ∨ (J.go i H ∧ ∃ Nx : Hp → Prop, (∀ H', Nx H' → ∃ m', m' < m ∧ Wv (i + 1) m' H') ∧ ∀ x H', J.yld i H x H' → gct N.K t x (wipe sh vs) H' fun σ2 H2 => wipe σ2 vs = wipe sh vs ∧ rdT N (fun _ _ _ _ => False) tt σ2 H2 fun b H3 =>
        if b = true then rd N (fun _ _ _ _ => False) te σ2 H3 fun y H4 => ∃ acc, H4 Dd = some (.lst acc) ∧ acc.length < sizeLine ∧ Nx (upd H4 Dd (.lst (acc ++ [y]))) else Nx H3) := by
  let P : Nat → Hp → Prop := fun i H => ∃ (W2 : Wd) (st : Sto) (xs : List V) (ds zs : List Pv.D), Bes W1 H1 Dd W2 H ∧ HR N.K W2 H st ∧ H Dd = some (.lst xs) ∧ repL N.K W2 xs ds ∧ lcL s.keep t tt te (wipeD sl vs) (s.items.drop i) st = .ok zs st2 ∧ ds ++ zs = ys
  have hDr : Dd ∉ W1.rho := h1.free hD
  have b0 : Bes W1 H1 Dd W1 H1 := ⟨.refl, hDr, h1.freeF hD⟩
  obtain ⟨b1, h1'⟩ := b0.write (u := .lst []) h1 hD (tabs_new h1.tab hD)
  refine ⟨fun i m H => i ≤ s.items.length ∧ m = s.items.length - i ∧ P i H, ⟨_, Nat.zero_le _, rfl, ⟨W1, st1, [], [], ys, b1, h1', upd_same, rfl, by simpa using e, rfl⟩⟩, ?_⟩
  rintro i m H ⟨hi, hm, W2, st, xs, ds, zs, b2, h2, hx, l, el, ed⟩
  have hk : s.keep st := by
    cases q : s.items.drop i with
    | nil => rw [q] at el; unfold lcL at el; by_cases z : s.keep st; exact z; rw [if_neg z] at el; cases el
    | cons d r => rw [q] at el; unfold lcL at el; by_cases z : s.keep st; exact z; rw [if_neg z] at el; cases el
  obtain ⟨stp, go⟩ := wk W2 H st h2 b2.e.fr b2.e.at hk
  by_cases hlt : i < s.items.length
  · obtain ⟨gi, yi⟩ := go i _ (List.getElem?_eq_getElem hlt)
    refine .inr ⟨gi, P (i + 1), fun H' p' => ⟨s.items.length - (i + 1), by omega, hlt, rfl, p'⟩, fun x H3 y => ?_⟩
    obtain ⟨W3, x3, h3, rx⟩ := yi x H3 y
    obtain ⟨b3, hx3⟩ := b2.step x3 hx rfl
    rw [List.drop_eq_getElem_cons hlt] at el
    unfold lcL at el
    rw [if_pos hk] at el
    cases e1 : ctSet t s.items[i] (wipeD sl vs) with
    | none => rw [e1] at el; cases el
    | some sl2 =>
      rw [e1] at el
      simp only at el
      have s3 : SR N.K W3 (wipe sh vs) (wipeD sl vs) := SR.wipes vs ⟨s1.len, fun j d q => let ⟨v, a, b⟩ := s1.at_ j d q; ⟨v, a, rep_mono b3.e.fr b3.e.at d b⟩⟩
      refine ct_run hin h3 s3 rx e1 _ fun sh2 s4 l4 w4 => ?_
      rw [wipe_wipe vs vs fun _ z => z] at w4
      refine ⟨w4, W3, sl2, st, h3, s4, ?_⟩
      cases e2 : tt sl2 st with
      | bad => rw [e2] at el; cases el
      | exc _ _ => rw [e2] at el; cases el
      | ok b st3 =>
        rw [e2] at el
        intro W4 H4 x4 h4
        obtain ⟨b4, hx4⟩ := b3.step x4 hx3 rfl
        cases b with
        | false =>
          simp only [Bool.false_eq_true, if_false]
          exact ⟨W4, st3, xs, ds, zs, b4, h4, hx4, x4.repL (x3.repL l), el, ed⟩
        | true =>
          simp only [if_true]
          refine ⟨W4, sl2, st3, h4, s4.ext x4, ?_⟩
          simp only at el
          cases e3 : te sl2 st3 with
          | bad => rw [e3] at el; cases el
          | exc _ _ => rw [e3] at el; cases el
          | ok yd st4 =>
            rw [e3] at el
            simp only at el
            intro W5 v5 H5 x5 h5 r5
            obtain ⟨b5, hx5⟩ := b4.step x5 hx4 rfl
            split at el
            · rename_i zs' st5 e4
              cases el
              have l5 : repL N.K W5 xs ds := x5.repL (x4.repL (x3.repL l))
              have hlen : xs.length < sizeLine := by
                rw [repL_length l5]
                have := congrArg List.length ed
                simp only [List.length_append, List.length_cons] at this
                omega
              obtain ⟨b6, h6⟩ := b5.write (u := .lst (xs ++ [v5])) h5 hD (tabs_set h5.tab hx5 rfl)
              exact ⟨xs, hx5, hlen, W5, st4, xs ++ [v5], ds ++ [yd], zs', b6, h6, upd_same, repL_append l5 (repL_one r5), e4, by rw [← ed]; simp⟩
            · cases el
  · have ei : i = s.items.length := by omega
    subst ei
    rw [List.drop_length] at el
    unfold lcL at el
    rw [if_pos hk] at el
    cases el
    rw [List.append_nil] at ed
    subst ed
    exact .inl ⟨stp, fin W2 H xs b2 h2 hx l⟩
theorem lc_read {mi : MI} {t : CT} {tt : MT} {te : M} {vs : List Nat} {Q : VK} {f : List Pv.D → Sto → R Pv.D} (hin : ctIn t vs = true) (hr : HR N.K W H st) (hs : SR N.K W sh sl)
    (p : Post N W H Q (fun cls dd H' => Wx cls dd sh H') ((lcR mi t tt te vs sl st).bind f))
    (k : ∀ ys st2 W1 H1 Dd xs, Ext W H W1 H1 → HR N.K W1 H1 st2 → H1 Dd = some (.lst xs) → Nn H Dd → Dd ∉ W1.rho → W1.F Dd = none → repL N.K W1 xs ys → Post N W H Q (fun cls dd H' => Wx cls dd sh H') (f ys st2) → Q (.ref Dd) H1) :
    tLc (fun sh H R => rdI N Wx mi sh H R) (gct N.K t) (rdT N (fun _ _ _ _ => False) tt) (rd N (fun _ _ _ _ => False) te) vs sh H Q := by
  refine ⟨W, sl, st, hr, hs, ?_⟩
  unfold lcR at p
  cases e : mi sl st with
  | bad => rw [e] at p; exact p
  | exc x s2 => rw [e] at p; exact p
  | ok s st1 =>
    rw [e] at p
    simp only [R.bind_ok] at p
    intro W1 H1 J x1 h1 wk Dd hD
    cases e2 : lcL s.keep t tt te (wipeD sl vs) s.items st1 with
    | bad => rw [e2] at p; exact p.elim
    | exc _ _ =>
      exfalso
      have key : ∀ (ds : List Pv.D) (st : Sto) (x : XV) (s2 : Sto), lcL s.keep t tt te (wipeD sl vs) ds st ≠ .exc x s2 := by
        intro ds
        induction ds with
        | nil => intro st x s2; unfold lcL; split <;> simp
        | cons d ds ih =>
          intro st x s2
          unfold lcL
          split
          · split
            · simp
            · split
              · split
                · split <;> simp
                · simp
              · exact ih _ _ _
              · simp
          · simp
      exact key _ _ _ _ e2
    | ok ys st2 =>
      rw [e2] at p
      simp only [R.bind_ok] at p
      split at p
      · rename_i hz
        simp only [R.bind_ok] at p
        refine lc_loop hin h1 (hs.ext x1) wk e2 hz hD fun W2 H2 xs b h2 hx l => ?_
        exact k ys st2 W2 H2 Dd xs (x1.trans b.e) h2 hx (x1.non _ (.of hD)) b.n b.f l p
      · exact p.elim
theorem Gd.blk (g : Gd X) {s : Shared} {H : Hp} {scope : Scope} {env : Env} {fp : List Addr} : Gd (X.blk s H scope env fp) := ⟨g.calm, g.nd, g.un, g.gu⟩
/-- nothing is raised inside a block -/
abbrev WF : WX := fun _ _ _ _ => False
/-- a block's context -/
abbrev Bk (X : Cx) (scope : Scope) (s : Shared) (H : Hp) (C : Addr) (cl : List (Str × Addr)) (fp : List Addr) : Cx := X.blk s H scope (compEnvC scope cl C X.env) fp
def GTs (X : Cx) (Wx : WX) (ifs : List Expr) (m : MT) : Prop := PTs X ifs (rdT (nv X) Wx m)
theorem gts_nil : GTs X Wx [] tYesM := ⟨fun pins s σ H Q I ⟨W, sl, st, hr, hs, p⟩ => pts_nil.run pins s σ H Q I (p W H .refl hr)⟩
theorem gts_one {c : Expr} {t : MT} (h : GT X Wx c t) : GTs X Wx [c] t := pts_one h
section
variable {elt kx tg iter : Expr} {ifs : List Expr} {scope : Scope} {own : List (Str × Nat)} {pos : Pos} {mi : MI} {t : CT} {tt : MT} {te tk : M}
theorem ge_lc (own : List (Str × Nat)) (t : CT) (g : Gd X) (hi : GI X Wx tg iter mi) (ok : BlkOk X.N X.env.scope scope own)
    (hg : ∀ s H C cl fp, Gd (Bk X scope s H C cl fp) → PG (Bk X scope s H C cl fp) tg (gct X.K t)) (ht : ∀ s H C cl fp, Gd (Bk X scope s H C cl fp) → GTs (Bk X scope s H C cl fp) WF ifs tt)
    (he : ∀ s H C cl fp, Gd (Bk X scope s H C cl fp) → GE (Bk X scope s H C cl fp) WF elt te) (hin : ctIn t (own.map (·.2)) = true := by rfl) (hs : ∀ x, foldedSetIterable iter X.env x = pure x := by intro _; rfl) :
    GE X Wx (.ListComp elt [⟨tg, iter, ifs, 0⟩] scope pos) (mLc mi t tt te (own.map (·.2))) := by
  refine PE.imp (pe_lc (tt := rdT (nv X) WF tt) (te := rd (nv X) WF te) g.calm g.nd hi ok (fun s H C cl fp => hg s H C cl fp g.blk) (fun s H C cl fp => ht s H C cl fp g.blk) (fun s H C cl fp => he s H C cl fp g.blk) hs) fun sh H Q ⟨W, sl, st, hr, hs, p⟩ => ?_
  refine lc_read hin hr hs p fun ys st2 W1 H1 Dd xs x1 h1 hD hn0 hn hF l p1 => ?_
  have h2 := HR.keepF h1 hD hn hF
  have x2 : Ext W H ⟨upd W1.F Dd (.lst xs), W1.rho⟩ H1 := by
    refine ⟨fun b o e => ?_, x1.rh, x1.out, x1.non, fun b o e => ?_⟩
    · show upd W1.F Dd (.lst xs) b = some o
      by_cases hb : b = Dd
      · subst hb; rw [x1.fr _ _ e] at hF; cases hF
      · rw [upd_ne hb]; exact x1.fr _ _ e
    · have e' : upd W1.F Dd (.lst xs) b = some o := e
      by_cases hb : b = Dd
      · subst hb; exact .inr (.inl hn0)
      · rw [upd_ne hb] at e'; exact x1.nf _ _ e'
  refine p1 _ (.ref Dd) H1 x2 h2 ⟨Dd, xs, rfl, upd_same, repL_mono (W := W1) (W' := ⟨upd W1.F Dd (.lst xs), W1.rho⟩) (fun b o e => ?_) (fun _ _ z => z) ys l⟩
  show upd W1.F Dd (.lst xs) b = some o
  by_cases hb : b = Dd
  · subst hb; rw [hF] at e; cases e
  · rw [upd_ne hb]; exact e
theorem post_asg {m : M} {i : Nat} {D : Ends} (hs : SR N.K W sh sl) (p : PostS N sh.length Wx W H D (sAsg m (tgName i) sl st)) : Post N W H (fun v H1 => D.nx (sh.set i (some v)) H1) (fun cls dd H' => Wx cls dd sh H') (m sl st) := by
  unfold sAsg at p
  cases e : m sl st with
  | bad => rw [e] at p; exact p
  | exc x s2 => rw [e] at p; exact fun W1 c dd H1 x1 a b => p W1 sh c dd H1 rfl x1 a b
  | ok d st1 =>
    rw [e] at p
    exact fun W1 v H1 x1 h1 r1 => p W1 _ H1 (by simp) x1 h1 ((hs.ext x1).set i r1)
/-- name = [..] on one line, the name a local -/
theorem gs_setLc {i : Nat} {y : Str} {py spos : Pos} (own : List (Str × Nat)) (t : CT) (g : Gd X) (hy : X.N[i]? = some y) (hyl : X.env.scope.names.lookup y = some .local)
    (hsw : swapsWith (.ListComp elt [⟨tg, iter, ifs, 0⟩] scope pos) (some (.Name y py)) spos.line X.env = pure true) (hi : GI X Wx tg iter mi) (ok : BlkOk X.N X.env.scope scope own)
    (hg : ∀ s H C cl fp, Gd (Bk X scope s H C cl fp) → PG (Bk X scope s H C cl fp) tg (gct X.K t)) (ht : ∀ s H C cl fp, Gd (Bk X scope s H C cl fp) → GTs (Bk X scope s H C cl fp) WF ifs tt)
    (he : ∀ s H C cl fp, Gd (Bk X scope s H C cl fp) → GE (Bk X scope s H C cl fp) WF elt te) (hin : ctIn t (own.map (·.2)) = true := by rfl) (hs : ∀ x, foldedSetIterable iter X.env x = pure x := by intro _; rfl) :
    GS X Wx (.Assign [.Name y py] (.ListComp elt [⟨tg, iter, ifs, 0⟩] scope pos) spos) (sAsg (mLc mi t tt te (own.map (·.2))) (tgName i)) := by
  refine PS.imp (ps_setLc (tt := rdT (nv X) WF tt) (te := rd (nv X) WF te) g.calm g.nd hy hyl hsw hi ok (fun s H C cl fp => hg s H C cl fp g.blk) (fun s H C cl fp => ht s H C cl fp g.blk) (fun s H C cl fp => he s H C cl fp g.blk) hs) fun D sh H ⟨W, sl, st, hr, hs, p⟩ => ?_
  refine lc_read (Q := fun v H1 => gName i v sh H1 D.nx) hin hr hs (post_asg hs p) fun ys st2 W1 H1 Dd xs x1 h1 hD hn0 hn hF l p1 => ?_
  have h2 := HR.keepF h1 hD hn hF
  have x2 : Ext W H ⟨upd W1.F Dd (.lst xs), W1.rho⟩ H1 := by
    refine ⟨fun b o e => ?_, x1.rh, x1.out, x1.non, fun b o e => ?_⟩
    · show upd W1.F Dd (.lst xs) b = some o
      by_cases hb : b = Dd
      · subst hb; rw [x1.fr _ _ e] at hF; cases hF
      · rw [upd_ne hb]; exact x1.fr _ _ e
    · have e' : upd W1.F Dd (.lst xs) b = some o := e
      by_cases hb : b = Dd
      · subst hb; exact .inr (.inl hn0)
      · rw [upd_ne hb] at e'; exact x1.nf _ _ e'
  refine p1 _ (.ref Dd) H1 x2 h2 ⟨Dd, xs, rfl, upd_same, repL_mono (W := W1) (W' := ⟨upd W1.F Dd (.lst xs), W1.rho⟩) (fun b o e => ?_) (fun _ _ z => z) ys l⟩
  show upd W1.F Dd (.lst xs) b = some o
  by_cases hb : b = Dd
  · subst hb; rw [hF] at e; cases e
  · rw [upd_ne hb]; exact e
end
end
end Pv
set_option Elab.async false
set_option linter.all false
set_option maxRecDepth 100000
set_option maxHeartbeats 4000000
namespace Pv
open PySem PySem.Spec L2
open PyProof.Rows hiding St
mutual
def fz (g : Nat → Option Pv.D) : Pv.D → Option Pv.D
  | .list ds => (fzL g ds).map .list
  | .tuple ds => (fzL g ds).map .tuple
  | .dict [(.int i, .none)] => g i.toNat
  | .dict [(.none, .tuple ds)] => (fzL g ds).map Gc
  | .dict [(.none, .list ds)] => (fzL g ds).map Gs
  | .dict _ => none
  | .none => some .none
  | .bool b => some (.bool b)
  | .int i => some (.int i)
  | .str x => some (.str x)
def fzL (g : Nat → Option Pv.D) : List Pv.D → Option (List Pv.D)
  | [] => some []
  | d :: ds => (fz g d).bind fun e => (fzL g ds).map (e :: ·)
end
def lookF : Nat → Nat → Sto → Nat → Option Pv.D
  | k, n, st, r => if r < n then some (Rf r) else match k with
    | 0 => none
    | k + 1 => match st[r]? with
      | some (.lst ds) => (fzL (lookF k n st) ds).map .list
      | _ => none
def fzP {κ : Type} (g : Nat → Option Pv.D) : List (κ × Pv.D) → Option (List (κ × Pv.D))
  | [] => some []
  | p :: ps => (fz g p.2).bind fun e => (fzP g ps).map ((p.1, e) :: ·)
def fzO (g : Nat → Option Pv.D) : MO → Option MO
  | .lst ds => (fzL g ds).map .lst
  | .ro ds => (fzL g ds).map .ro
  | .dct kvs => (fzP g kvs).map .dct
  | .dctT kvs => (fzP g kvs).map .dctT
  | .tb P q => some (.tb P q)
def fzS (g : Nat → Option Pv.D) : Sto → Option Sto
  | [] => some []
  | m :: ms => (fzO g m).bind fun e => (fzS g ms).map (e :: ·)
def finR (n : Nat) (r : R Pv.D) : R Pv.D :=
  match r with
  | .ok d st => if st.length = n then .ok d st else (match fz (lookF 6 n st) d, fzS (lookF 6 n st) (st.take n) with | some d', some st' => .ok d' st' | _, _ => .bad)
  | .exc x st => if st.length = n then .exc x st else (match fzP (lookF 6 n st) x.2, fzS (lookF 6 n st) (st.take n) with | some fs, some st' => .exc (x.1, fs) st' | _, _ => .bad)
  | .bad => .bad
section
variable {K : PySem.W.Frag} {W W' W1 W2 : Wd} {H H1 : Hp} {st st1 : Sto} {g : Nat → Option Pv.D}
mutual
theorem fz_rep (hg : ∀ r a e, W1.rho[r]? = some a → g r = some e → rep K W2 (.ref a) e) (hF : ∀ b o, W1.F b = some o → W2.F b = some o) : ∀ (d : Pv.D) (v : V) (e : Pv.D), rep K W1 v d → fz g d = some e → rep K W2 v e
  | .none, _, _, h, q => by cases q; exact h
  | .bool _, _, _, h, q => by cases q; exact h
  | .int _, _, _, h, q => by cases q; exact h
  | .str _, _, _, h, q => by cases q; exact h
  | .list ds, _, _, ⟨a, xs, e1, e2, l⟩, q => by
    obtain ⟨es, q1, q2⟩ := Option.map_eq_some_iff.mp q
    subst q2
    exact ⟨a, xs, e1, hF _ _ e2, fzL_rep hg hF ds xs es l q1⟩
  | .tuple ds, _, _, ⟨a, xs, e1, e2, l⟩, q => by
    obtain ⟨es, q1, q2⟩ := Option.map_eq_some_iff.mp q
    subst q2
    exact ⟨a, xs, e1, hF _ _ e2, fzL_rep hg hF ds xs es l q1⟩
  | .dict [(.int i, .none)], _, _, ⟨r, a, e1, e2, e3⟩, q => by
    subst e1; subst e2
    exact hg r a _ e3 q
  | .dict [(.none, .tuple ds)], _, _, ⟨a, xs, e1, e2, l⟩, q => by
    obtain ⟨es, q1, q2⟩ := Option.map_eq_some_iff.mp q
    subst q2
    exact ⟨a, xs, e1, e2.mono hF, fzL_rep hg hF ds xs es l q1⟩
  | .dict [(.none, .list ds)], _, _, ⟨a, xs, e1, e2, l⟩, q => by
    obtain ⟨es, q1, q2⟩ := Option.map_eq_some_iff.mp q
    subst q2
    exact ⟨a, xs, e1, sqL_mono hF e2, fzL_rep hg hF ds xs es l q1⟩
theorem fzL_rep (hg : ∀ r a e, W1.rho[r]? = some a → g r = some e → rep K W2 (.ref a) e) (hF : ∀ b o, W1.F b = some o → W2.F b = some o) : ∀ (ds : List Pv.D) (vs : List V) (es : List Pv.D), repL K W1 vs ds → fzL g ds = some es → repL K W2 vs es
  | [], _, _, h, q => by cases q; exact h
  | d :: ds, _, _, ⟨v, us, e1, r, l⟩, q => by
    obtain ⟨e, q1, q2⟩ := Option.bind_eq_some_iff.mp q
    obtain ⟨es, q3, q4⟩ := Option.map_eq_some_iff.mp q2
    subst q4
    exact ⟨v, us, e1, fz_rep hg hF d v e r q1, fzL_rep hg hF ds us es l q3⟩
end
theorem fzP_rep {κ : Type} (hg : ∀ r a e, W1.rho[r]? = some a → g r = some e → rep K W2 (.ref a) e) (hF : ∀ b o, W1.F b = some o → W2.F b = some o) {ks : List (κ × V)} {kvs es : List (κ × Pv.D)} (h : repP K W1 ks kvs) (q : fzP g kvs = some es) : repP K W2 ks es := by
  induction h generalizing es with
  | nil => cases q; exact .nil
  | cons h _ ih =>
    obtain ⟨e, q1, q2⟩ := Option.bind_eq_some_iff.mp q
    obtain ⟨es', q3, q4⟩ := Option.map_eq_some_iff.mp q2
    subst q4
    exact .cons ⟨h.1, fz_rep hg hF _ _ _ h.2 q1⟩ (ih q3)
theorem fzO_rep (hg : ∀ r a e, W1.rho[r]? = some a → g r = some e → rep K W2 (.ref a) e) (hF : ∀ b o, W1.F b = some o → W2.F b = some o) {a : Addr} {m m' : MO} (h : repO K W1 H a m) (q : fzO g m = some m') : repO K W2 H a m' := by
  cases m with
  | lst ds => obtain ⟨es, q1, q2⟩ := Option.map_eq_some_iff.mp q; subst q2; obtain ⟨xs, h1, h2⟩ := h; exact ⟨xs, h1, fzL_rep hg hF _ _ _ h2 q1⟩
  | ro ds => obtain ⟨es, q1, q2⟩ := Option.map_eq_some_iff.mp q; subst q2; obtain ⟨o, xs, h1, h2⟩ := h; exact ⟨o, xs, h1, fzL_rep hg hF _ _ _ h2 q1⟩
  | dct ds => obtain ⟨es, q1, q2⟩ := Option.map_eq_some_iff.mp q; subst q2; obtain ⟨xs, h1, h2⟩ := h; exact ⟨xs, h1, fzP_rep hg hF h2 q1⟩
  | dctT ds => obtain ⟨es, q1, q2⟩ := Option.map_eq_some_iff.mp q; subst q2; obtain ⟨xs, h1, h2⟩ := h; exact ⟨xs, h1, fzP_rep hg hF h2 q1⟩
  | tb P q0 => cases q; exact h
theorem fzS_get {ms ms' : Sto} (q : fzS g ms = some ms') : ms'.length = ms.length ∧ ∀ (r : Nat) (m' : MO), ms'[r]? = some m' → ∃ m, ms[r]? = some m ∧ fzO g m = some m' := by
  induction ms generalizing ms' with
  | nil => cases q; exact ⟨rfl, fun r m' h => by simp at h⟩
  | cons m ms ih =>
    obtain ⟨e, q1, q2⟩ := Option.bind_eq_some_iff.mp q
    obtain ⟨es, q3, q4⟩ := Option.map_eq_some_iff.mp q2
    subst q4
    obtain ⟨l, f⟩ := ih q3
    refine ⟨by simp [l], fun r m' h => ?_⟩
    cases r with
    | zero => simp at h; subst h; exact ⟨m, rfl, q1⟩
    | succ r => exact f r m' (by simpa using h)
/-- the world behind a def's end -/
def isLo : Option HO → Bool
  | some (.lst _) => true
  | _ => false
def finW (n : Nat) (H : Hp) (W : Wd) : Wd := ⟨fun b => if b ∈ W.rho.drop n ∧ isLo (H b) = true then H b else W.F b, W.rho.take n⟩
theorem tbs_fz {g : Nat → Option Pv.D} : ∀ {ms ms' : Sto}, fzS g ms = some ms' → tbs ms' = tbs ms
  | [], _, q => by cases q; rfl
  | m :: ms, ms', q => by
    obtain ⟨e, q1, q2⟩ := Option.bind_eq_some_iff.mp q
    obtain ⟨es, q3, q4⟩ := Option.map_eq_some_iff.mp q2
    subst q4
    have ih := tbs_fz q3
    cases m with
    | tb P q0 => cases q1; simp [tbs, ih]
    | lst ds => obtain ⟨x, _, z⟩ := Option.map_eq_some_iff.mp q1; subst z; simp [tbs, ih]
    | ro ds => obtain ⟨x, _, z⟩ := Option.map_eq_some_iff.mp q1; subst z; simp [tbs, ih]
    | dct ds => obtain ⟨x, _, z⟩ := Option.map_eq_some_iff.mp q1; subst z; simp [tbs, ih]
    | dctT ds => obtain ⟨x, _, z⟩ := Option.map_eq_some_iff.mp q1; subst z; simp [tbs, ih]
theorem tbs_take : ∀ (st : Sto) (n : Nat), ∀ p ∈ tbs (st.take n), p ∈ tbs st
  | [], _, p, h => by simp [tbs] at h
  | m :: st, 0, p, h => by simp [tbs] at h
  | m :: st, n + 1, p, h => by
    have h' : p ∈ tbs (m :: st.take n) := h
    cases m with
    | tb P q =>
      rcases List.mem_cons.mp h' with e | e
      · subst e; exact List.mem_cons_self
      · exact List.mem_cons_of_mem _ (tbs_take st n p e)
    | _ => exact tbs_take st n p h'
theorem finW_F (h : HR K W1 H1 st1) {n : Nat} : ∀ b o, W1.F b = some o → (finW n H1 W1).F b = some o := fun b o e => by
  show (if b ∈ W1.rho.drop n ∧ isLo (H1 b) = true then H1 b else W1.F b) = some o
  split
  · exact h.sub _ _ e
  · exact e
theorem lookF_rep (h : HR K W1 H1 st1) {n : Nat} : ∀ (k : Nat) (r : Nat) (a : Addr) (e : Pv.D), W1.rho[r]? = some a → lookF k n st1 r = some e → rep K (finW n H1 W1) (.ref a) e := by
  intro k
  induction k with
  | zero =>
    intro r a e hr q
    unfold lookF at q
    split at q
    · rename_i hlt
      cases q
      exact ⟨r, a, rfl, rfl, by show (W1.rho.take n)[r]? = some a; rw [List.getElem?_take_of_lt hlt]; exact hr⟩
    · cases q
  | succ k ih =>
    intro r a e hr q
    unfold lookF at q
    split at q
    · rename_i hlt
      cases q
      exact ⟨r, a, rfl, rfl, by show (W1.rho.take n)[r]? = some a; rw [List.getElem?_take_of_lt hlt]; exact hr⟩
    · rename_i hlt
      simp only at q
      split at q
      · rename_i ds hd
        obtain ⟨es, q1, q2⟩ := Option.map_eq_some_iff.mp q
        subst q2
        obtain ⟨hF, xs, h1, h2⟩ := h.obj r a _ hr hd
        refine ⟨a, xs, rfl, ?_, fzL_rep ih (finW_F h) ds xs es h2 q1⟩
        show (if a ∈ W1.rho.drop n ∧ isLo (H1 a) = true then H1 a else W1.F a) = _
        rw [if_pos]
        · exact h1
        · refine ⟨?_, by rw [h1]; rfl⟩
          rw [List.mem_iff_getElem?]
          exact ⟨r - n, by rw [List.getElem?_drop]; rw [show n + (r - n) = r by omega]; exact hr⟩
      · cases q
/-- the end: what was made since the beginning is data now -/
theorem fin_hr {st' : Sto} (h : HR K W1 H1 st1) (x : Ext W H W1 H1) (n : Nat) (hn : W.rho.length = n) (k : Nat) (q : fzS (lookF k n st1) (st1.take n) = some st') : HR K (finW n H1 W1) H1 st' ∧ Ext W H (finW n H1 W1) H1 := by
  obtain ⟨l, f⟩ := fzS_get q
  obtain ⟨t, ht, hnew⟩ := x.rh
  have htake : W1.rho.take n = W.rho := by rw [ht, ← hn]; simp
  have hdrop : W1.rho.drop n = t := by rw [ht, ← hn]; simp
  refine ⟨⟨?_, h.nd.sublist (List.take_sublist _ _), fun b o e => ?_, fun r a m e1 e2 => ?_, fun p hp => h.tab p (tbs_take _ _ p (by rw [← tbs_fz q]; exact hp)), fun b ps e => ?_⟩, ⟨fun b o e => finW_F h b o (x.fr b o e), ⟨[], by show W1.rho.take n = _; rw [htake]; simp, fun _ z => by cases z⟩, x.out, x.non, fun b o e => ?_⟩⟩
  · show (W1.rho.take n).length = _
    rw [l, List.length_take, List.length_take, h.len]
  · have e' : (if b ∈ W1.rho.drop n ∧ isLo (H1 b) = true then H1 b else W1.F b) = some o := e
    split at e'
    · exact e'
    · exact h.sub _ _ e'
  · have e1' : (W1.rho.take n)[r]? = some a := e1
    have hlt : r < n := by
      have := (List.getElem?_eq_some_iff.mp e1').1
      rw [List.length_take] at this; omega
    rw [List.getElem?_take_of_lt hlt] at e1'
    obtain ⟨m0, g1, g2⟩ := f r m e2
    rw [List.getElem?_take_of_lt hlt] at g1
    obtain ⟨p, o⟩ := h.obj r a m0 e1' g1
    refine ⟨?_, fzO_rep (lookF_rep h k) (finW_F h) o g2⟩
    show (if a ∈ W1.rho.drop n ∧ isLo (H1 a) = true then H1 a else W1.F a) = none
    rw [if_neg]
    · exact p
    · rintro ⟨hm, _⟩
      obtain ⟨j, hj⟩ := List.mem_iff_getElem?.mp hm
      rw [List.getElem?_drop] at hj
      have := (List.getElem?_inj (List.getElem?_eq_some_iff.mp e1').1 h.nd).mp (e1'.trans hj.symm)
      omega
  · have e' : (if b ∈ W1.rho.drop n ∧ isLo (H1 b) = true then H1 b else W1.F b) = some (.tbl ps) := e
    split at e'
    · rename_i hm; rw [e'] at hm; cases hm.2
    · exact h.nt b ps e'
  · have e' : (if b ∈ W1.rho.drop n ∧ isLo (H1 b) = true then H1 b else W1.F b) = some o := e
    split at e'
    · rename_i hm; have hm := hm.1; rw [hdrop] at hm; exact .inr (.inl (hnew b hm))
    · exact x.nf _ _ e'
theorem fin_post {N : Nv} {Q : VK} {E : XK} {r : R Pv.D} (hr : HR N.K W H st) (p : Post N W H Q E (finR st.length r)) : Post N W H Q E r := by
  cases r with
  | bad => exact p
  | ok d st1 =>
    intro W1 v H1 x1 h1 r1
    unfold finR at p
    simp only at p
    split at p
    · exact p W1 v H1 x1 h1 r1
    · split at p
      · rename_i d' st' q1 q2
        obtain ⟨a, b⟩ := fin_hr h1 x1 st.length hr.len 6 q2
        exact p _ v H1 b a (fz_rep (lookF_rep h1 6) (finW_F h1) d v d' r1 q1)
      · exact p.elim
  | exc x st1 =>
    intro W1 c dd H1 x1 h1 r1
    unfold finR at p
    simp only at p
    split at p
    · exact p W1 c dd H1 x1 h1 r1
    · split at p
      · rename_i fs st' q1 q2
        obtain ⟨a, b⟩ := fin_hr h1 x1 st.length hr.len 6 q2
        obtain ⟨C, e1, e2, d, gs, e3, e4, e5⟩ := r1
        exact p _ c dd H1 b a ⟨C, e1, e2, d, gs, e3, finW_F h1 _ _ e4, fzP_rep (lookF_rep h1 6) (finW_F h1) e5 q1⟩
      · exact p.elim
end
abbrev Fn := List Pv.D → Sto → R Pv.D
def startD (n : Nat) (ds : List Pv.D) : Sl := ds.map some ++ List.replicate (n - ds.length) none
/-- the body run, its objects kept (fnK) or made data (fnP) -/
def endR (r : RS) : R Pv.D :=
  match r with
  | .nx _ st => .ok .none st
  | .rt d st => .ok d st
  | .exc x st => .exc x st
  | .bk _ _ => .bad
  | .ct _ _ => .bad
  | .bad => .bad
def fnK (n : Nat) (body : MS) : Fn := fun ds st => endR (body (startD n ds) st)
def fnP (n : Nat) (body : MS) : Fn := fun ds st => finR st.length (endR (body (startD n ds) st))
def spF (N : Nv) (n : Nat) (F : Fn) : Sp := fun vs H Q E => ∃ W ds st, HR N.K W H st ∧ repL N.K W vs ds ∧ ds.length = n ∧ Post N W H Q E (F ds st)
/-- as FnOk, around callers none of whom is held by a guard -/
structure FnG (P : Program) (w : World) (K : PySem.W.Frag) (mg : Str → Option Value) (base : Heap) (k : Nat) (f : Addr) (fd : FuncData) (ps : List Str) (F : Fn) : Prop where
  run : ∀ (A : Around) (outer : List Env) (s : Shared) (H : Hp) (args : Args) (us : List Value) (vs : List V) (Q : VK) (E : XK), Room k A → A.guards = some [] → Env0 P w K mg base A outer s H → BindsTo s fd args (ps.zip us) → Vals vs us → spF ⟨K, mg⟩ ps.length F vs H Q E →
    codeAny (model P w) A (.call (.ref f) args) (CR (L2.CX P w) outer P w H s Q E) s
theorem FnG.mono {P : Program} {w : World} {K : PySem.W.Frag} {mg : Str → Option Value} {base : Heap} {j k : Nat} {f : Addr} {fd : FuncData} {ps : List Str} {F : Fn} (g : FnG P w K mg base j f fd ps F) (h : j ≤ k) : FnG P w K mg base k f fd ps F :=
  ⟨fun A outer s H args us vs Q E hr => g.run A outer s H args us vs Q E (hr.mono h)⟩
theorem start_rep {K : PySem.W.Frag} {W : Wd} {Ns : List Str} {vs : List V} {ds : List Pv.D} (l : repL K W vs ds) : SR K W (L2.start Ns vs) (startD Ns.length ds) := by
  have e := repL_length l
  refine ⟨by unfold L2.start startD; simp [e], fun i d h => ?_⟩
  unfold startD at h
  unfold L2.start
  by_cases hi : i < ds.length
  · rw [List.getElem?_append_left (by simpa using hi), List.getElem?_map] at h
    rw [List.getElem?_append_left (by simpa [e] using hi), List.getElem?_map]
    cases q : ds[i]? with
    | none => rw [q] at h; cases h
    | some d' =>
      rw [q] at h
      cases h
      obtain ⟨v, a, b⟩ := repL_get i l q
      exact ⟨v, by rw [a]; rfl, b⟩
  · rw [List.getElem?_append_right (by simpa using hi), List.getElem?_replicate] at h
    split at h <;> cases h
theorem gd_of {X : Cx} {k : Nat} (hc : X.calm = true) (nd : X.N.Nodup) (r : Room k X.A) (gu : X.A.guards = some []) : Gd X := ⟨hc, nd, by have := r.un; omega, gu⟩
/-- the body's end, read back -/
theorem end_posts {N : Nv} {W : Wd} {H : Hp} {Q : VK} {E : XK} {n : Nat} {r : RS} (p : Post N W H Q E (endR r)) : PostS N n (fun cls dd _ H' => E cls dd H') W H { nx := fun _ H' => Q .non H', rt := Q } r := by
  cases r with
  | nx sl st => exact fun W1 sh H1 l x h s => p W1 .non H1 x h rfl
  | rt d st => exact fun W1 v H1 x h r => p W1 v H1 x h r
  | exc x st => exact fun W1 sh c dd H1 l e h r => p W1 c dd H1 e h r
  | bk _ _ => exact p.elim
  | ct _ _ => exact p.elim
  | bad => exact p.elim
section
variable {P : Program} {w : World} {K : PySem.W.Frag} {mg : Str → Option Value} {base : Heap}
/-- a body's context -/
abbrev Cb (P : Program) (w : World) (K : PySem.W.Frag) (mg : Str → Option Value) (base : Heap) (Ns : List Str) (qual : Str) (st : Stmt) (f : Addr) (cdv : Value) (A : Around) (outer : List Env) (s : Shared) (H : Hp) (E : XK) : Cx :=
  cxOf (L2.CX P w) P w K mg base Ns qual (defScope st) f cdv A outer s H E
abbrev Ew (E : XK) : WX := fun cls dd _ H' => E cls dd H'
/-- a def whose code object is named -/
def FunCd (K : PySem.W.Frag) (x qual : Str) (st : Stmt) (f : Addr) (fd : FuncData) (cdv : Value) : Prop :=
  ∃ (oc : Value) (od : Option Addr) (kV doc pm : Value) (an : Option Addr) (ct : Value) (osl : Array (Option Value)),
    fd = PySem.W.fnOf x qual (defArgs st) (defBody st) (defScope st) .none kV doc pm an cdv ct ∧ K.lookup f = some ⟨oc, od, .func fd, osl⟩ ∧ PySem.W.codeIn K cdv qual = true
theorem fnG_cd {x qual : Str} {st : Stmt} {f : Addr} {fd : FuncData} {cdv : Value} {Ns ps : List Str} {k : Nat} {m : MS} {F : Fn} (h : FunCd K x qual st f fd cdv) (S : FnScope Ns ps (defScope st))
    (hF : F = fnK Ns.length m ∨ F = fnP Ns.length m)
    (hb : ∀ A outer s H E, Gd (Cb P w K mg base Ns qual st f cdv A outer s H E) → Room k (Cb P w K mg base Ns qual st f cdv A outer s H E).A → Takes (Cb P w K mg base Ns qual st f cdv A outer s H E) (Ew E) →
      PassesOwn (model P w) (Cb P w K mg base Ns qual st f cdv A outer s H E).A (Cb P w K mg base Ns qual st f cdv A outer s H E).env (Cb P w K mg base Ns qual st f cdv A outer s H E).xe →
      GSs (Cb P w K mg base Ns qual st f cdv A outer s H E) (Ew E) (defBody st) m) : FnG P w K mg base (k + 1) f fd ps F := by
  obtain ⟨oc, od, kV, doc, pm, an, ct, osl, rfl, lk, hcd⟩ := h
  constructor
  intro A outer s H args us vs Q E hr hgu e0 hbn rv hsp
  obtain ⟨W, ds, st0, hR, hL, hl, hP⟩ := hsp
  have hlv : vs.length = ps.length := (repL_length hL).trans hl
  have kin := e0.mod.kin.keeps fun b o e => (e0.bs b o e).1
  have nolim := e0.mod.nolimit.keeps fun b o e => (e0.bs b o e).1
  have kinds : ∀ y ∈ ps.zip us, (defScope st).names.lookup y.1 = some .local ∨ ((defScope st).names.lookup y.1 = some .cell ∧ ((cellsFrom (s.heap.objs.size + 1) (defScope st).names []).lookup y.1).isSome = true) := by
    intro y hy
    obtain ⟨nm, u⟩ := y
    cases S.par nm (List.of_mem_zip hy).1 with
    | inl q => exact Or.inl q
    | inr q => exact Or.inr ⟨q, PySem.W.cellsFrom_some _ _ _ (Or.inl q)⟩
  have rest : Room k (A.deeper (envOfC qual (defScope st) s.heap.objs.size f cdv)) := hr.deeper _
  refine codeAny_call_function hr.depth (kin _ _ lk) rfl S.co S.gen rfl (PySem.W.codeRec_of kin hcd) (hbn _ _ _ _ (wpAny_newFunctionEnv_cells S.kind kinds ?_))
  intro env hen s1 xin
  subst hen
  refine ⟨nolim.keeps xin.toInCall.keep, codeAny_func ?_⟩
  have G : Gd (Cb P w K mg base Ns qual st f cdv A outer s H E) := gd_of (k := k) rfl S.nd rest hgu
  have B := hb A outer s H E G rest (takes_of rfl rfl rfl rfl) (passes_of rfl)
  have I := inv_start (CX := L2.CX P w) (w := w) (cd := cdv) (E := E) S hr.hd e0 hlv rv xin
  have hP' : Post ⟨K, mg⟩ W H Q E (endR (m (startD Ns.length ds) st0)) := by
    rcases hF with q | q
    · subst q; exact hP
    · subst q; exact fin_post hR hP
  have J := B.run [] s1 (L2.start Ns vs) H { nx := fun _ H' => Q .non H', rt := Q } I ⟨W, _, st0, hR, start_rep hL, end_posts hP'⟩
  refine wpAny_mono J ?_ fun e s' z => z
  intro fl s' z
  cases fl with
  | ret u => obtain ⟨v, σ', H', I', q1, q2⟩ := z; exact ⟨v, H', I'.os, I'.bare, I'.base, I'.hok, q1, q2⟩
  | next => obtain ⟨σ', H', I', q2⟩ := z; exact ⟨V.non, H', I'.os, I'.bare, I'.base, I'.hok, rfl, q2⟩
  | brk => obtain ⟨_, _, _, z⟩ := z; exact z.elim
  | cont => obtain ⟨_, _, _, z⟩ := z; exact z.elim
theorem fnG_of {x qual : Str} {st : Stmt} {f : Addr} {fd : FuncData} {Ns ps : List Str} {k : Nat} {m : MS} {F : Fn} (h : Fun K x qual st f fd) (S : FnScope Ns ps (defScope st))
    (hF : F = fnK Ns.length m ∨ F = fnP Ns.length m)
    (hb : ∀ cdv A outer s H E, Gd (Cb P w K mg base Ns qual st f cdv A outer s H E) → Room k (Cb P w K mg base Ns qual st f cdv A outer s H E).A → Takes (Cb P w K mg base Ns qual st f cdv A outer s H E) (Ew E) →
      PassesOwn (model P w) (Cb P w K mg base Ns qual st f cdv A outer s H E).A (Cb P w K mg base Ns qual st f cdv A outer s H E).env (Cb P w K mg base Ns qual st f cdv A outer s H E).xe →
      GSs (Cb P w K mg base Ns qual st f cdv A outer s H E) (Ew E) (defBody st) m) : FnG P w K mg base (k + 1) f fd ps F := by
  obtain ⟨oc, od, kV, doc, pm, an, cdv, ct, osl, rfl, lk, hcd⟩ := h.ex
  exact fnG_cd ⟨oc, od, kV, doc, pm, an, ct, osl, rfl, lk, hcd⟩ S hF fun A outer s H E => hb cdv A outer s H E
end
def mCall (fn : Fn) (ms : Ms) : M := fun sl st => (ms sl st).bind fn
/-- a def as the text's bodies call it -/
structure Df (P : Program) (w : World) (K : PySem.W.Frag) (mg : Str → Option Value) (base : Heap) (k : Nat) (x : Str) (f : Addr) (fd : FuncData) (ps : List Str) (F : Fn) : Prop where
  fn : FnG P w K mg base k f fd ps F
  mg : mg x = some (.ref f)
  kp : PySem.W.keepIn K (.ref f) = true
  bd : Binds K fd ps []
theorem Df.mono {P : Program} {w : World} {K : PySem.W.Frag} {mg : Str → Option Value} {base : Heap} {j k : Nat} {x : Str} {f : Addr} {fd : FuncData} {ps : List Str} {F : Fn} (d : Df P w K mg base j x f fd ps F) (h : j ≤ k) : Df P w K mg base k x f fd ps F :=
  ⟨d.fn.mono h, d.mg, d.kp, d.bd⟩
section
variable {X : Cx} {Wx : WX} {k j : Nat} {f : Addr} {fd : FuncData} {ps : List Str} {F : Fn} {x : Str} {p pos : Pos} {e : Expr} {es : List Expr} {ms : Ms}
theorem run_G {pins : List (Addr × Obj)} {H : Hp} {s : Shared} {Q : VK} {args : Args} {us : List Value} {vs : List V} {sh : L2.St} (fn : FnG X.prog X.w X.K X.mg X.base k f fd ps F) (hr : Room k X.A) (g : Gd X) (tk : Takes X Wx)
    (I : Inv X pins sh H s) (b : BindsTo s fd args (ps.zip us)) (r : Vals vs us) (h : spF ⟨X.K, X.mg⟩ ps.length F vs H Q (fun cls dd H' => Wx cls dd sh H')) : wpAny (model X.prog X.w) X.A (call (.ref f) args.pos args.kw) (EP X pins sh Q) X.xe s := by
  have c := fn.run X.A X.stack s H args us vs Q _ hr g.gu I.env0 b r h
  refine wpAny_call (codeAny_mono c ?_)
  intro rr s' z
  cases rr with
  | error u => exact passAt tk sh pins H s u s' I z
  | ok fl => cases fl with
    | ret u => exact I.after z
    | next => exact z.elim
    | brk => exact z.elim
    | cont => exact z.elim
theorem ms_read {ms : Ms} {N : Nv} {W : Wd} {H : Hp} {sl : Sl} {st : Sto} {sh : L2.St} {n : Nat} {Q : VK} (hn : ∀ sl st ds st', ms sl st = .ok ds st' → ds.length = n) (hr : HR N.K W H st) (hs : SR N.K W sh sl) (p : Post N W H Q (fun cls dd H' => Wx cls dd sh H') (mCall F ms sl st)) :
    rdL N Wx ms sh H fun vs H1 => spF N n F vs H1 Q fun cls dd H' => Wx cls dd sh H' :=
  rdL_bind hr hs p fun ds st1 W1 vs H1 e1 x1 h1 s1 l1 p1 => ⟨W1, ds, st1, h1, l1, hn _ _ _ _ e1, p1⟩
/-- f(e, ..) -/
theorem ge_call (d : Df X.prog X.w X.K X.mg X.base k x f fd ps F) (hr : Room k X.A) (g : Gd X) (tk : Takes X Wx) (ha : GA X Wx (e :: es) ms) (hn : ∀ sl st ds st', ms sl st = .ok ds st' → ds.length = ps.length) (hg : Gl X x := by rfl) (hdb : (x == ("__debug__" : Str)) = false := by decide +kernel)
    (he : starEach (e :: es) X.env = (false, eval e X.env) :: starEach es X.env := by rfl) (hpl : (backTo pos (starEach es X.env)).any (·.1) = false := by rfl) : GE X Wx (.Call (.Name x p) (e :: es) [] pos) (mCall F ms) := by
  refine ⟨fun pins s sh H Q I ⟨W, sl, st, hr', hs, q⟩ => wpAny_Call_Name_kw (ld_glob I hg d.mg ?_ hdb)⟩
  refine PySem.W.callWith_K (h₀ := X.base) I.ok.mod.kin d.kp (thn (ha.run pos pins s sh H _ I (ms_read hn hr' hs q)) ?_) he hpl
  intro us s1 ⟨vs, H1, I1, r, q1⟩
  obtain ⟨_, ds, _, _, l1, l2, _⟩ := id q1
  have hl : us.length = ps.length := by rw [← r.length, repL_length l1, l2]
  have b := d.bd s1 us I1.kIn (by rw [List.append_nil]; exact hl)
  rw [List.append_nil] at b
  exact ⟨I1.kIn, run_G (args := ⟨us, []⟩) d.fn hr g tk I1 b r q1⟩
/-- keywords' values -/
def GK (X : Cx) (Wx : WX) (kws : List Keyword) (ms : Ms) : Prop := PK X kws (rdL (nv X) Wx ms)
theorem gk_nil : GK X Wx [] msNil := ⟨fun pos pins s sh H Q I ⟨W, sl, st, hr, hs, q⟩ => pk_nil.run pos pins s sh H Q I (PostL.now (vs := []) hr q rfl)⟩
theorem gk_cons {nm : Option Str} {kpos : Pos} {kws : List Keyword} {m : M} (ha : GE X Wx e m) (hr : GK X Wx kws ms) : GK X Wx (⟨nm, e, kpos⟩ :: kws) (msCons m ms) := by
  refine ⟨fun pos pins s sh H Q I ⟨W, sl, st, hr', hs, q⟩ => (pk_cons ha hr).run pos pins s sh H Q I ?_⟩
  refine rd_bindL hr' hs q fun d1 st1 W1 v1 H1 e1 x1 h1 s1 r1 p1 => ?_
  refine rdL_bindL h1 s1 p1 fun ds st2 W2 vs H2 e2 x2 h2 s2 r2 p2 => ?_
  exact PostL.now h2 p2 ⟨v1, vs, rfl, x2.rep r1, r2⟩
/-- how a call by keywords alone binds -/
structure BindsK (K : PySem.W.Frag) (fd : FuncData) (ps ks : List Str) (g : {α : Type} → List α → List α) : Prop where
  to : ∀ (s : Shared) (ws : List Value), K.In s.heap → ws.length = ks.length → BindsTo s fd ⟨[], ks.zip ws⟩ (ps.zip (g ws))
  rep : ∀ {K : PySem.W.Frag} {W : Wd} {vs : List V} {ds : List Pv.D}, repL K W vs ds → vs.length = ks.length → repL K W (g vs) (g ds)
  rel : ∀ {vs : List V} {us : List Value}, Vals vs us → vs.length = ks.length → Vals (g vs) (g us)
  len : ∀ {ds : List Pv.D}, ds.length = ks.length → (g ds).length = ps.length
/-- f(k = v, ..) -/
theorem ge_callK0 {ks : List Str} {g' : {α : Type} → List α → List α} {kws : List Keyword} (d : Df X.prog X.w X.K X.mg X.base k x f fd ps F) (b : BindsK X.K fd ps ks g') (hr : Room k X.A) (g : Gd X) (tk : Takes X Wx) (ha : GK X Wx kws ms) (hn : ∀ sl st ds st', ms sl st = .ok ds st' → ds.length = ks.length)
    (hall : (backToKw pos (keywordEach kws X.env)).all (·.1.isSome) = true := by rfl) (hks : (backToKw pos (keywordEach kws X.env)).filterMap (·.1) = ks := by rfl) (hg : Gl X x := by rfl) (hdb : (x == ("__debug__" : Str)) = false := by decide +kernel)
    (hpl : ((backTo pos (starEach [] X.env)).any (·.1) || (backToKw pos (keywordEach kws X.env)).any (·.1.isNone)) = false := by rfl) : GE X Wx (.Call (.Name x p) [] kws pos) (mCall (fun ds => F (g' ds)) ms) := by
  refine ⟨fun pins s sh H Q I ⟨W, sl, st, hr', hs, q⟩ => wpAny_Call_Name_kw (ld_glob I hg d.mg ?_ hdb)⟩
  refine PySem.W.callWith_KW0 (h₀ := X.base) I.ok.mod.kin d.kp hall (thn (ha.run pos pins s sh H _ I (ms_read (n := ks.length) hn hr' hs q)) ?_) hpl
  intro us s1 ⟨vs, H1, I1, r, q1⟩
  obtain ⟨W1, ds, st1, h1, l1, l2, p1⟩ := q1
  have hv : vs.length = ks.length := (repL_length l1).trans l2
  rw [hks]
  refine ⟨I1.kIn, run_G (args := ⟨[], ks.zip us⟩) d.fn hr g tk I1 (b.to s1 us I1.kIn (r.length.symm.trans hv)) (b.rel r hv) ⟨W1, g' ds, st1, h1, b.rep l1 hv, b.len l2, p1⟩⟩
end
end Pv
set_option Elab.async false
set_option linter.all false
set_option maxRecDepth 100000
set_option maxHeartbeats 4000000
namespace Pv
open PySem PySem.Spec L2
open PyProof.Rows hiding St
inductive Ty where
  | non | bool | int | str | list | tuple | dict
  deriving DecidableEq
def Ty.name : Ty → String
  | .non => "NoneType"
  | .bool => "bool"
  | .int => "int"
  | .str => "str"
  | .list => "list"
  | .tuple => "tuple"
  | .dict => "dict"
def Ty.sub : Ty → Ty → Bool
  | .non, .non => true
  | .bool, .bool => true
  | .bool, .int => true
  | .int, .int => true
  | .str, .str => true
  | .list, .list => true
  | .tuple, .tuple => true
  | .dict, .dict => true
  | _, _ => false
theorem kit_all (a b : Ty) : kitB a.name b.name = some (a.sub b) := by cases a <;> cases b <;> decide +kernel
def tyD (st : Sto) (d : Pv.D) : Option Ty :=
  match d with
  | .none => some .non
  | .bool _ => some .bool
  | .int _ => some .int
  | .str _ => some .str
  | .list _ => some .list
  | .tuple _ => some .tuple
  | .dict [(.int r, .none)] => (match st[r.toNat]? with | some (.lst _) => some .list | some (.ro _) => some .list | some (.dct _) => some .dict | some (.dctT _) => some .dict | some (.tb _ _) => none | none => none)
  | _ => none
section
variable {X : Cx} {Wx : WX} {ea eb e : Expr} {ma mb : M} {pos p p2 : Pos} {K : PySem.W.Frag} {W : Wd} {H : Hp} {st : Sto} {v : V} {d : Pv.D}
theorem ty_rep {t : Ty} (hr : HR K W H st) (h : rep K W v d) (e : tyD st d = some t) : TyX K H v (.type t.name) := by
  cases d with
  | none => cases e; cases h; exact .base .non
  | bool b => cases e; cases h; exact .base (.bl b)
  | int i => cases e; cases h; exact .base (.int i)
  | str x => cases e; cases h; exact .base (.str x)
  | list ds => cases e; obtain ⟨a, xs, e1, e2, l⟩ := h; subst e1; exact .base (.lst (hr.sub _ _ e2))
  | tuple ds => cases e; obtain ⟨a, xs, e1, e2, l⟩ := h; subst e1; exact .base (.tup (hr.sub _ _ e2))
  | dict kvs =>
    unfold tyD at e
    split at e
    all_goals (first | (rename_i q; cases q; done) | skip)
    · rename_i i q
      rcases rep_dict h with ⟨r, a, e1, e2, e3⟩ | ⟨ds', a, xs, e1, _, _⟩ | ⟨ds', a, xs, e1, _, _⟩ | ⟨ae, ade, ce, nse, fse, he⟩
      rotate_left
      · subst e1; cases q
      · subst e1; cases q
      · subst he; cases q
      subst e1
      cases q
      rw [Int.toNat_natCast] at e
      obtain ⟨m, hm, _, ho⟩ := hr.at e3
      rw [hm] at e
      subst e2
      cases m with
      | lst ds => cases e; obtain ⟨xs, f, _⟩ := ho; exact .base (.lst f)
      | ro ds => cases e; obtain ⟨o, xs, f, _⟩ := ho; exact .base (.frz f)
      | dct ds => cases e; obtain ⟨xs, f, _⟩ := ho; exact .base (.dK f)
      | dctT ds => cases e; obtain ⟨xs, f, _⟩ := ho; exact .base (.dT f)
      | tb _ _ => cases e
    · cases e
def mIsi (T : Ty) (m : M) : M := fun sl st => (m sl st).bind fun d st => lift ((tyD st d).map fun t => .bool (t.sub T)) st
theorem ge_isi {y : Str} (T : Ty) (hm : X.mg "isinstance" = none) (hmy : X.mg y = none) (ha : GE X Wx ea ma) (hv : bootBuiltins y = some (.type T.name) := by decide +kernel) (hg : Gl X "isinstance" := by rfl) (hgy : Gl X y := by rfl) (hn : y ≠ "__name__" := by decide +kernel) (hd : (y == ("__debug__" : Str)) = false := by decide +kernel)
    (he : starEach [ea, .Name y p2] X.env = (false, eval ea X.env) :: starEach [.Name y p2] X.env := by rfl) (he2 : starEach [.Name y p2] X.env = (false, eval (.Name y p2) X.env) :: starEach [] X.env := by rfl) (hpl : (backTo pos (starEach [.Name y p2] X.env)).any (·.1) = false := by rfl) : GE X Wx (.Call (.Name "isinstance" p) [ea, .Name y p2] [] pos) (mIsi T ma) := by
  have hy : PE X (.Name y p2) (tC (.ty T.name)) := pe_bltn hgy hmy hv rfl hn hd
  refine PE.imp (pe_callB (call_isi (X := X)) hg hm (by decide +kernel) (pa_cons ha (pa_cons hy pa_nil he2) he) (by decide +kernel) (by decide +kernel) he hpl) fun sh H Q ⟨W, sl, st, hr, hs, q⟩ => ?_
  refine rd_bind hr hs q fun d1 st1 W1 v1 H1 e1 x1 h1 s1 r1 p1 => ?_
  cases ht : tyD st1 d1 with
  | none => rw [ht] at p1; exact p1.elim
  | some t =>
    rw [ht] at p1
    exact ⟨v1, .ty T.name, _, _, _, rfl, .ty _, ty_rep h1 r1 ht, kit_ty (kit_all t T), p1.val h1 rfl⟩
def reprD (st : Sto) (d : Pv.D) : Option Pv.D := if (deref st d).canLay0 = true ∧ (deref st d).showable = true ∧ (deref st d).depth ≤ 100 ∧ (deref st d).shown.length ≤ sizeLine then some (.str (deref st d).shown) else none
theorem call_reprD (g : Gd X) : CallR X (.builtin "repr") (fun xs H Q => ∃ v d, xs = [v] ∧ Dp X.K H v d ∧ d.canLay0 = true ∧ d.showable = true ∧ d.depth ≤ 100 ∧ d.shown.length ≤ sizeLine ∧ Q (.str d.shown) H) := by
  intro pins s sh H xs us Q I r ⟨v, d, ex, hd, hc, hs, hdp, hz, q⟩
  subst ex
  obtain ⟨u, rfl, ru⟩ := vals1 r
  have hu := g.un
  have read : ∀ (a : Addr), v = .ref a → wpAny (model X.prog X.w) X.A (call (.builtin "repr") [u]) (EP X pins sh Q) X.xe s := by
    intro a ev
    subst ev
    obtain ⟨as, rd⟩ := Dp.reads I d _ u hd ru
    cases (show u = Value.ref a from ru)
    exact repr_of_reads' rd hs (PyData.noDict_hsm (PyData.hasDict_of_canLay d hc)) g.gu (by omega) (fun _ _ e => e) (fun h' t tk k => ⟨.str d.shown, H, I.kept k, ⟨t, rfl⟩, q⟩) hz
  cases hd with
  | non => cases ru; exact PySem.P.repr_of_none ⟨.str _, H, I.tok _, ⟨_, rfl⟩, q⟩
  | bl b => cases ru; exact PySem.P.repr_of_bool ⟨.str _, H, I.tok _, ⟨_, rfl⟩, by cases b <;> exact q⟩
  | int i => obtain ⟨t, rfl⟩ := ru; exact PySem.P.repr_of_int (by simpa [PyData.showable] using hs) ⟨.str _, H, I.tok _, ⟨_, rfl⟩, q⟩
  | str x => obtain ⟨t, rfl⟩ := ru; exact PySem.P.repr_of_str ⟨.str _, H, I.tok _, ⟨_, rfl⟩, q⟩ hz
  | lst _ _ => exact read _ rfl
  | tup _ _ => exact read _ rfl
def mRepr (m : M) : M := fun sl st => (m sl st).bind fun d st => lift (reprD st d) st
def dMulS : Pv.D → Pv.D → Option Pv.D
  | .int i, .int j => if (-(2 ^ 64) < i ∧ i < 2 ^ 64) ∨ (-(2 ^ 64) < j ∧ j < 2 ^ 64) then some (.int (i * j)) else none
  | .tuple ds, .int k => if ds ≠ [] ∧ 2 ≤ k ∧ k ≤ 1000 ∧ ds.length ≤ 1000 then some (.tuple (List.replicate k.toNat ds).flatten) else none
  | .list ds, .int k => if -(2 ^ 63) ≤ k ∧ k < 2 ^ 63 ∧ ds.length * k.toNat ≤ sizeLine then some (.list (List.replicate k.toNat ds).flatten) else none
  | _, _ => none
theorem repL_rep {vs : List V} {ds : List Pv.D} (h : repL K W vs ds) : ∀ n : Nat, repL K W (List.replicate n vs).flatten (List.replicate n ds).flatten
  | 0 => rfl
  | n + 1 => by rw [List.replicate_succ, List.replicate_succ, List.flatten_cons, List.flatten_cons]; exact repL_append h (repL_rep h n)
def mMulS : M → M → M := mOp2 (onD2 dMulS)
theorem ge_mulS (ha : GE X Wx ea ma) (hb : GE X Wx eb mb) : GE X Wx (.BinOp ea .Mult eb pos) (mMulS ma mb) := by
  refine ge_op2 onD2_nx ?_ (pe_op ((op_mul.or op_repT).or op_rep) ha hb)
  intro W H st x y dx dy Q hr rx ry p
  obtain ⟨d, e, p⟩ := onD2_post p
  unfold dMulS at e
  split at e
  · rename_i i j e1 e2
    split at e
    · rename_i hc
      cases e
      exact .inl (.inl ⟨i, j, rep_dint hr rx e1, rep_dint hr ry e2, hc, p.val hr rfl⟩)
    · cases e
  · rename_i ds k e1 e2
    split at e
    · rename_i hc
      cases e
      obtain ⟨a, xs, f1, f2, l⟩ := rep_dtuple hr rx e1
      have hl := repL_length l
      refine .inl (.inr ⟨a, k, xs, f1, rep_dint hr ry e2, f2, fun z => ?_, hc.2.1, hc.2.2.1, by rw [hl]; exact hc.2.2.2, p.tup hr (repL_rep l _)⟩)
      subst z
      exact hc.1 (List.length_eq_zero_iff.mp hl.symm)
    · cases e
  · rename_i ds k e1 e2
    split at e
    · rename_i hc
      cases e
      obtain ⟨a, xs, f1, f2, l⟩ := rep_dlist hr rx e1
      exact .inr ⟨a, k, xs, f1, rep_dint hr ry e2, f2, hc.1, hc.2.1, by rw [repL_length l]; exact hc.2.2, p.lst hr (repL_rep l _)⟩
    · cases e
  · cases e
end
section
variable {X : Cx} {Wx : WX} {ea eb e : Expr} {ma mb : M} {pos p p1 p2 p3 : Pos} {K : PySem.W.Frag} {W : Wd} {H : Hp} {st : Sto} {v : V} {d : Pv.D} {k : Nat}
def dRev : Pv.D → Option Pv.D
  | .list ds => some (.list ds.reverse)
  | .tuple ds => some (.tuple ds.reverse)
  | _ => none
def mRev : M → M := mOp1 (onD1 dRev)
end
end Pv
set_option Elab.async false
set_option linter.all false
set_option maxRecDepth 100000
set_option maxHeartbeats 4000000
namespace Pv
open PySem PySem.Spec L2
open PyProof.Rows hiding St
end Pv
set_option Elab.async false
set_option linter.all false
set_option maxRecDepth 100000
set_option maxHeartbeats 4000000
namespace Pv
open PySem PySem.Spec L2
open PyProof.Rows hiding St
section
variable {X : Cx} {Wx : WX} {W W' : Wd} {H H' : Hp} {st : Sto} {sl : Sl} {sh : L2.St} {pos p apos : Pos} {N : Nv} {K : PySem.W.Frag}
def fApp (o d : Pv.D) (st : Sto) : R Pv.D :=
  match o with
  | .dict [(.int r, .none)] => (match st[r.toNat]? with | some (.lst ds) => if ds.length < sizeLine then .ok .none (st.set r.toNat (.lst (ds ++ [d]))) else .bad | _ => .bad)
  | _ => .bad
def isLst (st : Sto) (o : Pv.D) : Bool :=
  match o with
  | .dict [(.int r, .none)] => (match st[r.toNat]? with | some (.lst _) => true | _ => false)
  | _ => false
theorem isLst_rep {v : V} {o : Pv.D} (hr : HR K W H st) (h : rep K W v o) (e : isLst st o = true) : ∃ (r : Nat) (a : Addr) (ds : List Pv.D) (xs : List V), o = Rf r ∧ v = .ref a ∧ W.rho[r]? = some a ∧ st[r]? = some (.lst ds) ∧ H a = some (.lst xs) ∧ repL K W xs ds := by
  unfold isLst at e
  split at e
  · rename_i i
    rcases rep_dict h with ⟨r, a, e1, e2, e3⟩ | ⟨ds', a, xs, e1, _, _⟩ | ⟨ds', a, xs, e1, _, _⟩ | ⟨ae, ade, ce, nse, fse, he⟩
    rotate_left
    · cases e1
    · cases e1
    · cases he
    have ei : i = (r : Int) := by injection e1 with q1 _; injection q1 with q2 _; injection q2
    subst ei
    rw [Int.toNat_natCast] at e
    obtain ⟨m, hm, _, ho⟩ := hr.at e3
    rw [hm] at e
    cases m with
    | lst ds => obtain ⟨xs, g1, g2⟩ := ho; exact ⟨r, a, ds, xs, rfl, e2, e3, hm, g1, g2⟩
    | ro _ => cases e
    | dct _ => cases e
    | dctT _ => cases e
    | tb _ _ => cases e
  · cases e
/-- a method of a list of the store: the receiver, then the argument -/
def mLm (f : F2) (a b : M) : M := fun sl st => (a sl st).bind fun o st => if isLst st o = true then (b sl st).bind fun d st => f o d st else .bad
def mApp : M → M → M := mLm fApp
theorem ge_append {ea eb : Expr} {ma mb : M} (ha : GE X Wx ea ma) (hb : GE X Wx eb mb) (hbase : attributeBase ea "append" X.env (eval ea X.env) = eval ea X.env := by rfl)
    (hfew : ((backTo pos (starEach (eb :: []) X.env)).all (fun x => !x.1) && (backToKw pos (keywordEach [] X.env)).all (fun x => x.1.isSome) && decide ((eb :: ([] : List Expr)).length + ([] : List Keyword).length + (if ([] : List Keyword).isEmpty then 0 else 1) < 30)) = true := by rfl)
    (hline : (apos.endLine == pos.line) = true := by rfl) (hs : starEach (eb :: []) X.env = (false, eval eb X.env) :: starEach [] X.env := by rfl) (hplain : (backTo pos (starEach [] X.env)).any (·.1) = false := by rfl) :
    GE X Wx (.Call (.Attribute ea "append" apos) [eb] [] pos) (mApp ma mb) := by
  refine PE.imp (pe_bm PySem.F.plainAttrs_list PySem.F.slot_list_append PySem.F.type_list_append mt_append ha (pa_cons hb pa_nil hs) hbase hfew hline hs hplain) fun sh H Q ⟨W, sl, st, hr, hs, q⟩ => ?_
  refine rd_bind hr hs q fun d1 st1 W1 v1 H1 e1 x1 h1 s1 r1 p1 => ?_
  split at p1
  · rename_i hl
    obtain ⟨r, a, ds, xs, eo, ev, hrho, hst, hH, hL⟩ := isLst_rep h1 r1 hl
    subst eo; subst ev
    refine ⟨.inl ⟨rfl, xs, .inl (.inl hH)⟩, ?_⟩
    refine rd_bind h1 s1 p1 fun d2 st2 W2 v2 H2 e2 x2 h2 s2 r2 p2 => ?_
    have p2 : Post (nv X) W2 H2 Q (fun cls dd H' => Wx cls dd sh H') (match st2[r]? with | some (.lst ds) => if ds.length < sizeLine then .ok .none (st2.set r (.lst (ds ++ [d2]))) else .bad | _ => .bad) := p2
    split at p2
    · rename_i ds2 hd2
      split at p2
      · rename_i hz
        obtain ⟨b, hb, _, xs2, g1, g2⟩ := h2.at' hd2
        rw [x2.at r a hrho] at hb
        cases hb
        refine ⟨a, xs2, v2, rfl, rfl, g1, by rw [repL_length g2]; exact hz, ?_⟩
        obtain ⟨h3, x3⟩ := h2.set (o := .lst (xs2 ++ [v2])) (m := .lst (ds2 ++ [d2])) (x2.at r a hrho) hd2 ⟨_, upd_same, repL_append g2 (repL_one r2)⟩
        exact p2 W2 .non _ x3 h3 rfl
      · exact p2.elim
    · exact p2.elim
  · exact p1.elim
abbrev Mk2 := List (M × M)
def pairsM : Mk2 → Sl → Sto → R (List (Key × Pv.D))
  | [], _, st => .ok [] st
  | (k, v) :: r, sl, st => (k sl st).bind fun kd st => (v sl st).bind fun vd st => match keyOf kd with
    | some kk => (pairsM r sl st).bind fun ps st => .ok ((kk, vd) :: ps) st
    | none => .bad
def mergeD (kvs more : List (Key × Pv.D)) : List (Key × Pv.D) := more.foldl (fun acc kv => putD acc kv.1 kv.2) kvs
def mDct (ps : Mk2) : M := fun sl st => (pairsM ps sl st).bind fun kvs st => if kvs.length ≤ 15 then .ok (Rf st.length) (st ++ [.dct (mergeD [] kvs)]) else .bad
/-- the pairs' expressions, told -/
inductive GP (X : Cx) (Wx : WX) : List (Option Expr) → List Expr → Mk2 → Prop where
  | nil : GP X Wx [] [] []
  | cons {k v : Expr} {ks : List (Option Expr)} {vs : List Expr} {mk mv : M} {ps : Mk2} (hk : GE X Wx k mk) (hv : GE X Wx v mv) (hr : GP X Wx ks vs ps) : GP X Wx (some k :: ks) (v :: vs) ((mk, mv) :: ps)
def trsOf (N : Nv) (Wx : WX) : Mk2 → List (TE × TE)
  | [] => []
  | (k, v) :: r => (rd N Wx k, rd N Wx v) :: trsOf N Wx r
theorem GP.pps {ks : List (Option Expr)} {vs : List Expr} {ps : Mk2} (h : GP X Wx ks vs ps) : PPs X pos ks vs (trsOf (nv X) Wx ps) := by
  induction h with
  | nil => exact pps_nil
  | cons hk hv _ ih => exact pps_cons hk hv ih
theorem pairs_read : ∀ {ps : Mk2} {W : Wd} {H : Hp} {st : Sto} {Q : VK} {f : List (Key × Pv.D) → Sto → R Pv.D} {Q2 : List (V × V) → Hp → Prop}, HR N.K W H st → SR N.K W sh sl → Post N W H Q (fun cls dd H' => Wx cls dd sh H') ((pairsM ps sl st).bind f) →
    (∀ kvs st1 W1 H1 ks, pairsM ps sl st = .ok kvs st1 → Ext W H W1 H1 → HR N.K W1 H1 st1 → repP N.K W1 ks kvs → Q2 (ks.map fun kv => (kV kv.1, kv.2)) H1) → tPairs (trsOf N Wx ps) sh H Q2
  | [], W, H, st, Q, f, Q2, hr, hs, p, k => k [] st W H [] rfl .refl hr .nil
  | (mk, mv) :: r, W, H, st, Q, f, Q2, hr, hs, p, k => by
    have e : (pairsM ((mk, mv) :: r) sl st).bind f = (mk sl st).bind fun kd st => (mv sl st).bind fun vd st => match keyOf kd with
        | some kk => (pairsM r sl st).bind fun ps st => f ((kk, vd) :: ps) st
        | none => .bad := by
      show ((mk sl st).bind _).bind f = _
      cases mk sl st with
      | ok kd s1 =>
        show ((mv sl s1).bind _).bind f = (mv sl s1).bind _
        cases mv sl s1 with
        | ok vd s2 =>
          show (match keyOf kd with | some kk => (pairsM r sl s2).bind fun ps st => R.ok ((kk, vd) :: ps) st | none => .bad : R _).bind f = _
          cases keyOf kd with
          | none => rfl
          | some kk =>
            show ((pairsM r sl s2).bind _).bind f = (pairsM r sl s2).bind _
            cases pairsM r sl s2 <;> rfl
        | exc _ _ => rfl
        | bad => rfl
      | exc _ _ => rfl
      | bad => rfl
    rw [e] at p
    refine rd_bind hr hs p fun d1 st1 W1 v1 H1 e1 x1 h1 s1 r1 p1 => ?_
    refine rd_bind h1 s1 p1 fun d2 st2 W2 v2 H2 e2 x2 h2 s2 r2 p2 => ?_
    cases hk : keyOf d1 with
    | none => rw [hk] at p2; exact p2.elim
    | some kk =>
      rw [hk] at p2
      refine pairs_read h2 s2 p2 fun kvs st3 W3 H3 ks e3 x3 h3 r3 => ?_
      have := k ((kk, d2) :: kvs) st3 W3 H3 ((kk, v2) :: ks) (by unfold pairsM; rw [e1]; simp only [Pv.R.bind_ok]; rw [e2]; simp only [Pv.R.bind_ok, hk]; rw [e3]; rfl) ((x1.trans x2).trans x3) h3 (.cons ⟨rfl, x3.rep r2⟩ r3)
      rw [keyOf_rep r1 hk]
      exact this
theorem merge_rep {W : Wd} : ∀ {ms : List (Key × V)} {ds : List (Key × Pv.D)} {ks : List (Key × V)} {kvs : List (Key × Pv.D)}, repP K W ms ds → repP K W ks kvs → repP K W (mergeK ks ms) (mergeD kvs ds) := by
  intro ms ds ks kvs h
  induction h generalizing ks kvs with
  | nil => exact fun q => q
  | @cons a b _ _ h _ ih =>
    intro q
    have s := put_rep q b.1 h.2
    show repP K W (mergeK (putK ks a.1 a.2) _) (mergeD (putD kvs b.1 b.2) _)
    rw [h.1]
    exact ih s
/-- an object beside the store -/
theorem HR.beside {o : HO} {a : Addr} (h : HR K W H st) (hp : H a = none) : HR K W (upd H a o) st ∧ Ext W H W (upd H a o) := by
  have hn := h.free hp
  refine ⟨⟨h.len, h.nd, fun b u e => ?_, fun r b m e1 e2 => ?_, tabs_new h.tab hp, h.nt⟩, ⟨fun _ _ e => e, ⟨[], by simp, fun _ z => by cases z⟩, fun b u e _ _ => ?_, fun b e => ?_, fun _ _ e => .inl e⟩⟩
  · have hb : b ≠ a := fun z => by subst z; rw [h.freeF hp] at e; cases e
    rw [upd_ne hb]; exact h.sub _ _ e
  · have hb : b ≠ a := fun z => hn (by rw [← z]; exact List.mem_of_getElem? e1)
    obtain ⟨p, q⟩ := h.obj r b m e1 e2
    exact ⟨p, repO_mono (W := W) (fun _ _ z => z) (fun _ _ z => z) (fun u z => by rw [upd_ne hb]; exact z) q⟩
  · have hb : b ≠ a := fun z => by subst z; rw [hp] at e; cases e
    rw [upd_ne hb]; exact e
  · by_cases hb : b = a
    · subst hb; exact .of hp
    · exact fun u z => e u (by rw [upd_ne hb]; exact z)
/-- an object beside the store is written, and is one of the store now -/
theorem HR.adopt {o o' : HO} {a : Addr} {m : MO} {W0 : Wd} {H0 : Hp} (h : HR K W H st) (x : Ext W0 (upd H0 a o') W H) (hp : H0 a = none) (hn : a ∉ W0.rho) (hF : W0.F a = none) (ho' : plainO o' = true) (hnt : ∀ xs, o' ≠ .tup xs) (htb : noTb m = true) (hm : ∀ H1, H1 a = some o → repO K ⟨W.F, W.rho ++ [a]⟩ H1 a m) :
    HR K ⟨W.F, W.rho ++ [a]⟩ (upd H a o) (st ++ [m]) ∧ Ext W0 H0 ⟨W.F, W.rho ++ [a]⟩ (upd H a o) := by
  have now : (upd H0 a o') a = some o' := upd_same
  have hH : H a = some o' := x.out a o' now hn (plainO_tbl ho')
  have hnW : a ∉ W.rho := by
    obtain ⟨r, hr, hnew⟩ := x.rh
    rw [hr]
    intro z
    rcases List.mem_append.mp z with z | z
    · exact hn z
    · obtain ⟨ps, y⟩ := hnew a z _ now; exact plainO_tbl ho' ps y
  have hFW : W.F a = none := by
    cases q : W.F a with
    | none => rfl
    | some u =>
      rcases x.nf _ _ q with z | z
      · rw [hF] at z; cases z
      · obtain ⟨ys, y⟩ := z.some now (plainO_tbl ho'); exact absurd y (hnt ys)
  have ne : ∀ {b u}, W.F b = some u → b ≠ a := fun e z => by subst z; rw [hFW] at e; cases e
  refine ⟨⟨by simp [h.len], List.nodup_append.mpr ⟨h.nd, by simp, fun y hy z hz => by
      have : z = a := by simpa using hz
      rw [this]; exact fun q => hnW (q ▸ hy)⟩, fun b u e => by rw [upd_ne (ne e)]; exact h.sub _ _ e, fun r b m' e1 e2 => ?_, by rw [tbs_app _ htb]; exact tabs_set h.tab hH ho', h.nt⟩, ⟨x.fr, ?_, fun b u e hb ht => ?_, fun b e => ?_, fun b u e => ?_⟩⟩
  · by_cases hr : r < W.rho.length
    · rw [List.getElem?_append_left hr] at e1
      rw [List.getElem?_append_left (by rw [← h.len]; exact hr)] at e2
      have hb : b ≠ a := fun z => hnW (by rw [← z]; exact List.mem_of_getElem? e1)
      obtain ⟨p, q⟩ := h.obj r b m' e1 e2
      refine ⟨p, repO_mono (W := W) (fun _ _ z => z) (fun r c z => ?_) (fun u z => by rw [upd_ne hb]; exact z) q⟩
      show (W.rho ++ [a])[r]? = some c
      rw [List.getElem?_append_left (List.getElem?_eq_some_iff.mp z).1]; exact z
    · rw [List.getElem?_append_right (by omega)] at e1
      rw [List.getElem?_append_right (by rw [← h.len]; omega)] at e2
      rw [h.len] at e1
      cases hk : r - st.length with
      | zero =>
        rw [hk] at e1 e2
        simp at e1 e2
        subst e1; subst e2
        exact ⟨hFW, hm _ upd_same⟩
      | succ k => rw [hk] at e1; simp at e1
  · obtain ⟨r, hr, hnew⟩ := x.rh
    refine ⟨r ++ [a], by show W.rho ++ [a] = _; rw [hr, List.append_assoc], fun b hb => ?_⟩
    rcases List.mem_append.mp hb with z | z
    · have nb := hnew b z
      by_cases q : b = a
      · subst q; exact .of hp
      · exact fun u y => nb u (by rw [upd_ne q]; exact y)
    · have : b = a := by simpa using z
      rw [this]; exact .of hp
  · have hb' : b ≠ a := fun z => by subst z; rw [hp] at e; cases e
    rw [upd_ne hb']
    exact x.out b u (by rw [upd_ne hb']; exact e) hb ht
  · by_cases q : b = a
    · subst q; exact .of hp
    · have := x.non b fun u y => e u (by rw [upd_ne q]; exact y)
      exact fun u y => this u (by rw [upd_ne q]; exact y)
  · rcases x.nf b u e with z | z
    · exact .inl z
    · by_cases q : b = a
      · subst q; exact .inr (.of hp)
      · rcases z with z | ⟨z, xs, y⟩
        · exact .inr (.inl fun u y => z u (by rw [upd_ne q]; exact y))
        · exact .inr (.inr ⟨z, xs, by rw [upd_ne q] at y; exact y⟩)
theorem ge_dct {keys : List (Option Expr)} {values : List Expr} {ps : Mk2} (h : GP X Wx keys values ps) (hall : keys.all (·.isSome) = true := by rfl) (hl : keys.length = values.length := by rfl) (h0 : keys ≠ [] := by exact List.cons_ne_nil _ _) (h15 : keys.length ≤ 15 := by decide) :
    GE X Wx (.Dict keys values pos) (mDct ps) := by
  refine PE.imp (pe_disp h.pps hall hl h0 h15) fun sh H Q ⟨W, sl, st, hr, hs, q⟩ => ?_
  intro a ha
  obtain ⟨h1, x1⟩ := hr.beside (o := .dK []) ha
  refine pairs_read (f := fun kvs st => if kvs.length ≤ 15 then .ok (Rf st.length) (st ++ [.dct (mergeD [] kvs)]) else .bad) h1 (hs.ext x1) (Post.ext x1 q) fun kvs st1 W1 H1 ks e2 x2 h2 r2 => ?_
  unfold mDct at q
  rw [e2] at q
  simp only [Pv.R.bind_ok] at q
  split at q
  · rename_i hz
    have hn := hr.free ha
    obtain ⟨h3, x3⟩ := h2.adopt (o := .dK (mergeK [] ks)) (m := .dct (mergeD [] kvs)) x2 ha hn (hr.freeF ha) rfl (fun xs h => by cases h) rfl (fun H9 e => ⟨_, e, repP_mono (W := W1) (fun _ _ z => z) (fun r c z => by
      show (W1.rho ++ [a])[r]? = some c
      rw [List.getElem?_append_left (List.getElem?_eq_some_iff.mp z).1]; exact z) (merge_rep r2 .nil)⟩)
    refine ⟨x2.out a _ upd_same hn (fun _ z => by cases z), ks, rfl, by rw [repP_length r2]; exact hz, ?_⟩
    refine q _ (.ref a) _ x3 h3 ⟨st1.length, a, rfl, rfl, ?_⟩
    show (W1.rho ++ [a])[st1.length]? = some a
    rw [← h2.len]; simp
  · exact q.elim
end
end Pv
set_option Elab.async false
set_option linter.all false
set_option maxRecDepth 100000
set_option maxHeartbeats 4000000
namespace Pv
open PySem PySem.Spec L2
open PyProof.Rows hiding St
/-- so many values come out -/
abbrev Ln (ms : Ms) (n : Nat) : Prop := ∀ sl st ds st', ms sl st = .ok ds st' → ds.length = n
theorem ln_nil : Ln msNil 0 := fun sl st ds st' h => by cases h; rfl
theorem ln_cons {m : M} {ms : Ms} {n : Nat} (h : Ln ms n) : Ln (msCons m ms) (n + 1) := fun sl st ds st' e => by
  unfold msCons at e
  cases q : m sl st with
  | ok d s1 =>
    rw [q] at e
    simp only [R.bind_ok] at e
    cases q2 : ms sl s1 with
    | ok es s2 => rw [q2] at e; cases e; simp [h _ _ _ _ q2]
    | exc _ _ => rw [q2] at e; cases e
    | bad => rw [q2] at e; cases e
  | exc _ _ => rw [q] at e; cases e
  | bad => rw [q] at e; cases e
/-- a def of the text as it stands behind the top -/
def DefAt (K : PySem.W.Frag) (mg : Str → Option Value) (x : Str) (st : Stmt) (ps : List Str) : Prop := ∃ f fd, Fun K x x st f fd ∧ mg x = some (.ref f) ∧ Binds K fd ps []
/-- .. that is called by keywords alone, in the parameters' order -/
def DefAtK (K : PySem.W.Frag) (mg : Str → Option Value) (x : Str) (st : Stmt) (ps : List Str) : Prop := ∃ f fd, Fun K x x st f fd ∧ mg x = some (.ref f) ∧ Binds K fd ps [] ∧ BindsK K fd ps ps (fun l => l)
theorem DefAtK.plain {K : PySem.W.Frag} {mg : Str → Option Value} {x : Str} {st : Stmt} {ps : List Str} (h : DefAtK K mg x st ps) : DefAt K mg x st ps := let ⟨f, fd, a, b, c, _⟩ := h; ⟨f, fd, a, b, c⟩
def Has (P : Program) (w : World) (K : PySem.W.Frag) (mg : Str → Option Value) (base : Heap) (k : Nat) (x : Str) (ps : List Str) (F : Fn) : Prop := ∃ f fd, Df P w K mg base k x f fd ps F
def HasK (P : Program) (w : World) (K : PySem.W.Frag) (mg : Str → Option Value) (base : Heap) (k : Nat) (x : Str) (ps : List Str) (F : Fn) : Prop := ∃ f fd, Df P w K mg base k x f fd ps F ∧ BindsK K fd ps ps (fun l => l)
theorem HasK.plain {P : Program} {w : World} {K : PySem.W.Frag} {mg : Str → Option Value} {base : Heap} {k : Nat} {x : Str} {ps : List Str} {F : Fn} (h : HasK P w K mg base k x ps F) : Has P w K mg base k x ps F := let ⟨f, fd, a, _⟩ := h; ⟨f, fd, a⟩
theorem bl_of {K : PySem.W.Frag} {x qual p : Str} {st : Stmt} {f : Addr} {fd : FuncData} (F : Fun K x qual st f fd)
    (h : ∀ (kV doc pm : Value) (an : Option Addr) (cdv ct u : Value), bindArgs (PySem.W.fnOf x qual (defArgs st) (defBody st) (defScope st) .none kV doc pm an cdv ct) ⟨[u], []⟩ = pure [(p, u)]) (s : Shared) (u : Value) : BindsTo s fd ⟨[u], []⟩ [(p, u)] := by
  obtain ⟨oc, od, kV, doc, pm, an, cdv, ct, osl, rfl, lk, hcd⟩ := F.ex
  exact .of_eq (h kV doc pm an cdv ct u)
end Pv
set_option Elab.async false
set_option linter.all false
set_option maxRecDepth 100000
set_option maxHeartbeats 4000000
namespace Pv
open PySem PySem.Spec L2
open PyProof.Rows hiding St
section
variable {sl : Sl} {st : Sto} {d x y : Pv.D} {i : Nat} {a b c : M} {t u : MT} {ms : Ms}
@[simp] theorem e_var : mVar i sl st = (match sl[i]? with | some (some d) => .ok d st | _ => .bad) := rfl
@[simp] theorem e_c : mC d sl st = .ok d st := rfl
@[simp] theorem e_add : mAdd a b sl st = (a sl st).bind fun x st => (b sl st).bind fun y st => fAdd x y st := rfl
@[simp] theorem e_sub : mSub a b sl st = (a sl st).bind fun x st => (b sl st).bind fun y st => onD2 (dInt2 (fun _ _ => true) fun i j => .int (i - j)) x y st := rfl
@[simp] theorem e_mod : mMod a b sl st = (a sl st).bind fun x st => (b sl st).bind fun y st => onD2 (dInt2 (fun _ j => decide (0 < j)) fun i j => .int (i % j)) x y st := rfl
@[simp] theorem e_fdiv : mFdiv a b sl st = (a sl st).bind fun x st => (b sl st).bind fun y st => onD2 (dInt2 (fun _ j => decide (0 < j ∧ j < 1073741824)) fun i j => .int (i / j)) x y st := rfl
@[simp] theorem e_pow : mPow a b sl st = (a sl st).bind fun x st => (b sl st).bind fun y st => onD2 (dInt2 (fun i j => decide (0 ≤ j ∧ j ≤ 1000000 ∧ i.natAbs < 2 ^ 64)) fun i j => .int (i ^ j.toNat)) x y st := rfl
@[simp] theorem e_mul : mMulS a b sl st = (a sl st).bind fun x st => (b sl st).bind fun y st => onD2 dMulS x y st := rfl
@[simp] theorem e_neg : mNeg a sl st = (a sl st).bind fun x st => onD1 dNeg x st := rfl
@[simp] theorem e_cmp {op : CmpOp} : mCmp op a b sl st = (a sl st).bind fun x st => (b sl st).bind fun y st => onD2 (dCmp op) x y st := rfl
@[simp] theorem e_isN : mIsN a sl st = (a sl st).bind fun x st => .ok (.bool (isNone x)) st := rfl
@[simp] theorem e_notN : mNotN a sl st = (a sl st).bind fun x st => .ok (.bool (!isNone x)) st := rfl
@[simp] theorem e_chain {op op' : CmpOp} : mChain op op' a b c sl st = (a sl st).bind fun x st => (b sl st).bind fun y st => (match onD2 (dCmp op) x y st with
  | .ok (.bool true) st => (c sl st).bind fun z st => onD2 (dCmp op') y z st
  | .ok (.bool false) st => .ok (.bool false) st
  | _ => .bad) := rfl
@[simp] theorem e_tru : mTru a sl st = (a sl st).bind fun d st => lift (truD st d) st := rfl
@[simp] theorem e_tb : mTb a sl st = (a sl st).bind fun d st => (match d with | .bool b => .ok b st | _ => .bad) := rfl
@[simp] theorem e_notT : mNotT t sl st = (t sl st).bind fun b st => .ok (!b) st := rfl
@[simp] theorem e_andT : mAndT t u sl st = (t sl st).bind fun b st => if b = true then u sl st else .ok false st := rfl
@[simp] theorem e_orT : mOrT t u sl st = (t sl st).bind fun b st => if b = true then .ok true st else u sl st := rfl
@[simp] theorem e_and : mAnd a b sl st = (a sl st).bind fun x st => (match truD st x with | some true => b sl st | some false => .ok x st | none => .bad) := rfl
@[simp] theorem e_or : mOr a b sl st = (a sl st).bind fun x st => (match truD st x with | some true => .ok x st | some false => b sl st | none => .bad) := rfl
@[simp] theorem e_not : mNot a sl st = (a sl st).bind fun x st => (match truD st x with | some k => .ok (.bool (!k)) st | none => .bad) := rfl
@[simp] theorem e_if : mIf t a b sl st = (t sl st).bind fun k st => if k = true then a sl st else b sl st := rfl
@[simp] theorem e_msNil : msNil sl st = .ok [] st := rfl
@[simp] theorem e_msCons : msCons a ms sl st = (a sl st).bind fun x st => (ms sl st).bind fun xs st => .ok (x :: xs) st := rfl
@[simp] theorem e_tup : mTup ms sl st = (ms sl st).bind mkTup := rfl
@[simp] theorem e_lst : mLst ms sl st = (ms sl st).bind mkLst := rfl
@[simp] theorem e_lstM : mLstM ms sl st = (ms sl st).bind mkLstM := rfl
@[simp] theorem e_ix : mIx a b sl st = (a sl st).bind fun x st => (b sl st).bind fun y st => fIx x y st := rfl
@[simp] theorem e_moNone : moNone sl st = .ok none st := rfl
@[simp] theorem e_moSome : moSome a sl st = (a sl st).bind fun d st => (match d with | .int i => .ok (some i) st | _ => .bad) := rfl
@[simp] theorem e_sl {lo hi : MO?} : mSl a lo hi sl st = (a sl st).bind fun x st => (lo sl st).bind fun l st => (hi sl st).bind fun h st => fSl l h x st := rfl
@[simp] theorem e_len : mLen a sl st = (a sl st).bind fun x st => onD1 dLen x st := rfl
@[simp] theorem e_int : mInt a sl st = (a sl st).bind fun x st => onD1 dInt x st := rfl
@[simp] theorem e_tuple : mTuple a sl st = (a sl st).bind fun x st => fTuple x st := rfl
@[simp] theorem e_list : mList a sl st = (a sl st).bind fun x st => onD1 dList x st := rfl
@[simp] theorem e_all : mAll a sl st = (a sl st).bind fun x st => onD1 dAll x st := rfl
@[simp] theorem e_any : mAny a sl st = (a sl st).bind fun x st => onD1 dAny x st := rfl
@[simp] theorem e_isi {T : Ty} : mIsi T a sl st = (a sl st).bind fun d st => lift ((tyD st d).map fun t => .bool (t.sub T)) st := rfl
@[simp] theorem e_repr : mRepr a sl st = (a sl st).bind fun d st => lift (reprD st d) st := rfl
@[simp] theorem e_rev : mRev a sl st = (a sl st).bind fun x st => onD1 dRev x st := rfl
@[simp] theorem e_call {F : Fn} : mCall F ms sl st = (ms sl st).bind F := rfl
@[simp] theorem e_seq {p q : MS} : sSeq p q sl st = (p sl st).bind q := rfl
@[simp] theorem e_snil : sNil sl st = .nx sl st := rfl
@[simp] theorem e_asg {g : MG} : sAsg a g sl st = (a sl st).thenS fun d st => (g d sl st).thenS .nx := rfl
@[simp] theorem e_par2 {j : Nat} : sPar2 i j ms sl st = (ms sl st).thenS (set2 i j sl) := rfl
@[simp] theorem e_par3 {j l : Nat} : sPar3 i j l ms sl st = (ms sl st).thenS (set3 i j l sl) := rfl
@[simp] theorem e_expr : sExpr a sl st = (a sl st).thenS fun _ st => .nx sl st := rfl
@[simp] theorem e_ret : sRet a sl st = (a sl st).thenS fun d st => .rt d st := rfl
@[simp] theorem e_retN : sRetN sl st = .rt .none st := rfl
@[simp] theorem e_sif {p q : MS} : sIf t p q sl st = (t sl st).thenS fun k st => if k = true then p sl st else q sl st := rfl
@[simp] theorem e_tgName : tgName i d sl st = .ok (sl.set i (some d)) st := rfl
@[simp] theorem e_tgTup {n : Nat} {g : MGs} {ds : List Pv.D} : tgTup n g (.tuple ds) sl st = if ds.length = n then g ds sl st else .bad := rfl
@[simp] theorem e_tgCons {g : MG} {r : MGs} {ds : List Pv.D} : tgCons g r (d :: ds) sl st = (g d sl st).bind (r ds) := rfl
@[simp] theorem e_tgNil : tgNil [] sl st = .ok sl st := rfl
@[simp] theorem e_tgSub : tgSub a b d sl st = (a sl st).bind fun o st => (b sl st).bind fun i st => (match setO st o i d with | some st' => .ok sl st' | none => .bad) := rfl
@[simp] theorem e_iter : mIter a sl st = (a sl st).bind srcOf := rfl
@[simp] theorem e_for {fg : List Nat} {mi : MI} {g : MG} {p : MS} : sFor fg mi g p sl st = (mi sl st).thenS fun s st => forL s.keep g p fg s.items (wipeD sl fg) st := rfl
@[simp] theorem e_app : mApp a b sl st = (a sl st).bind fun o st => if isLst st o = true then (b sl st).bind fun d st => fApp o d st else .bad := rfl
@[simp] theorem e_tyes : tYesM sl st = .ok true st := rfl
end
section
variable {α : Type} {sl : Sl} {st : Sto} {ds : List Pv.D} {d : Pv.D} {x : XV}
@[simp] theorem rs_nx {f : Sl → Sto → RS} : (RS.nx sl st).bind f = f sl st := rfl
@[simp] theorem rs_rt {f : Sl → Sto → RS} : (RS.rt d st).bind f = .rt d st := rfl
@[simp] theorem rs_exc {f : Sl → Sto → RS} : (RS.exc x st).bind f = .exc x st := rfl
@[simp] theorem rs_bk {f : Sl → Sto → RS} : (RS.bk sl st).bind f = .bk sl st := rfl
@[simp] theorem rs_ct {f : Sl → Sto → RS} : (RS.ct sl st).bind f = .ct sl st := rfl
@[simp] theorem th_ok {a : α} {f : α → Sto → RS} : (R.ok a st).thenS f = f a st := rfl
@[simp] theorem th_exc {f : α → Sto → RS} : (R.exc x st : R α).thenS f = .exc x st := rfl
@[simp] theorem end_nx : endR (.nx sl st) = .ok .none st := rfl
@[simp] theorem end_rt : endR (.rt d st) = .ok d st := rfl
@[simp] theorem end_exc : endR (.exc x st) = .exc x st := rfl
theorem fin_same {n : Nat} (h : st.length = n) : finR n (.ok d st) = .ok d st := by unfold finR; simp [h]
@[simp] theorem fin_now : finR st.length (.ok d st) = .ok d st := fin_same rfl
theorem fnP_e {n : Nat} {p : MS} : fnP n p ds st = finR st.length (endR (p (startD n ds) st)) := rfl
theorem fnK_e {n : Nat} {p : MS} : fnK n p ds st = endR (p (startD n ds) st) := rfl
@[simp] theorem tru_b {b : Bool} : truD st (.bool b) = some b := rfl
@[simp] theorem tru_n : truD st .none = some false := rfl
@[simp] theorem tru_i {i : Int} : truD st (.int i) = some (i != 0) := rfl
@[simp] theorem tru_l {xs : List Pv.D} : truD st (.list xs) = some (!xs.isEmpty) := rfl
@[simp] theorem tru_t {xs : List Pv.D} : truD st (.tuple xs) = some (!xs.isEmpty) := rfl
@[simp] theorem on1 {g : Pv.D → Option Pv.D} {y : Pv.D} : onD1 g y st = lift (g (deref st y)) st := rfl
@[simp] theorem on2 {g : Pv.D → Pv.D → Option Pv.D} {y z : Pv.D} : onD2 g y z st = lift (g (deref st y) (deref st z)) st := rfl
@[simp] theorem add_tt {xs ys : List Pv.D} : fAdd (.tuple xs) (.tuple ys) st = lift (dAddT xs ys) st := rfl
theorem add_ll {xs ys : List Pv.D} : fAdd (.list xs) (.list ys) st = lift (dAdd (.list xs) (.list ys)) st := rfl
@[simp] theorem add_ii {i j : Int} : fAdd (.int i) (.int j) st = .ok (.int (i + j)) st := rfl
@[simp] theorem ty_n : tyD st .none = some .non := rfl
@[simp] theorem ty_b {b : Bool} : tyD st (.bool b) = some .bool := rfl
@[simp] theorem ty_i {i : Int} : tyD st (.int i) = some .int := rfl
@[simp] theorem ty_s {z : Str} : tyD st (.str z) = some .str := rfl
@[simp] theorem ty_l {xs : List Pv.D} : tyD st (.list xs) = some .list := rfl
@[simp] theorem ty_t {xs : List Pv.D} : tyD st (.tuple xs) = some .tuple := rfl
end
end Pv
set_option Elab.async false
set_option linter.all false
set_option maxRecDepth 100000
set_option maxHeartbeats 4000000
namespace Pv
open PySem PySem.Spec L2
open PyProof.Rows hiding St
mutual
def wt : Pv.D → Nat
  | .none => 8
  | .bool _ => 8
  | .int i => if i.natAbs < 10 ^ 62 then 64 else 2 ^ 30
  | .str z => 10 * z.length + 4
  | .list ds => wtL ds + 4
  | .tuple ds => wtL ds + 4
  | .dict _ => 2 ^ 30
def wtL : List Pv.D → Nat
  | [] => 0
  | d :: ds => wt d + 4 + wtL ds
end
theorem int_len {i : Int} (h : i.natAbs < 10 ^ 62) : (Str.ofString (toString i)).length ≤ 63 := by
  cases i with
  | ofNat n =>
    have : ((Int.ofNat n)) < 10 ^ 62 := by have h' : n < 10 ^ 62 := h; simp only [Int.ofNat_eq_natCast]; omega
    exact Nat.le_succ_of_le (toString_length_le (v := Int.ofNat n) (Int.natCast_nonneg n) (by decide) this)
  | negSucc m =>
    have h' : m + 1 < 10 ^ 62 := h
    have e : toString (Int.negSucc m) = "-" ++ toString ((m + 1 : Nat) : Int) := rfl
    have q : (Str.ofString (toString ((m + 1 : Nat) : Int))).length ≤ 62 := toString_length_le (Int.natCast_nonneg _) (by decide) (by omega)
    rw [e]
    have e2 : (Str.ofString ("-" ++ toString ((m + 1 : Nat) : Int))).length = 1 + (Str.ofString (toString ((m + 1 : Nat) : Int))).length := by
      rw [PyProof.Rows.ofString_length, PyProof.Rows.ofString_length, String.toList_append, List.length_append]
      rfl
    omega
theorem listText_le (ts : List Str) : (listText ts).length ≤ piled ts + 2 := by
  cases ts with
  | nil => exact (by decide : ((listText [])).length ≤ 2)
  | cons t r =>
    have h := textFrom_length_pos r 1 (("[" : Str) ++ (if (0 : Nat) > 0 then ", " else "" : String) ++ t) (Nat.succ_pos 0)
    have e : ((("[" : Str) ++ (if (0 : Nat) > 0 then ", " else "" : String) ++ t)).length = 1 + t.length := by
      rw [strLen_append, strLen_append]; rfl
    unfold listText
    rw [strLen_append]
    show (textFrom 1 (("[" : Str) ++ (if (0 : Nat) > 0 then ", " else "" : String) ++ t) r).length + 1 ≤ _
    rw [h, e, piled_cons]; omega
theorem tupleText_le (ts : List Str) : (tupleText ts).length ≤ piled ts + 4 := by
  unfold tupleText
  rw [strLen_append, strLen_append]
  have e1 : ((("(" : String) : Str)).length = 1 := rfl
  have e3 : (((if ts.length == 1 then ",)" else ")" : String) : Str)).length ≤ 2 := by split <;> decide
  cases ts with
  | nil => rw [e1]; have : (Str.join ", " []).length = 0 := rfl; omega
  | cons t r => have := join_length_add (t :: r) (by simp); omega
mutual
theorem wt_shown : ∀ d : Pv.D, d.canLay0 = true → wt d < 2 ^ 30 → d.showable = true ∧ d.shown.length ≤ wt d
  | .none, _, _ => ⟨rfl, (by decide : (("None" : Str)).length ≤ 8)⟩
  | .bool b, _, _ => ⟨rfl, by cases b <;> exact (by decide)⟩
  | .int i, _, h => by
    unfold wt at h ⊢
    split at h
    · rename_i hi
      rw [if_pos hi]
      refine ⟨?_, Nat.le_succ_of_le (int_len hi)⟩
      simp only [PyData.showable, decide_eq_true_eq]
      by_cases hz : i.natAbs = 0
      · rw [hz]; decide
      · have l1 : i.natAbs.log2 < 207 := (Nat.log2_lt hz).mpr (Nat.lt_of_lt_of_le hi (by decide))
        omega
    · omega
  | .str z, hc, h => by
    refine ⟨rfl, ?_⟩
    have hc' : z.cps.all (· < 0x110000) = true := by simpa only [PyData.canLay0, PyData.strOk] using hc
    have := StrLaws.reprText_len z fun c h => by
      have := Array.all_eq_true'.mp hc' c (by simpa using h)
      simp at this; omega
    unfold wt
    show (reprText z).length ≤ _
    omega
  | .list ds, hc, h => by
    unfold wt at h ⊢
    obtain ⟨a, b⟩ := wtL_shown ds (by simpa [PyData.canLay0] using hc) (by omega)
    refine ⟨by simpa [PyData.showable] using a, ?_⟩
    simp only [PyData.shown]
    have := listText_le (PyData.shownAll ds)
    omega
  | .tuple ds, hc, h => by
    unfold wt at h ⊢
    obtain ⟨a, b⟩ := wtL_shown ds (by simpa [PyData.canLay0] using hc) (by omega)
    refine ⟨by simpa [PyData.showable] using a, ?_⟩
    simp only [PyData.shown]
    have := tupleText_le (PyData.shownAll ds)
    omega
  | .dict _, hc, _ => by simp [PyData.canLay0] at hc
theorem wtL_shown : ∀ ds : List Pv.D, PyData.canLayAll0 ds = true → wtL ds < 2 ^ 30 → PyData.showableAll ds = true ∧ piled (PyData.shownAll ds) ≤ wtL ds
  | [], _, _ => ⟨rfl, Nat.le_refl _⟩
  | d :: ds, hc, h => by
    unfold wtL at h ⊢
    simp only [PyData.canLayAll0, Bool.and_eq_true] at hc
    obtain ⟨a, b⟩ := wt_shown d hc.1 (by omega)
    obtain ⟨a2, b2⟩ := wtL_shown ds hc.2 (by omega)
    refine ⟨by simp [PyData.showableAll, a, a2], ?_⟩
    simp only [PyData.shownAll, piled_cons]
    omega
end
theorem wtL_append (xs ys : List Pv.D) : wtL (xs ++ ys) = wtL xs + wtL ys := by
  induction xs with
  | nil => simp [wtL]
  | cons x xs ih => simp only [List.cons_append, wtL, ih]; omega
theorem wtL_mem {d : Pv.D} : ∀ {ds : List Pv.D}, d ∈ ds → wt d ≤ wtL ds
  | e :: ds, h => by
    unfold wtL
    rcases List.mem_cons.mp h with q | q
    · subst q; omega
    · have := wtL_mem q; omega
theorem wtL_take (n : Nat) (ds : List Pv.D) : wtL (ds.take n) ≤ wtL ds := by
  have h : wtL ds = wtL (ds.take n) + wtL (ds.drop n) := by rw [← wtL_append, List.take_append_drop]
  omega
theorem wtL_drop (n : Nat) (ds : List Pv.D) : wtL (ds.drop n) ≤ wtL ds := by
  have h : wtL ds = wtL (ds.take n) + wtL (ds.drop n) := by rw [← wtL_append, List.take_append_drop]
  omega
theorem layAll_append (xs ys : List Pv.D) : PyData.canLayAll0 (xs ++ ys) = (PyData.canLayAll0 xs && PyData.canLayAll0 ys) := by
  induction xs with
  | nil => simp [PyData.canLayAll0]
  | cons x xs ih => simp [PyData.canLayAll0, ih, Bool.and_assoc]
theorem depthAll_append (xs ys : List Pv.D) : PyData.depthAll (xs ++ ys) = max (PyData.depthAll xs) (PyData.depthAll ys) := by
  induction xs with
  | nil => simp [PyData.depthAll]
  | cons x xs ih => simp [PyData.depthAll, ih, Nat.max_assoc]
theorem layAll_iff (xs : List Pv.D) : PyData.canLayAll0 xs = true ↔ ∀ x ∈ xs, x.canLay0 = true := by
  induction xs with
  | nil => simp [PyData.canLayAll0]
  | cons x xs ih => simp [PyData.canLayAll0, ih]
theorem depthAll_le (xs : List Pv.D) (n : Nat) : PyData.depthAll xs ≤ n ↔ ∀ x ∈ xs, x.depth ≤ n := by
  induction xs with
  | nil => simp [PyData.depthAll]
  | cons x xs ih => simp [PyData.depthAll, ih, Nat.max_le]
/-- data as the laws' papers make them -/
structure Ok (d : Pv.D) (n k : Nat) : Prop where
  lay : d.canLay0 = true
  wt : wt d ≤ n
  dp : d.depth ≤ k
theorem Ok.mono {d : Pv.D} {n k n' k' : Nat} (h : Ok d n k) (hn : n ≤ n') (hk : k ≤ k') : Ok d n' k' := ⟨h.lay, Nat.le_trans h.wt hn, Nat.le_trans h.dp hk⟩
theorem deref_ok {d : Pv.D} (h : d.canLay0 = true) (st : Sto) : deref st d = d := by
  cases d with
  | dict _ => simp [PyData.canLay0] at h
  | _ => rfl
theorem repr_ok {d : Pv.D} {n k : Nat} (h : Ok d n k) (hn : n ≤ 2 ^ 24) (hk : k ≤ 100) (st : Sto) : reprD st d = some (.str d.shown) := by
  obtain ⟨a, b⟩ := wt_shown d h.lay (by have := h.wt; omega)
  unfold reprD
  rw [deref_ok h.lay, if_pos ⟨h.lay, a, Nat.le_trans h.dp hk, by have := h.wt; rw [sizeLine_eq]; omega⟩]
end Pv
set_option Elab.async false
set_option linter.all false
set_option maxRecDepth 100000
set_option maxHeartbeats 4000000
namespace Pv
open PySem PySem.Spec L2
open PyProof.Rows hiding St
theorem char_toNat_inj {a b : Char} (h : a.toNat = b.toNat) : a = b := Char.ext (UInt32.toNat_inj.mp h)
theorem map_toNat_inj : ∀ {a b : List Char}, a.map Char.toNat = b.map Char.toNat → a = b
  | [], [], _ => rfl
  | [], _ :: _, h => by cases h
  | _ :: _, [], h => by cases h
  | x :: xs, y :: ys, h => by
    simp only [List.map_cons, List.cons.injEq] at h
    rw [char_toNat_inj h.1, map_toNat_inj h.2]
@[simp] theorem ofString_eq (a b : String) : (Str.ofString a = Str.ofString b) = (a = b) := by
  apply propext
  constructor
  · intro h
    rw [Str.ofString_eq_toList, Str.ofString_eq_toList] at h
    have h1 : (a.toList.map Char.toNat) = (b.toList.map Char.toNat) := by simpa using h
    exact String.ext (map_toNat_inj h1)
  · intro h; rw [h]
@[simp] theorem ofString_beq (a b : String) : (Str.ofString a == Str.ofString b) = (a == b) := by
  by_cases h : a = b
  · subst h; simp
  · have h2 : ¬ Str.ofString a = Str.ofString b := by rw [ofString_eq]; exact h
    rw [beq_eq_false_iff_ne.mpr h2, beq_eq_false_iff_ne.mpr h]
section
variable {i j : Int} {a b : Str} {xs ys : List Pv.D}
@[simp] theorem cmp_lt_i : dCmp .Lt (.int i) (.int j) = some (.bool (decide (i < j))) := by
  show some (PyData.bool (cmpR .Lt (cmpD (.int i) (.int j)))) = _
  unfold cmpR cmpD
  congr 2
  by_cases h : i < j
  · simp [h]
  · by_cases h2 : i = j <;> simp [h, h2]
@[simp] theorem cmp_le_i : dCmp .LtE (.int i) (.int j) = some (.bool (decide (i ≤ j))) := by
  show some (PyData.bool (cmpR .LtE (cmpD (.int i) (.int j)))) = _
  unfold cmpR cmpD
  congr 2
  by_cases h : i < j
  · have : i ≤ j := by omega
    simp [h, this]
  · by_cases h2 : i = j
    · simp [h2]
    · have : ¬ i ≤ j := by omega
      simp [h, h2, this]
@[simp] theorem cmp_gt_i : dCmp .Gt (.int i) (.int j) = some (.bool (decide (j < i))) := by
  show some (PyData.bool (cmpR .Gt (cmpD (.int i) (.int j)))) = _
  unfold cmpR cmpD
  congr 2
  by_cases h : i < j
  · have : ¬ j < i := by omega
    simp [h, this]
  · by_cases h2 : i = j
    · simp [h2]
    · have : j < i := by omega
      simp [h, h2, this]
@[simp] theorem cmp_ge_i : dCmp .GtE (.int i) (.int j) = some (.bool (decide (j ≤ i))) := by
  show some (PyData.bool (cmpR .GtE (cmpD (.int i) (.int j)))) = _
  unfold cmpR cmpD
  congr 2
  by_cases h : i < j
  · have : ¬ j ≤ i := by omega
    simp [h, this]
  · have : j ≤ i := by omega
    by_cases h2 : i = j <;> simp [h, h2, this]
@[simp] theorem cmp_eq_i : dCmp .Eq (.int i) (.int j) = some (.bool (decide (i = j))) := by
  show some (PyData.bool (i == j)) = _
  rfl
@[simp] theorem cmp_ne_i : dCmp .NotEq (.int i) (.int j) = some (.bool (!decide (i = j))) := by
  show some (PyData.bool (!(i == j))) = _
  rfl
@[simp] theorem cmp_eq_s : dCmp .Eq (.str a) (.str b) = some (.bool (a == b)) := rfl
@[simp] theorem cmp_ne_s : dCmp .NotEq (.str a) (.str b) = some (.bool (!(a == b))) := rfl
theorem eqB_of {x y : Pv.D} (h : layOk x y = true) : dEqB x y = some (PyData.eqv x y) := by
  unfold dEqB
  split
  · rfl
  · rw [if_pos h]
theorem cmp_eq {x y : Pv.D} (h : layOk x y = true) : dCmp .Eq x y = some (.bool (PyData.eqv x y)) := by
  show obD (dEqB x y) = _
  rw [eqB_of h]; rfl
theorem cmp_ne {x y : Pv.D} (h : layOk x y = true) : dCmp .NotEq x y = some (.bool (!PyData.eqv x y)) := by
  show obD ((dEqB x y).map (!·)) = _
  rw [eqB_of h]; rfl
@[simp] theorem eqv_nil_l (xs : List Pv.D) : PyData.eqv (.list xs) (.list []) = xs.isEmpty := by cases xs <;> rfl
@[simp] theorem eqv_nil_t (xs : List Pv.D) : PyData.eqv (.tuple xs) (.tuple []) = xs.isEmpty := by cases xs <;> rfl
theorem lay_nil {y : Pv.D} (hy : y.canLay0 = true) : layOk y (.list []) = true ∧ layOk y (.tuple []) = true := by
  unfold layOk
  rw [hy]
  have h : min y.depth 1 ≤ 64 := by omega
  exact ⟨decide_eq_true h, decide_eq_true h⟩
theorem cmp_eq_nilL (h : PyData.canLayAll0 xs = true) : dCmp .Eq (.list xs) (.list []) = some (.bool xs.isEmpty) := by
  rw [cmp_eq (lay_nil (y := .list xs) h).1, eqv_nil_l]
theorem cmp_ne_nilL (h : PyData.canLayAll0 xs = true) : dCmp .NotEq (.list xs) (.list []) = some (.bool (!xs.isEmpty)) := by
  rw [cmp_ne (lay_nil (y := .list xs) h).1, eqv_nil_l]
@[simp] theorem cmp_ne_nn : dCmp .NotEq (.list []) (.list []) = some (.bool false) := cmp_ne_nilL rfl
@[simp] theorem cmp_eq_nn : dCmp .Eq (.list []) (.list []) = some (.bool true) := cmp_eq_nilL rfl
end
@[simp] theorem fin_cons {d : Pv.D} {a : MO} {st : Sto} : finR (st.length + 1) (.ok d (a :: st)) = .ok d (a :: st) := fin_same rfl
def fd (cs : List Pv.D) (sp lf dr : Int) : MO := .dct [(.inr "cells", .list cs), (.inr "spot", .int sp), (.inr "left", .int lf), (.inr "drawn", .int dr)]
def IntsD (cs : List Pv.D) : Prop := ∀ c ∈ cs, ∃ i, c = .int i
section
variable {cs : List Pv.D} {sp lf dr v : Int} {st : Sto}
theorem ints_lay {cs : List Pv.D} (h : IntsD cs) : PyData.canLayAll0 cs = true := (layAll_iff cs).mpr fun x hx => by obtain ⟨i, e⟩ := h x hx; subst e; rfl
theorem fd_cells : fIx (Rf 0) (.str "cells") (fd cs sp lf dr :: st) = .ok (.list cs) (fd cs sp lf dr :: st) := by
  unfold fIx dlook fd; simp [keyOf, lookD]
theorem fd_spot : fIx (Rf 0) (.str "spot") (fd cs sp lf dr :: st) = .ok (.int sp) (fd cs sp lf dr :: st) := by
  unfold fIx dlook fd; simp [keyOf, lookD]
theorem fd_left : fIx (Rf 0) (.str "left") (fd cs sp lf dr :: st) = .ok (.int lf) (fd cs sp lf dr :: st) := by
  unfold fIx dlook fd; simp [keyOf, lookD]
theorem fd_drawn : fIx (Rf 0) (.str "drawn") (fd cs sp lf dr :: st) = .ok (.int dr) (fd cs sp lf dr :: st) := by
  unfold fIx dlook fd; simp [keyOf, lookD]
theorem set_spot : setO (fd cs sp lf dr :: st) (Rf 0) (.str "spot") (.int v) = some (fd cs v lf dr :: st) := by
  unfold setO fd; simp [keyOf, putD, sizeLine_eq]
theorem set_left : setO (fd cs sp lf dr :: st) (Rf 0) (.str "left") (.int v) = some (fd cs sp v dr :: st) := by
  unfold setO fd; simp [keyOf, putD, sizeLine_eq]
theorem set_drawn : setO (fd cs sp lf dr :: st) (Rf 0) (.str "drawn") (.int v) = some (fd cs sp lf v :: st) := by
  unfold setO fd; simp [keyOf, putD, sizeLine_eq]
/-- a cell at any place -/
theorem at_mod {j : Int} (h : IntsD cs) (hne : cs ≠ []) : ∃ c, fIx (.list cs) (.int (j % (cs.length : Int))) st = .ok (.int c) st := by
  have hp : 0 < (cs.length : Int) := by
    have : cs.length ≠ 0 := fun z => hne (List.length_eq_zero_iff.mp z)
    omega
  have h0 := Int.emod_nonneg j (by omega : (cs.length : Int) ≠ 0)
  have h1 := Int.emod_lt_of_pos j hp
  obtain ⟨k, hk⟩ : ∃ k : Nat, j % (cs.length : Int) = (k : Int) := ⟨_, (Int.toNat_of_nonneg h0).symm⟩
  rw [hk] at h1 ⊢
  have hlt : k < cs.length := by omega
  obtain ⟨c, hc⟩ := h cs[k] (List.getElem_mem hlt)
  refine ⟨c, ?_⟩
  have e : dIx (.list cs) (.int (k : Int)) = some (.int c) := by
    show atI cs (k : Int) = _
    unfold atI ixN
    rw [if_pos (by omega), if_pos (by omega)]
    simp [hlt, hc]
  unfold fIx dlook
  simp [e]
end
theorem lcL_map {keep : Sto → Prop} [DecidablePred keep] {t : CT} {tt : MT} {te : M} {sl : Sl} {st : Sto} (f : Pv.D → Pv.D) (p : Pv.D → Bool) (hk : keep st) : ∀ {ds : List Pv.D},
    (∀ d ∈ ds, ∃ sl2, ctSet t d sl = some sl2 ∧ tt sl2 st = .ok (p d) st ∧ (p d = true → te sl2 st = .ok (f d) st)) → lcL keep t tt te sl ds st = .ok ((ds.filter p).map f) st
  | [], _ => by unfold lcL; rw [if_pos hk]; rfl
  | d :: ds, h => by
    obtain ⟨sl2, h1, h2, h3⟩ := h d List.mem_cons_self
    have ih := lcL_map f p hk (ds := ds) fun x hx => h x (List.mem_cons_of_mem _ hx)
    unfold lcL
    rw [if_pos hk, h1]
    simp only [h2]
    cases hp : p d with
    | true => simp only [h3 hp, ih, List.filter_cons, hp, if_true, List.map_cons]
    | false => simp [ih, List.filter_cons, hp]
theorem mLc_map {mi : MI} {t : CT} {tt : MT} {te : M} {vs : List Nat} {sl : Sl} {st : Sto} {ds : List Pv.D} {keep : Sto → Prop} [DecidablePred keep] (f : Pv.D → Pv.D) (p : Pv.D → Bool) (hi : mi sl st = .ok ⟨ds, keep⟩ st) (hk : keep st) (hz : ds.length ≤ sizeLine)
    (h : ∀ d ∈ ds, ∃ sl2, ctSet t d (wipeD sl vs) = some sl2 ∧ tt sl2 st = .ok (p d) st ∧ (p d = true → te sl2 st = .ok (f d) st)) : mLc mi t tt te vs sl st = .ok (.list ((ds.filter p).map f)) st := by
  unfold mLc lcR
  rw [hi]
  simp only [R.bind_ok, lcL_map f p hk h]
  rw [if_pos]
  · rfl
  · rw [List.length_map]; exact Nat.le_trans (List.length_filter_le _ _) hz
theorem mLc_all {mi : MI} {t : CT} {te : M} {vs : List Nat} {sl : Sl} {st : Sto} {ds : List Pv.D} {keep : Sto → Prop} [DecidablePred keep] (f : Pv.D → Pv.D) (hi : mi sl st = .ok ⟨ds, keep⟩ st) (hk : keep st) (hz : ds.length ≤ sizeLine)
    (h : ∀ d ∈ ds, ∃ sl2, ctSet t d (wipeD sl vs) = some sl2 ∧ te sl2 st = .ok (f d) st) : mLc mi t tYesM te vs sl st = .ok (.list (ds.map f)) st := by
  have := mLc_map (tt := tYesM) f (fun _ => true) hi hk hz fun d hd => let ⟨a, b, c⟩ := h d hd; ⟨a, b, rfl, fun _ => c⟩
  rw [this]
  congr 2
  rw [List.filter_eq_self.mpr fun _ _ => rfl]
theorem Ok.nodict {n k : Nat} {kv : List (Pv.D × Pv.D)} (h : Ok (.dict kv) n k) : False := by
  have := h.lay; simp [PyData.canLay0] at this
@[simp] theorem is_none_n : isNone .none = true := rfl
@[simp] theorem is_none_i {i : Int} : isNone (.int i) = false := rfl
@[simp] theorem is_none_b {b : Bool} : isNone (.bool b) = false := rfl
@[simp] theorem is_none_s {z : Str} : isNone (.str z) = false := rfl
@[simp] theorem is_none_l {xs : List Pv.D} : isNone (.list xs) = false := rfl
@[simp] theorem is_none_t {xs : List Pv.D} : isNone (.tuple xs) = false := rfl
@[simp] theorem len_t {xs : List Pv.D} : dLen (.tuple xs) = some (.int xs.length) := rfl
@[simp] theorem len_l {xs : List Pv.D} : dLen (.list xs) = some (.int xs.length) := rfl
theorem ix_t {ds : List Pv.D} {j : Nat} {d : Pv.D} {st : Sto} (h : ds[j]? = some d) : fIx (.tuple ds) (.int (j : Int)) st = .ok d st := by
  have hlt := (List.getElem?_eq_some_iff.mp h).1
  have e : dIx (.tuple ds) (.int (j : Int)) = some d := by
    show atI ds (j : Int) = _
    unfold atI ixN
    rw [if_pos (by omega), if_pos (by omega)]
    simpa using h
  unfold fIx dlook
  simp [e]
theorem ix_l {ds : List Pv.D} {j : Nat} {d : Pv.D} {st : Sto} (h : ds[j]? = some d) : fIx (.list ds) (.int (j : Int)) st = .ok d st := by
  have hlt := (List.getElem?_eq_some_iff.mp h).1
  have e : dIx (.list ds) (.int (j : Int)) = some d := by
    show atI ds (j : Int) = _
    unfold atI ixN
    rw [if_pos (by omega), if_pos (by omega)]
    simpa using h
  unfold fIx dlook
  simp [e]
@[simp] theorem ix_t0 {a : Pv.D} {ds : List Pv.D} {st : Sto} : fIx (.tuple (a :: ds)) (.int 0) st = .ok a st := ix_t (j := 0) rfl
@[simp] theorem ix_t1 {a b : Pv.D} {ds : List Pv.D} {st : Sto} : fIx (.tuple (a :: b :: ds)) (.int 1) st = .ok b st := ix_t (j := 1) rfl
@[simp] theorem ix_t2 {a b c : Pv.D} {ds : List Pv.D} {st : Sto} : fIx (.tuple (a :: b :: c :: ds)) (.int 2) st = .ok c st := ix_t (j := 2) rfl
@[simp] theorem ix_t3 {a b c d : Pv.D} {ds : List Pv.D} {st : Sto} : fIx (.tuple (a :: b :: c :: d :: ds)) (.int 3) st = .ok d st := ix_t (j := 3) rfl
@[simp] theorem ix_t4 {a b c d e : Pv.D} {ds : List Pv.D} {st : Sto} : fIx (.tuple (a :: b :: c :: d :: e :: ds)) (.int 4) st = .ok e st := ix_t (j := 4) rfl
@[simp] theorem src_t {ds : List Pv.D} {st : Sto} : srcOf (.tuple ds) st = .ok ⟨ds, always⟩ st := rfl
@[simp] theorem src_l {ds : List Pv.D} {st : Sto} : srcOf (.list ds) st = .ok ⟨ds, always⟩ st := rfl
@[simp] theorem src_s {z : Str} {st : Sto} : srcOf (.str z) st = .ok ⟨signs z, always⟩ st := rfl
theorem forL_find {keep : Sto → Prop} [DecidablePred keep] {tg : MG} {body : MS} {fg : List Nat} {sl : Sl} {st : Sto} (f : Pv.D → Option Pv.D) (hk : keep st) : ∀ {ds : List Pv.D},
    (∀ (k : Nat) (d : Pv.D), ds[k]? = some d → (∀ (j : Nat) (e : Pv.D), j < k → ds[j]? = some e → f e = none) → (f d = none ∧ ∃ sl', (tg d sl st).thenS body = .nx sl' st ∧ wipeD sl' fg = sl) ∨ ∃ r, f d = some r ∧ (tg d sl st).thenS body = .rt r st) →
    forL keep tg body fg ds sl st = (match ds.findSome? f with | none => .nx sl st | some r => .rt r st)
  | [], _ => by unfold forL; rw [if_pos hk]; rfl
  | d :: ds, h => by
    unfold forL
    rw [if_pos hk]
    rcases h 0 d rfl (fun j e hj => absurd hj (Nat.not_lt_zero j)) with ⟨f0, sl', e1, e2⟩ | ⟨r, f0, e1⟩
    · rw [e1]
      simp only [e2, List.findSome?_cons, f0]
      refine forL_find f hk fun k x hx hb => h (k + 1) x hx fun j e hj he => ?_
      cases j with
      | zero => cases (show some d = some e from he); exact f0
      | succ j => exact hb j e (Nat.lt_of_succ_lt_succ hj) he
    · rw [e1]
      simp only [List.findSome?_cons, f0]
def ltS (a b : Str) : Bool := cmpR .Lt (cmpD (.str a) (.str b))
@[simp] theorem cmp_lt_s {a b : Str} : dCmp .Lt (.str a) (.str b) = some (.bool (ltS a b)) := rfl
@[simp] theorem cmp_ge_s {a b : Str} : dCmp .GtE (.str a) (.str b) = some (.bool (!ltS a b)) := by
  show some (PyData.bool (cmpR .GtE (cmpD (.str a) (.str b)))) = _
  unfold ltS cmpR
  cases cmpD (.str a) (.str b) <;> rfl
theorem in_lst {x : Pv.D} {ns : List Pv.D} (h : x.canLay0 = true) (hn : PyData.canLayAll0 ns = true) (hd : min (PyData.depthAll ns) x.depth ≤ 64) : dCmp .In x (.list ns) = some (.bool (ns.any fun z => PyData.eqv z x)) := by
  show obD (dIn x (.list ns)) = _
  unfold dIn
  simp only [h, hn, decide_eq_true hd, Bool.and_self, if_true]
  rfl
end Pv
set_option Elab.async false
set_option linter.all false
set_option maxRecDepth 100000
set_option maxHeartbeats 4000000
namespace Pv
open PySem PySem.Spec L2
open PyProof.Rows hiding St signs cutD
mutual
def mx : Pv.D → Nat
  | .int i => i.natAbs
  | .list ds => mxL ds
  | .tuple ds => mxL ds
  | _ => 0
def mxL : List Pv.D → Nat
  | [] => 0
  | d :: ds => max (mx d) (mxL ds)
end
theorem mxL_append (xs ys : List Pv.D) : mxL (xs ++ ys) = max (mxL xs) (mxL ys) := by
  induction xs with
  | nil => simp [mxL]
  | cons x xs ih => simp only [List.cons_append, mxL, ih, Nat.max_assoc]
theorem mxL_mem {d : Pv.D} : ∀ {ds : List Pv.D}, d ∈ ds → mx d ≤ mxL ds
  | e :: ds, h => by
    unfold mxL
    rcases List.mem_cons.mp h with q | q
    · subst q; exact Nat.le_max_left _ _
    · exact Nat.le_trans (mxL_mem q) (Nat.le_max_right _ _)
theorem mxL_le {ds : List Pv.D} {n : Nat} : mxL ds ≤ n ↔ ∀ d ∈ ds, mx d ≤ n := by
  induction ds with
  | nil => simp [mxL]
  | cons d ds ih => simp [mxL, Nat.max_le, ih]
/-- bounded data: weight, depth, numbers -/
structure Bd (d : Pv.D) (n k b : Nat) : Prop where
  lay : d.canLay0 = true
  wt : wt d ≤ n
  dp : d.depth ≤ k
  mx : mx d ≤ b
theorem Bd.ok {d : Pv.D} {n k b : Nat} (h : Bd d n k b) : Ok d n k := ⟨h.lay, h.wt, h.dp⟩
theorem Bd.mono {d : Pv.D} {n k b n' k' b' : Nat} (h : Bd d n k b) (hn : n ≤ n') (hk : k ≤ k') (hb : b ≤ b') : Bd d n' k' b' := ⟨h.lay, Nat.le_trans h.wt hn, Nat.le_trans h.dp hk, Nat.le_trans h.mx hb⟩
/-- a list of bounded data -/
structure BdL (ds : List Pv.D) (n k b : Nat) : Prop where
  lay : PyData.canLayAll0 ds = true
  wt : wtL ds ≤ n
  dp : PyData.depthAll ds ≤ k
  mx : mxL ds ≤ b
theorem Bd.tup {ds : List Pv.D} {n k b : Nat} (h : BdL ds n k b) : Bd (.tuple ds) (n + 4) (k + 1) b := ⟨h.lay, by unfold Pv.wt; have := h.wt; omega, by show PyData.depthAll ds + 1 ≤ k + 1; have := h.dp; omega, h.mx⟩
theorem Bd.lst {ds : List Pv.D} {n k b : Nat} (h : BdL ds n k b) : Bd (.list ds) (n + 4) (k + 1) b := ⟨h.lay, by unfold Pv.wt; have := h.wt; omega, by show PyData.depthAll ds + 1 ≤ k + 1; have := h.dp; omega, h.mx⟩
theorem BdL.nil {k b : Nat} : BdL [] 0 k b := ⟨rfl, Nat.le_refl _, Nat.zero_le _, Nat.zero_le _⟩
theorem BdL.cons {d : Pv.D} {ds : List Pv.D} {n m k b : Nat} (h : Bd d n k b) (t : BdL ds m k b) : BdL (d :: ds) (n + 4 + m) k b :=
  ⟨by show (d.canLay0 && PyData.canLayAll0 ds) = true; rw [h.lay, t.lay]; rfl, by unfold wtL; have := h.wt; have := t.wt; omega, Nat.max_le.mpr ⟨h.dp, t.dp⟩, Nat.max_le.mpr ⟨h.mx, t.mx⟩⟩
theorem BdL.append {xs ys : List Pv.D} {n m k b : Nat} (h : BdL xs n k b) (t : BdL ys m k b) : BdL (xs ++ ys) (n + m) k b :=
  ⟨by rw [layAll_append, h.lay, t.lay]; rfl, by rw [wtL_append]; have := h.wt; have := t.wt; omega, by rw [depthAll_append]; exact Nat.max_le.mpr ⟨h.dp, t.dp⟩, by rw [mxL_append]; exact Nat.max_le.mpr ⟨h.mx, t.mx⟩⟩
theorem BdL.mono {ds : List Pv.D} {n k b n' k' b' : Nat} (h : BdL ds n k b) (hn : n ≤ n') (hk : k ≤ k') (hb : b ≤ b') : BdL ds n' k' b' := ⟨h.lay, Nat.le_trans h.wt hn, Nat.le_trans h.dp hk, Nat.le_trans h.mx hb⟩
theorem BdL.mem {d : Pv.D} {ds : List Pv.D} {n k b : Nat} (h : BdL ds n k b) (hd : d ∈ ds) : Bd d n k b :=
  ⟨(layAll_iff ds).mp h.lay d hd, Nat.le_trans (wtL_mem hd) h.wt, (depthAll_le ds k).mp h.dp d hd, Nat.le_trans (mxL_mem hd) h.mx⟩
theorem BdL.take {ds : List Pv.D} {n k b : Nat} (j : Nat) (h : BdL ds n k b) : BdL (ds.take j) n k b :=
  ⟨(layAll_iff _).mpr fun d hd => (layAll_iff ds).mp h.lay d (List.mem_of_mem_take hd), Nat.le_trans (wtL_take j ds) h.wt, (depthAll_le _ k).mpr fun d hd => (depthAll_le ds k).mp h.dp d (List.mem_of_mem_take hd), mxL_le.mpr fun d hd => mxL_le.mp h.mx d (List.mem_of_mem_take hd)⟩
theorem BdL.drop {ds : List Pv.D} {n k b : Nat} (j : Nat) (h : BdL ds n k b) : BdL (ds.drop j) n k b :=
  ⟨(layAll_iff _).mpr fun d hd => (layAll_iff ds).mp h.lay d (List.mem_of_mem_drop hd), Nat.le_trans (wtL_drop j ds) h.wt, (depthAll_le _ k).mpr fun d hd => (depthAll_le ds k).mp h.dp d (List.mem_of_mem_drop hd), mxL_le.mpr fun d hd => mxL_le.mp h.mx d (List.mem_of_mem_drop hd)⟩
theorem wtL_reverse (ds : List Pv.D) : wtL ds.reverse = wtL ds := by
  induction ds with
  | nil => rfl
  | cons d ds ih => rw [List.reverse_cons, wtL_append, ih]; simp only [wtL]; omega
theorem BdL.reverse {ds : List Pv.D} {n k b : Nat} (h : BdL ds n k b) : BdL ds.reverse n k b :=
  ⟨(layAll_iff _).mpr fun d hd => (layAll_iff ds).mp h.lay d (List.mem_reverse.mp hd), by rw [wtL_reverse]; exact h.wt, (depthAll_le _ k).mpr fun d hd => (depthAll_le ds k).mp h.dp d (List.mem_reverse.mp hd), mxL_le.mpr fun d hd => mxL_le.mp h.mx d (List.mem_reverse.mp hd)⟩
theorem Bd.int {i : Int} {b k : Nat} (h : i.natAbs ≤ b) (hb : b < 10 ^ 62) : Bd (.int i) 64 k b := ⟨rfl, by unfold Pv.wt; rw [if_pos (by omega)]; exact Nat.le_refl _, Nat.zero_le _, h⟩
theorem Bd.str {z : Str} {n b k : Nat} (h : (PyData.str z).canLay0 = true) (hz : 10 * z.length + 4 ≤ n) : Bd (.str z) n k b := ⟨h, by unfold Pv.wt; exact hz, Nat.zero_le _, Nat.zero_le _⟩
mutual
theorem fz_clean {g : Nat → Option Pv.D} : ∀ d : Pv.D, d.canLay0 = true → fz g d = some d
  | .none, _ => rfl
  | .bool _, _ => rfl
  | .int _, _ => rfl
  | .str _, _ => rfl
  | .list ds, h => by show (fzL g ds).map PyData.list = _; rw [fzL_clean ds h]; rfl
  | .tuple ds, h => by show (fzL g ds).map PyData.tuple = _; rw [fzL_clean ds h]; rfl
  | .dict _, h => by simp [PyData.canLay0] at h
theorem fzL_clean {g : Nat → Option Pv.D} : ∀ ds : List Pv.D, PyData.canLayAll0 ds = true → fzL g ds = some ds
  | [], _ => rfl
  | d :: ds, h => by
    have h' : d.canLay0 = true ∧ PyData.canLayAll0 ds = true := by simpa [PyData.canLayAll0] using h
    show (fz g d).bind (fun e => (fzL g ds).map (e :: ·)) = _
    rw [fz_clean d h'.1, fzL_clean ds h'.2]; rfl
end
/-- loops that go to their end -/
theorem forL_inv {keep : Sto → Prop} [DecidablePred keep] {tg : MG} {body : MS} {fg : List Nat} (I : Nat → Sl → Sto → Prop) (N : Nat) (hk : ∀ st, keep st) : ∀ {ds : List Pv.D} {k : Nat} {sl : Sl} {st : Sto}, k + ds.length ≤ N → I k sl st →
    (∀ (d : Pv.D) (k : Nat) (sl : Sl) (st : Sto), d ∈ ds → k < N → I k sl st → ∃ sl' st', (tg d sl st).thenS body = .nx sl' st' ∧ I (k + 1) (wipeD sl' fg) st') → ∃ sl' st', forL keep tg body fg ds sl st = .nx sl' st' ∧ I (k + ds.length) sl' st'
  | [], k, sl, st, hn, h, _ => ⟨sl, st, by unfold forL; rw [if_pos (hk st)], h⟩
  | d :: ds, k, sl, st, hn, h, hs => by
    rw [List.length_cons] at hn
    obtain ⟨sl', st', e, i⟩ := hs d k sl st List.mem_cons_self (by omega) h
    obtain ⟨sl2, st2, e2, i2⟩ := forL_inv I N hk (ds := ds) (by omega) i fun x k sl st hx => hs x k sl st (List.mem_cons_of_mem _ hx)
    refine ⟨sl2, st2, ?_, by rw [List.length_cons, show k + (ds.length + 1) = k + 1 + ds.length by omega]; exact i2⟩
    unfold forL
    rw [if_pos (hk st), e]
    exact e2
end Pv
set_option Elab.async false
set_option linter.all false
set_option maxRecDepth 100000
set_option maxHeartbeats 4000000
namespace Pv
open PySem PySem.Spec L2
open PyProof.Rows hiding St
def intsOfD : List Pv.D → Option (List Int)
  | [] => some []
  | .int i :: ds => (intsOfD ds).map (i :: ·)
  | _ => none
section
variable {K : PySem.W.Frag} {W : Wd} {H : Hp} {st : Sto} {v : V} {d : Pv.D}
theorem intsOfD_rep : ∀ {ds : List Pv.D} {vs : List V} {ns : List Int}, repL K W vs ds → intsOfD ds = some ns → vs = ns.map V.int
  | [], _, _, h, e => by cases e; exact h
  | d :: ds, _, _, ⟨v, us, q, r, l⟩, e => by
    cases d with
    | int i =>
      obtain ⟨ms, e1, e2⟩ := Option.map_eq_some_iff.mp e
      subst e2; subst q
      rw [intsOfD_rep l e1, rep_int r]; rfl
    | _ => cases e
def maxI : List Int → Option Int
  | [] => none
  | n :: ns => some (ns.foldl max n)
def minI : List Int → Option Int
  | [] => none
  | n :: ns => some (ns.foldl min n)
theorem foldl_max_ge (ns : List Int) (n : Int) : n ≤ ns.foldl max n ∧ ∀ y ∈ ns, y ≤ ns.foldl max n := by
  induction ns generalizing n with
  | nil => exact ⟨Int.le_refl _, fun _ h => by cases h⟩
  | cons m ns ih =>
    obtain ⟨a, b⟩ := ih (max n m)
    refine ⟨by simp only [List.foldl_cons]; omega, fun y hy => ?_⟩
    rcases List.mem_cons.mp hy with e | e
    · subst e; simp only [List.foldl_cons]; omega
    · exact b y e
theorem foldl_max_mem (ns : List Int) (n : Int) : ns.foldl max n ∈ n :: ns := by
  induction ns generalizing n with
  | nil => simp
  | cons m ns ih =>
    have := ih (max n m)
    simp only [List.foldl_cons]
    rcases List.mem_cons.mp this with e | e
    · rw [e]
      by_cases h : n ≤ m
      · rw [Int.max_eq_right h]; simp
      · rw [Int.max_eq_left (by omega)]; simp
    · simp [e]
theorem maxI_uniq {ns : List Int} {m : Int} (h1 : m ∈ ns) (h2 : ∀ y ∈ ns, y ≤ m) : maxI ns = some m := by
  cases ns with
  | nil => cases h1
  | cons n ns =>
    have a := foldl_max_ge ns n
    have b := foldl_max_mem ns n
    have : ns.foldl max n = m := by
      have h3 := h2 _ b
      rcases List.mem_cons.mp h1 with e | e
      · subst e; omega
      · have := a.2 m e; omega
    show some (ns.foldl max n) = _
    rw [this]
end
def dMax1 : Pv.D → Option Pv.D
  | .list ds => (intsOfD ds).bind fun ns => (maxI ns).map .int
  | _ => none
def dMin1 : Pv.D → Option Pv.D
  | .list ds => (intsOfD ds).bind fun ns => (minI ns).map .int
  | _ => none
def dSum1 : Pv.D → Option Pv.D
  | .list ds => (intsOfD ds).map fun ns => .int ns.sum
  | _ => none
def mMax1 : M → M := mOp1 (onD1 dMax1)
def mMin1 : M → M := mOp1 (onD1 dMin1)
def mSum1 : M → M := mOp1 (onD1 dSum1)
section
variable {X : Cx} {Wx : WX} {ea eb e : Expr} {ma mb mc : M} {pos p : Pos}
theorem ge_max1 (g : Gd X) (hm : X.mg "max" = none) (ha : GE X Wx ea ma) (hg : Gl X "max" := by rfl)
    (he : starEach (ea :: []) X.env = (false, eval ea X.env) :: starEach [] X.env := by rfl) (hpl : (backTo pos (starEach [] X.env)).any (·.1) = false := by rfl) : GE X Wx (.Call (.Name "max" p) [ea] [] pos) (mMax1 ma) := by
  refine ge_callB1 (cr_max g.calm) onD1_nx ?_ hg hm (by decide +kernel) ha (by decide +kernel) (by decide +kernel) he hpl
  intro W H st x dx Q hr rx p
  obtain ⟨d, e, p⟩ := onD1_post p
  cases hx : deref st dx with
  | list ds =>
    rw [hx] at e
    obtain ⟨ns, e1, e2⟩ := Option.bind_eq_some_iff.mp e
    obtain ⟨m, e3, e4⟩ := Option.map_eq_some_iff.mp e2
    subst e4
    obtain ⟨a, xs, q1, q2, l⟩ := rep_dlist hr rx hx
    subst q1
    have := intsOfD_rep l e1
    subst this
    refine ⟨a, ns, rfl, .inl (.inl q2), ?_, fun m' h1 h2 => ?_⟩
    · cases ns with | nil => cases e3 | cons _ _ => simp
    · rw [maxI_uniq h1 h2] at e3; cases e3; exact p.val hr rfl
  | _ => rw [hx] at e; cases e
end
theorem reads_ints {h : Heap} : ∀ {us : List Value} {ns : List Int}, Vals (ns.map V.int) us → ∃ as, ReadsAll h us (ns.map .int) as
  | us, [], r => by cases r; exact ⟨_, .nil⟩
  | us, n :: ns, r => by
    cases r with
    | cons a b =>
      obtain ⟨t, rfl⟩ := a
      obtain ⟨as, q⟩ := reads_ints b
      exact ⟨_, .cons (.int n t) q⟩
theorem alike_ints (ns : List Int) : PySem.W.AlikeAll (ns.map .int) := by
  refine ⟨fun x hx y hy => ?_, fun x hx e => ?_⟩
  · obtain ⟨i, _, rfl⟩ := List.mem_map.mp hx
    obtain ⟨j, _, rfl⟩ := List.mem_map.mp hy
    simp [PySem.W.alike]
  · obtain ⟨i, _, rfl⟩ := List.mem_map.mp hx
    cases e
theorem depth_ints (ns : List Int) : PyData.depthAll (ns.map .int) = 0 := by
  induction ns with
  | nil => rfl
  | cons n ns ih => show max 0 (PyData.depthAll (ns.map .int)) = 0; rw [ih]; rfl
def rMaxDf (K : PySem.W.Frag) : List V → List V → Hp → VK → Prop := fun xs zs H Q => ∃ (a : Addr) (ns : List Int) (z : V), xs = [V.ref a] ∧ zs = [z] ∧ SqL K H a (ns.map V.int) ∧ (maxI ns = none → Q z H) ∧ ∀ m, maxI ns = some m → Q (.int m) H
theorem cr_maxDf {X : Cx} (g : Gd X) : CallRK X (.builtin "max") ["default"] (rMaxDf X.K) := by
  intro pins s σ H xs zs us ws Q I r1 r2 h
  obtain ⟨a, ns, z, rfl, rfl, hs, q0, q1⟩ := h
  obtain ⟨its, rv, hl, _⟩ := I.list hs
  rw [Vals.ref1 r1]
  cases r2 with
  | cons rz rr =>
    cases rr
    obtain ⟨as, ra⟩ := reads_ints (h := s.heap) rv
    refine PySem.W.max_list_default (I.ok.hd g.calm) hl.isList ra (alike_ints ns) (by rw [depth_ints]; have := g.un; omega) (fun e h' tk hk => ?_) (fun y ys i v h' tk bs e hv rd hk => ?_)
    · have : ns = [] := by simpa using e
      subst this
      exact ⟨z, H, I.kept hk, rz, q0 rfl⟩
    · cases ns with
      | nil => cases e
      | cons n ns =>
        simp only [List.map_cons, List.cons.injEq] at e
        obtain ⟨e1, e2⟩ := e
        subst e1; subst e2
        rw [PySem.W.maxD_ints] at rd
        cases rd
        exact ⟨.int _, H, I.kept hk, ⟨_, rfl⟩, q1 _ rfl⟩
def fMaxDf (x y : Pv.D) (st : Sto) : R Pv.D :=
  match deref st x with
  | .list ds => (match intsOfD ds with
    | some ns => (match maxI ns with | some m => .ok (.int m) st | none => .ok y st)
    | none => .bad)
  | _ => .bad
def mMaxDf : M → M → M := mOp2 fMaxDf
section
variable {X : Cx} {Wx : WX} {ea eb e : Expr} {ma mb mc : M} {pos p kp : Pos}
theorem ge_maxDf (g : Gd X) (hm : X.mg "max" = none) (ha : GE X Wx ea ma) (hb : GE X Wx eb mb) (hg : Gl X "max" := by rfl)
    (hs1 : starEach [ea] X.env = (false, eval ea X.env) :: starEach [] X.env := by rfl) (he : backTo pos (starEach (ea :: []) X.env) = (false, eval ea X.env) :: backTo pos (starEach [] X.env) := by rfl) (hpl : (backTo pos (starEach (ea :: []) X.env)).any (·.1) = false := by rfl)
    (hall : (backToKw pos (keywordEach [⟨some "default", eb, kp⟩] X.env)).all (·.1.isSome) = true := by rfl) (hnone : (backToKw pos (keywordEach [⟨some "default", eb, kp⟩] X.env)).any (·.1.isNone) = false := by rfl) (hks : (backToKw pos (keywordEach [⟨some "default", eb, kp⟩] X.env)).filterMap (·.1) = [("default" : Str)] := by rfl) :
    GE X Wx (.Call (.Name "max" p) [ea] [⟨some "default", eb, kp⟩] pos) (mMaxDf ma mb) := by
  have P := pe_callBK (p := p) (cr_maxDf g) hg hm (by decide +kernel) (pa_cons ha pa_nil hs1) (pk_cons (nm := some "default") (kpos := kp) hb pk_nil) (by decide +kernel) (by decide +kernel) he hpl hall hnone hks
  refine PE.imp P fun sh H Q ⟨W, sl, st, hr, hs, q⟩ => ?_
  refine rd_bind hr hs q fun d1 st1 W1 v1 H1 e1 x1 h1 s1 r1 p1 => ?_
  refine rd_bind h1 s1 p1 fun d2 st2 W2 v2 H2 e2 x2 h2 s2 r2 p2 => ?_
  unfold fMaxDf at p2
  split at p2
  · rename_i ds hds
    split at p2
    · rename_i ns hns
      obtain ⟨a, xs, q1, q2, l⟩ := rep_dlist h2 (x2.rep r1) hds
      subst q1
      have := intsOfD_rep l hns
      subst this
      refine ⟨a, ns, v2, rfl, rfl, .inl (.inl q2), fun hn => ?_, fun m hm => ?_⟩
      · rw [hn] at p2; exact p2.val h2 r2
      · rw [hm] at p2; exact p2.val h2 rfl
    · exact p2.elim
  · exact p2.elim
end
end Pv
set_option Elab.async false
set_option linter.all false
set_option maxRecDepth 100000
set_option maxHeartbeats 400000
namespace Pv
open PySem PySem.Spec L2
open PyProof.Rows hiding St
def dLe : Pv.D → Pv.D → Bool := PySem.W.dataLe false id
def sortD (ds : List Pv.D) : List Pv.D := ds.mergeSort dLe
def isTupC : Pv.D → Bool
  | .tuple (_ :: _) => true
  | _ => false
def noTup : Pv.D → Bool
  | .tuple _ => false
  | .none => false
  | _ => true
def srtOk (ds : List Pv.D) : Bool := (ds.all fun d => ds.all fun e => PySem.W.alike d e) && ((ds.all isTupC || ds.all noTup) && (PyData.canLayAll0 ds && (decide (PyData.depthAll ds ≤ 64) && decide (ds.length ≤ sizeLine))))
end Pv
set_option Elab.async false
set_option linter.all false
set_option maxRecDepth 100000
set_option maxHeartbeats 400000
namespace Pv
open PySem PySem.Spec L2
open PyProof.Rows hiding St
def isDct (st : Sto) (o : Pv.D) : Bool :=
  match o with
  | .dict [(.int r, .none)] => (match st[r.toNat]? with | some (.dct _) => true | some (.dctT _) => true | _ => false)
  | _ => false
section
variable {K : PySem.W.Frag} {W : Wd} {H : Hp} {st : Sto}
theorem isDct_rep {v : V} {o : Pv.D} (hr : HR K W H st) (h : rep K W v o) (e : isDct st o = true) : ∃ a, v = .ref a ∧ IsD H a := by
  unfold isDct at e
  split at e
  · rename_i i
    rcases rep_dict h with ⟨r, a, e1, e2, e3⟩ | ⟨ds', a, xs, e1, _, _⟩ | ⟨ds', a, xs, e1, _, _⟩ | ⟨ae, ade, ce, nse, fse, he⟩
    rotate_left
    · cases e1
    · cases e1
    · cases he
    have ei : i = (r : Int) := by injection e1 with q1 _; injection q1 with q2 _; injection q2
    subst ei
    rw [Int.toNat_natCast] at e
    obtain ⟨m, hm, _, ho⟩ := hr.at e3
    rw [hm] at e
    cases m with
    | lst ds => cases e
    | ro _ => cases e
    | dct kvs => obtain ⟨ks, g1, g2⟩ := ho; exact ⟨a, e2, .inl ⟨ks, .inl g1⟩⟩
    | dctT kvs => obtain ⟨ks, g1, g2⟩ := ho; exact ⟨a, e2, .inr ⟨ks, .inl g1⟩⟩
    | tb _ _ => cases e
  · cases e
end
def fGet (x y z : Pv.D) (st : Sto) : R Pv.D := match dlook st x y with
  | some (some d) => .ok d st
  | some none => .ok z st
  | none => .bad
def mGet1 (a b : M) : M := fun sl st => (a sl st).bind fun o st => if isDct st o = true then (b sl st).bind fun y st => fGet o y .none st else .bad
def mGet2 (a b c : M) : M := fun sl st => (a sl st).bind fun o st => if isDct st o = true then (b sl st).bind fun y st => (c sl st).bind fun z st => fGet o y z st else .bad
section
variable {X : Cx} {Wx : WX} {ea eb ec e : Expr} {ma mb mc : M} {apos pos p : Pos}
theorem get_post {W : Wd} {H : Hp} {st : Sto} {Q : VK} {E : XK} {x y z : Pv.D} {v u w : V} {a : Addr} (hr : HR X.K W H st) (rx : rep X.K W v x) (ry : rep X.K W u y) (rz : rep X.K W w z) (ev : v = .ref a) (p : Post (nv X) W H Q E (fGet x y z st)) : ∃ o, DGet H a u o ∧ Q (o.getD w) H := by
  unfold fGet at p
  split at p
  · rename_i d q
    obtain ⟨b, ov, e1, e2, e3, e4⟩ := dlook_rep hr rx ry q
    rw [ev] at e1; cases e1
    obtain ⟨w', g1, g2⟩ := e3 d rfl
    subst g1
    exact ⟨_, e2, p.val hr g2⟩
  · rename_i q
    obtain ⟨b, ov, e1, e2, e3, e4⟩ := dlook_rep hr rx ry q
    rw [ev] at e1; cases e1
    have := e4 rfl
    subst this
    exact ⟨_, e2, p.val hr rz⟩
  · exact p.elim
theorem ge_get2 (g : Gd X) (ha : GE X Wx ea ma) (hb : GE X Wx eb mb) (hc : GE X Wx ec mc) (m : M2 X ea "get" apos eb ec pos := by exact ⟨rfl, rfl, rfl, rfl⟩) : GE X Wx (.Call (.Attribute ea "get" apos) [eb, ec] [] pos) (mGet2 ma mb mc) := by
  refine PE.imp (pe_dget2 (by have := g.un; omega) ha hb hc m) fun sh H Q ⟨W, sl, st, hr, hs, q⟩ => ?_
  refine rd_bind hr hs q fun d1 st1 W1 v1 H1 e1 x1 h1 s1 r1 p1 => ?_
  split at p1
  · rename_i hd
    obtain ⟨a, ev, isd⟩ := isDct_rep h1 r1 hd
    refine ⟨a, ev, isd, ?_⟩
    refine rd_bind h1 s1 p1 fun d2 st2 W2 v2 H2 e2 x2 h2 s2 r2 p2 => ?_
    refine rd_bind h2 s2 p2 fun d3 st3 W3 v3 H3 e3 x3 h3 s3 r3 p3 => ?_
    exact get_post h3 (x3.rep (x2.rep r1)) (x3.rep r2) r3 ev p3
  · exact p1.elim
def mNewK : M := fun _ st => .ok (Rf st.length) (st ++ [.dct []])
def mNewT : M := fun _ st => .ok (Rf st.length) (st ++ [.dctT []])
theorem ge_newK : GE X Wx (.Dict [] [] pos) mNewK := by
  refine PE.imp pe_dnewK fun sh H Q ⟨W, sl, st, hr, hs, q⟩ => fun a ha => ?_
  have p : Post (nv X) W H Q (fun cls dd H' => Wx cls dd sh H') (.ok (Rf st.length) (st ++ [.dct []])) := q
  obtain ⟨h2, x2⟩ := hr.newM (o := .dK []) (m := .dct []) ha ⟨[], upd_same, .nil⟩
  exact p _ (.ref a) _ x2 h2 ⟨st.length, a, rfl, rfl, by show (W.rho ++ [a])[st.length]? = some a; rw [← hr.len]; simp⟩
end
end Pv
set_option Elab.async false
set_option linter.all false
set_option maxRecDepth 100000
set_option maxHeartbeats 400000
namespace Pv
open PySem PySem.Spec L2
open PyProof.Rows hiding St
def cntD (ds : List Pv.D) (y : Pv.D) : Option Pv.D := if PyData.canLayAll0 ds = true ∧ y.canLay0 = true ∧ min (PyData.depthAll ds) y.depth ≤ 64 then some (.int ((ds.countP fun d => PyData.eqv d y : Nat) : Int)) else none
def fCnt (x y : Pv.D) (st : Sto) : R Pv.D :=
  match deref st x with
  | .list ds => lift (cntD ds (deref st y)) st
  | _ => .bad
def isLstD (st : Sto) (o : Pv.D) : Bool := match deref st o with | .list _ => true | _ => false
def mCnt (a b : M) : M := fun sl st => (a sl st).bind fun o st => if isLstD st o = true then (b sl st).bind fun d st => fCnt o d st else .bad
section
variable {X : Cx} {Wx : WX} {ea eb e : Expr} {ma mb mc : M} {pos p apos : Pos}
def tCntL (K : PySem.W.Frag) (ta tb : TE) : TE := fun σ H Q => ta σ H fun x H1 => ∃ a, x = .ref a ∧ (∃ xs, SqL K H1 a xs) ∧ tb σ H1 fun y H2 => ∃ xs ds d, SqL K H2 a xs ∧ DpAll K H2 xs ds ∧ Dp K H2 y d ∧ PyData.canLayAll0 ds = true ∧ d.canLay0 = true ∧ min (PyData.depthAll ds) d.depth ≤ 64 ∧ Q (.int ((ds.countP fun z => PyData.eqv z d : Nat) : Int)) H2
theorem seq_type {h : Heap} {s : Shared} {a : Addr} {o : Obj} {T : String} (ho : s.heap.get? a = some o) (hc : o.cls = .type T) (hd : o.dict = none) : s.TypeIs (.ref a) T ∧ ∀ b, Value.ref a = .ref b → ∃ ob, s.heap.get? b = some ob ∧ ob.dict = none :=
  ⟨⟨o, ho, hc⟩, fun b e => by cases e; exact ⟨o, ho, hd⟩⟩
theorem pe_cntL {ta tb : TE} (hg : Gd0 X) (ho : PE X ea ta) (he : PE X eb tb) (m : M1 X ea "count" apos eb pos) : PE X (.Call (.Attribute ea "count" apos) [eb] [] pos) (tCntL X.K ta tb) := by
  refine ⟨fun pins s σ H Q I h => ?_⟩
  refine wpAny_Call_method m.base m.few m.line PySem.F.plainAttrs_list PySem.F.slot_list_count PySem.F.type_list_count (thn (ho.run pins s σ H _ I h) fun u s1 ⟨x, H1, I1, rx, a, ex, ⟨xs, d⟩, q1⟩ => ?_)
  subst ex
  obtain rfl : u = Value.ref a := rx
  obtain ⟨its, _, pl, _⟩ := I1.list d
  obtain ⟨o, n, e1, e2, e3, e4⟩ := id pl
  obtain ⟨t1, t2⟩ := seq_type (h := s1.heap) (s := s1) e1 e2 e3
  refine ⟨t1, t2, ?_⟩
  rw [m.trees]
  refine Calls.callWith_builtin rfl (Calls.evalArgs_plain (Calls.spliced_cons (thn (he.run pins s1 σ H1 _ I1 q1) fun iv s2 ⟨y, H2, I2, ry, xs2, ds, d2, g1, g2, g3, g4, g5, g6, g7⟩ => Calls.spliced_nil ?_)))
  obtain ⟨its2, rv2, pl2, _⟩ := I2.list g1
  obtain ⟨as, ra⟩ := Dp.readsAll I2 ds xs2 its2 g2 rv2
  obtain ⟨bs, rb⟩ := Dp.reads I2 d2 y iv g3 ry
  exact PySem.SeqAt.count_list_data pl2.isList ra rb (PyData.plainAll_of_canLay0 _ g4) (PyData.plain_of_canLay0 _ g5) (by have := hg.un; omega) ⟨.int _, H2, I2.tok _, ⟨_, rfl⟩, g7⟩
theorem ge_count (g : Gd0 X) (ha : GE X Wx ea ma) (hb : GE X Wx eb mb) (m : M1 X ea "count" apos eb pos := by exact ⟨rfl, rfl, rfl, rfl⟩) : GE X Wx (.Call (.Attribute ea "count" apos) [eb] [] pos) (mCnt ma mb) := by
  refine PE.imp (pe_cntL g ha hb m) fun sh H Q ⟨W, sl, st, hr, hs, q⟩ => ?_
  refine rd_bind hr hs q fun d1 st1 W1 v1 H1 e1 x1 h1 s1 r1 p1 => ?_
  split at p1
  · rename_i hl
    unfold isLstD at hl
    split at hl
    · rename_i ds0 hds0
      obtain ⟨a, xs0, q1, q2, l0⟩ := rep_dlist h1 r1 hds0
      refine ⟨a, q1, ⟨xs0, .inl (.inl q2)⟩, ?_⟩
      refine rd_bind h1 s1 p1 fun d2 st2 W2 v2 H2 e2 x2 h2 s2 r2 p2 => ?_
      unfold fCnt at p2
      split at p2
      · rename_i ds hds
        unfold cntD lift at p2
        split at p2
        · rename_i dd hdd
          split at hdd
          · rename_i hc
            cases hdd
            obtain ⟨b, xs, g1, g2, l⟩ := rep_dlist h2 (x2.rep r1) hds
            rw [q1] at g1; cases g1
            exact ⟨xs, ds, deref st2 d2, .inl (.inl g2), repL_dp h2.sub ds hc.1 l, rep_dpR h2 r2 rfl hc.2.1, hc.1, hc.2.1, hc.2.2, p2.val h2 rfl⟩
          · cases hdd
        · exact p2.elim
      · exact p2.elim
    · cases hl
  · exact p1.elim
end
end Pv
set_option Elab.async false
set_option linter.all false
set_option maxRecDepth 100000
set_option maxHeartbeats 400000
namespace Pv
open PySem PySem.Spec L2
open PyProof.Rows hiding St
section
variable {K : PySem.W.Frag} {W : Wd} {H : Hp} {st : Sto}
def pairD (d e : Pv.D) : Pv.D := .tuple [d, e]
end
theorem WalkK.mono {K : PySem.W.Frag} {J : It} {W W' : Wd} {s : Src} (h : WalkK K J W s) (f : ∀ b o, W.F b = some o → W'.F b = some o) (r : ∀ (r : Nat) (a : Addr), W.rho[r]? = some a → W'.rho[r]? = some a) : WalkK K J W' s :=
  fun W1 H1 st1 h1 f1 r1 k => h W1 H1 st1 h1 (fun b o e => f1 b o (f b o e)) (fun q a e => r1 q a (r q a e)) k
end Pv
set_option Elab.async false
set_option linter.all false
set_option maxRecDepth 100000
set_option maxHeartbeats 1000000
namespace Pv
open PySem PySem.Spec L2
open PyProof.Rows hiding St
end Pv
set_option Elab.async false
set_option linter.all false
set_option maxRecDepth 100000
set_option maxHeartbeats 1000000
namespace Pv
open PySem PySem.Spec L2
open PyProof.Rows hiding St
section
variable {X : Cx} {Wx : WX} {W : Wd} {H : Hp} {st : Sto} {sh : L2.St} {sl : Sl} {kx vx tg iter : Expr} {ifs : List Expr} {scope : Scope} {pos : Pos} {mi : MI} {t : CT} {tt : MT} {tk tv : M}
theorem Bes.adopt {K : PySem.W.Frag} {W W1 : Wd} {H H1 : Hp} {st : Sto} {Dd : Addr} {m : MO} (b : Bes W H Dd W1 H1) (h : HR K W1 H1 st) (hD : Nn H Dd) (htb : noTb m = true) (hm : repO K ⟨W1.F, W1.rho ++ [Dd]⟩ H1 Dd m) :
    HR K ⟨W1.F, W1.rho ++ [Dd]⟩ H1 (st ++ [m]) ∧ Ext W H ⟨W1.F, W1.rho ++ [Dd]⟩ H1 ∧ rep K ⟨W1.F, W1.rho ++ [Dd]⟩ (.ref Dd) (Rf st.length) := by
  refine ⟨HR.keepM h b.n b.f hm htb, ⟨b.e.fr, ?_, b.e.out, b.e.non, b.e.nf⟩, ⟨st.length, Dd, rfl, rfl, by show (W1.rho ++ [Dd])[st.length]? = some Dd; rw [← h.len]; simp⟩⟩
  obtain ⟨r, e, hm⟩ := b.e.rh
  refine ⟨r ++ [Dd], by show W1.rho ++ [Dd] = _; rw [e, List.append_assoc], fun a ha => ?_⟩
  rcases List.mem_append.mp ha with z | z
  · exact hm a z
  · have : a = Dd := by simpa using z
    rw [this]; exact hD
end
end Pv
set_option Elab.async false
set_option linter.all false
set_option maxRecDepth 100000
set_option maxHeartbeats 1000000
set_option pp.maxSteps 200
namespace Pv
open PySem PySem.Spec L2
open PyProof.Rows hiding St
/-- the context of such an __init__ -/
def iCx (P : Program) (w : World) (K : PySem.W.Frag) (mg : Str → Option Value) (base : Heap) (N : List Str) (qual : Str) (scope : Scope) (f cc : Addr) (cdv : Value) (A : Around) (outer : List Env) (s : Shared) (H : Hp) : Cx where
  prog := P
  w := w
  K := K
  mg := mg
  base := base
  A := A.deeper (PySem.W.ksEnv qual scope s.heap.objs.size f cdv cc)
  N := N
  s_0 := s
  H_0 := H
  env := PySem.W.ksEnv qual scope s.heap.objs.size f cdv cc
  outer := outer
  stack := PySem.W.ksEnv qual scope s.heap.objs.size f cdv cc :: outer
  ex := []
  fn := fun _ => false
  calm := true
  pn := []
  xe := fun _ _ => False
/-- what the written part says of the def -/
structure InitAt (K : PySem.W.Frag) (mg : Str → Option Value) (prog : Program) (N : List Str) (qual : Str) (scope : Scope) (f cc : Addr) (fd : FuncData) (cdv : Value) (C : Addr) : Prop where
  lk : ∃ oc od osl, K.lookup f = some ⟨oc, od, .func fd, osl⟩
  fd_ : ∃ params body dV kV doc pm an ct, fd = PySem.W.ksFn "__init__" qual params body scope dV kV doc pm an cdv ct cc ∧ (∃ ar, (params.posonlyargs ++ params.args).head? = some ar ∧ some ar.arg = N[0]?)
  code : PySem.W.codeIn K cdv qual = true
  cda : ∃ cda ccl cdd vs ccs file tf, cdv = .ref cda ∧ K.lookup cda = some ⟨ccl, cdd, .fields vs, ccs⟩ ∧ vs[2]? = some (.str file tf) ∧ ((prog.main.file : Str) == file) = true
  cell : ∃ cl cld csl, K.lookup cc = some ⟨cl, cld, .cell (some (.ref C)), csl⟩
  nsuper : mg "super" = none
  kind : scope.kind = .function
  co : scope.isCoroutine = false
  gen : scope.isGenerator = false
  loc : ∀ x ∈ N, scope.names.lookup x = some .local
  nocell : ∀ y ∈ scope.names, y.2 ≠ .cell
  free : ∀ y ∈ scope.names, y.2 = .free → y.1 = "__class__"
  ks : scope.names.lookup ("super" : Str) = some .globalImplicit
  kc : scope.names.lookup ("__class__" : Str) = some .free
  nd : N.Nodup
  top : (prog.main.scope.names.lookup ("super" : Str)).isSome = false
theorem lookup_nodup {α β : Type} [BEq α] [LawfulBEq α] : ∀ {l : List (α × β)} {x : α} {y : β}, (l.map (·.1)).Nodup → (x, y) ∈ l → l.lookup x = some y
  | [], _, _, _, h => by cases h
  | (a, b) :: l, x, y, nd, h => by
    simp only [List.map_cons, List.nodup_cons] at nd
    rcases List.mem_cons.mp h with e | e
    · cases e; simp [List.lookup]
    · have : ¬ x = a := fun z => nd.1 (z ▸ List.mem_map.mpr ⟨(x, y), e, rfl⟩)
      have hb : (x == a) = false := beq_eq_false_iff_ne.mpr this
      simp only [List.lookup, hb]
      exact lookup_nodup nd.2 e
section
variable {P : Program} {w : World} {K : PySem.W.Frag} {mg : Str → Option Value} {base : Heap} {N : List Str} {qual : Str} {scope : Scope} {f cc C : Addr} {fd : FuncData} {cdv : Value}
theorem i_start {A : Around} {outer : List Env} {s : Shared} {H : Hp} {us : List Value} {vs : List V} {h₁ : Heap} {tk : Nat} (D : InitAt K mg P N qual scope f cc fd cdv C) (hd : A.handled = none) (e0 : Env0 P w K mg base A outer s H) (hl : vs.length = N.length) (r : Vals vs us)
    (hns : h₁.Ns s.heap.objs.size fun y => (N.zip us).reverse.lookup y) (kp : ∀ b o, s.heap.get? b = some o → h₁.get? b = some o) :
    Inv (iCx P w K mg base N qual scope f cc cdv A outer s H) [] (L2.start N vs) H { s with heap := h₁, toks := tk } := by
  obtain ⟨cl, cld, csl, hcell⟩ := D.cell
  have bcell : base.get? cc = some ⟨cl, cld, .cell (some (.ref C)), csl⟩ := e0.mod.kin _ _ hcell
  have cms : ∀ {y c}, ([("__class__", cc)] : List (Str × Addr)).lookup y = some c → y = "__class__" ∧ c = cc := fun {y c} e => by
    by_cases hy : y = "__class__"
    · subst hy
      rw [show ([("__class__", cc)] : List (Str × Addr)).lookup ("__class__" : Str) = some cc from by simp [List.lookup]] at e
      cases e; exact ⟨rfl, rfl⟩
    · rw [show ([("__class__", cc)] : List (Str × Addr)).lookup y = none from by simp [List.lookup, beq_eq_false_iff_ne.mpr hy]] at e
      cases e
  have noA : ∀ b : Addr, b ∉ (iCx P w K mg base N qual scope f cc cdv A outer s H).ex := fun b z => absurd (show b ∈ ([] : List Addr) from z) (by simp)
  have hus : us.length = N.length := r.length.symm.trans hl
  refine ⟨⟨e0.mod, D.kind, rfl, rfl, Nat.le_refl _, fun y z c e1 e2 => ?_, fun y hy => ?_, fun y c z _ => ?_, fun _ => hd, Around.frames_deeper e0.frames, .inr ⟨rfl, rfl⟩, fun b z => absurd z (noA b), e0.bs, e0.bsz, fun b _ _ => noA b,
      fun b z => absurd z (noA b), e0.funs, e0.frf⟩,
    rfl, e0.bare, Un.kept kp, ⟨_, hns, fun i y v e1 e2 e3 => ?_⟩, fun y c e => ?_, e0.hok.fresh (Nat.le_refl _), fun y c e => ?_, fun q hq => absurd (show q ∈ ([] : List (Addr × Obj)) ++ [] from hq) (by simp), e0.hok.kept kp, ?_⟩
  · exact (cms e1).1.trans (cms e2).1.symm
  · have hy : scope.names.lookup y = some .cell ∨ scope.names.lookup y = some .free := hy
    rcases hy with hy | hy
    · exact absurd rfl (D.nocell _ (PySem.mem_of_lookup hy))
    · have := D.free _ (PySem.mem_of_lookup hy) rfl
      have : y = "__class__" := this
      subst this
      exact ⟨cc, by show ([("__class__", cc)] : List (Str × Addr)).lookup ("__class__" : Str) = some cc; simp [List.lookup]⟩
  · have z : false = true := z
    cases z
  · have e1 : N[i]? = some y := e1
    have hi : i < N.length := (List.getElem?_eq_some_iff.mp e1).1
    have e2' : vs[i]? = some v := by
      unfold L2.start at e2
      rw [List.getElem?_append_left (by rw [List.length_map, hl]; exact hi), List.getElem?_map] at e2
      cases q : vs[i]? with
      | none => rw [q] at e2; cases e2
      | some a => rw [q] at e2; cases e2; rfl
    obtain ⟨u, hu, ru⟩ := r.get e2'
    refine ⟨u, ru, .inl ⟨D.loc y (List.mem_of_getElem? e1), ?_⟩⟩
    show (N.zip us).reverse.lookup y = some u
    have hz : (N.zip us)[i]? = some (y, u) := by rw [List.getElem?_zip_eq_some]; exact ⟨e1, hu⟩
    have nd : ((N.zip us).map (·.1)).Nodup := by
      rw [List.map_fst_zip (by omega)]; exact D.nd
    exact lookup_nodup (by rw [List.map_reverse]; exact List.pairwise_reverse.mpr (nd.imp fun h => Ne.symm h)) (List.mem_reverse.mpr (List.mem_of_getElem? hz))
  · obtain ⟨_, e⟩ := cms e
    rw [e]
    exact ⟨_, _, kp _ _ (e0.bs _ _ bcell).1, rfl⟩
  · obtain ⟨_, e⟩ := cms e
    rw [e]
    exact (e0.bs _ _ bcell).2
  · show (L2.start N vs).length = N.length
    unfold L2.start; simp [hl]
/-- super().__init__(e, ..) at the beginning, then what the rest asks -/
theorem i_run {A : Around} {outer : List Env} {s : Shared} {H : Hp} {args : Args} {us : List Value} {vs : List V} {CXg : CXT} {Q : VK} {E : XK} {k : Nat} {a : Addr} {ws : List V} {es : List Expr} {e : Expr} {rest : List Stmt} {p0 p1 p2 p3 p4 : Pos} {t : TS} (D : InitAt K mg P N qual scope f cc fd cdv C) (T : OexC K C)
    (hB : ∃ params dV kV doc pm an ct, fd = PySem.W.ksFn "__init__" qual params (.Expr (.Call (.Attribute (.Call (.Name "super" p0) [] [] p1) "__init__" p2) (e :: es) [] p3) p4 :: rest) scope dV kV doc pm an cdv ct cc ∧ (∃ ar, (params.posonlyargs ++ params.args).head? = some ar ∧ some ar.arg = N[0]?))
    (hopq : PySem.W.nsIn K PySem.cStatics "thirdparty.any" = some none) (hsup : PySem.W.ks_superIn K C C "__init__" = some (some (.builtin "ValueError.__init__"))) (hsub : PySem.W.subIn K (.ref C) (.type "ValueError") = some true) (hmro : PySem.W.mroIn K C (.ref C) = some true) (hcls : ∃ cd, PySem.W.clsIn K C = some cd)
    (hr : Room k A) (e0 : Env0 P w K mg base A outer s H) (hbn : BindsTo s fd args (N.zip us)) (rv : Vals vs us) (hl : vs.length = N.length) (ev : vs = .ref a :: ws) (ha : H a = some (exo a C none))
    (hargs : ∀ (s2 : Shared) (Q2 : List Value → Shared → Prop) (E2 : Value → Shared → Prop), L2.Inv (iCx P w K mg base N qual scope f cc cdv A outer s H) [] (L2.start N vs) H s2 → (∀ ws, ws.length ≤ sizeLine → Q2 ws s2) →
      wpAny (model P w) (A.deeper (PySem.W.ksEnv qual scope s.heap.objs.size f cdv cc)) (spliced (backTo p3 (starEach (e :: es) (PySem.W.ksEnv qual scope s.heap.objs.size f cdv cc)))) Q2 E2 s2)
    (hrest : ∀ X : Cx, X = iCx P w K mg base N qual scope f cc cdv A outer s H → PSs X rest t) (ht : t { nx := fun _ H' => Q .non H', rt := Q } (L2.start N vs) H) (hse : ∀ env : Env, swapsWith (.Call (.Attribute (.Call (.Name "super" p0) [] [] p1) "__init__" p2) (e :: es) [] p3) none p4.line env = pure false)
    (pl : Env → Sem Bool) (hcE : ∀ env : Env, eval (.Call (.Attribute (.Call (.Name "super" p0) [] [] p1) "__init__" p2) (e :: es) [] p3) env = (do
      let ov ← attributeBase (.Call (.Name "super" p0) [] [] p1) "__init__" env (eval (.Call (.Name "super" p0) [] [] p1) env)
      standAt p2.atName
      let (f, first) ← holding [ov] (getMethod ov "__init__" (pl env))
      callWith p3 f first (backTo p3 (starEach (e :: es) env)) []))
    (heE : ∀ env : Env, starEach (e :: es) env = (false, eval e env) :: starEach es env) (hpE : ∀ env : Env, (backTo p3 (starEach es env)).any (·.1) = false) :
    codeAny (model P w) A (.call (.ref f) args) (CR CXg outer P w H s Q E) s := by
  obtain ⟨oc, od, osl, lk⟩ := D.lk
  obtain ⟨params, dV, kV, doc, pm, an, ct, rfl, ar, har, hN0⟩ := hB
  have kin := e0.mod.kin.keeps fun b o e => (e0.bs b o e).1
  have nolim := e0.mod.nolimit.keeps fun b o e => (e0.bs b o e).1
  have hus : us.length = N.length := rv.length.symm.trans hl
  refine PySem.ks_codeAny_call_defAt hr.depth (kin _ _ lk) rfl nolim (PySem.W.codeRec_of kin D.code) rfl hbn (fun y hy => D.nocell y hy) (fun y hy => D.loc _ (List.of_mem_zip hy).1) (fun h₁ hns kp => ?_) D.co D.gen D.kind
  have I := i_start (tk := s.toks + (N.zip us).length) D hr.hd e0 hl rv hns kp
  generalize hs1 : ({ s with heap := h₁, toks := s.toks + (N.zip us).length } : Shared) = s1 at I ⊢
  generalize hX : iCx P w K mg base N qual scope f cc cdv A outer s H = X at I hrest hargs
  have eA : X.A = A.deeper (PySem.W.ksEnv qual scope s.heap.objs.size f cdv cc) := by rw [← hX]; rfl
  have eE : X.env = PySem.W.ksEnv qual scope s.heap.objs.size f cdv cc := by rw [← hX]; rfl
  have eP : X.prog = P := by rw [← hX]; rfl
  have eW : X.w = w := by rw [← hX]; rfl
  have eK : X.K = K := by rw [← hX]; rfl
  have exe : X.xe = fun _ _ => False := by rw [← hX]; rfl
  show _root_.PySem.wpAt (model P w) (A.deeper (PySem.W.ksEnv qual scope s.heap.objs.size f cdv cc)) (.func _ (PySem.W.ksEnv qual scope s.heap.objs.size f cdv cc)) (execs _ (PySem.W.ksEnv qual scope s.heap.objs.size f cdv cc)) _ _ s1
  -- the rest, once the first statement is through
  have fin : ∀ s2, Inv X [] (L2.start N vs) H s2 → _root_.PySem.wpAt (model P w) (A.deeper (PySem.W.ksEnv qual scope s.heap.objs.size f cdv cc)) (.func (.Expr (.Call (.Attribute (.Call (.Name "super" p0) [] [] p1) "__init__" p2) (e :: es) [] p3) p4 :: rest) (PySem.W.ksEnv qual scope s.heap.objs.size f cdv cc)) (execs rest (PySem.W.ksEnv qual scope s.heap.objs.size f cdv cc))
      (fun fl s' => CR CXg outer P w H s Q E (.ok (.ret (match fl with | .ret v => v | _ => .none))) s') (fun e s' => wpAny (model P w) (A.deeper (PySem.W.ksEnv qual scope s.heap.objs.size f cdv cc)) (leaving (PySem.W.ksEnv qual scope s.heap.objs.size f cdv cc) e) (fun _ s'' => CR CXg outer P w H s Q E (.error e) s'') (fun e' s'' => CR CXg outer P w H s Q E (.error e') s'') s') s2 := by
    intro s2 I2
    refine wpAt_of_wpAny ?_
    have J := (hrest X rfl).run [] s2 (L2.start N vs) H { nx := fun _ H' => Q .non H', rt := Q } I2 ht
    rw [eP, eW, eA, eE, exe] at J
    refine wpAny_mono J (fun fl s' z => ?_) fun e s' z => z.elim
    cases fl with
    | ret u => obtain ⟨v, σ', H', I', q1, q2⟩ := z; rw [← hX] at I'; exact ⟨v, H', I'.os, I'.bare, I'.base, I'.hok, q1, q2⟩
    | next => obtain ⟨σ', H', I', q2⟩ := z; rw [← hX] at I'; exact ⟨V.non, H', I'.os, I'.bare, I'.base, I'.hok, rfl, q2⟩
    | brk => obtain ⟨_, _, _, z⟩ := z; exact z.elim
    | cont => obtain ⟨_, _, _, z⟩ := z; exact z.elim
  refine PySem.ks_wpAt_execs_cons ?_
  refine PySem.ks_wpAt_Expr_any ?_ (by unfold interactive; simp [PySem.W.envX, D.kind]) (hse _)
  refine PySem.ks_wpAt_MethodCall ?_ (hcE _)
  obtain ⟨cda, ccl, cdd, cvs, ccs, file, tf, rfl, hcode, hvs, hfile⟩ := D.cda
  obtain ⟨cl, cld, csl, hcell⟩ := D.cell
  obtain ⟨cd, hcd⟩ := hcls
  have kin1 : K.In s1.heap := by have := I.kIn; rw [eK] at this; exact this
  obtain ⟨oD, hD1, hD2⟩ : ∃ oD, s1.heap.get? C = some oD ∧ oD.data = .cls cd := by
    unfold PySem.W.clsIn at hcd
    split at hcd
    · rename_i c d cd' sl ho
      cases hcd
      exact ⟨_, kin1 _ _ ho, rfl⟩
    · cases hcd
  obtain ⟨mb, hb1, hb2⟩ := e0.mod.blt
  have bk : ∀ b o, base.get? b = some o → s1.heap.get? b = some o := by
    have := I.bk
    rw [show X.base = base from by rw [← hX]; rfl] at this
    exact this
  have hN0' : N[0]? = some ar.arg := hN0.symm
  have hself : (N.zip us).reverse.lookup ar.arg = some (.ref a) := by
    have hu0 : us[0]? = some (.ref a) := by
      subst ev
      cases us with
      | nil => cases rv
      | cons u us => cases rv with | cons r1 r2 => cases r1; rfl
    have hz : (N.zip us)[0]? = some (ar.arg, .ref a) := by rw [List.getElem?_zip_eq_some]; exact ⟨hN0', hu0⟩
    have nd : ((N.zip us).map (·.1)).Nodup := by rw [List.map_fst_zip (by omega)]; exact D.nd
    exact lookup_nodup (by rw [List.map_reverse]; exact List.pairwise_reverse.mpr (nd.imp fun h => Ne.symm h)) (List.mem_reverse.mpr (List.mem_of_getElem? hz))
  obtain ⟨t1, het⟩ := exo_at I.hok ha
  have inst : PySem.W.InstAt s1.heap a ({ cls := .ref C, dict := none, data := .fields #[.ref t1, .none, .none, .none, .bool false, .none] } : Obj) C none := ⟨het, rfl, rfl, trivial⟩
  have hns1 : s1.heap.Ns s.heap.objs.size fun x => (N.zip us).reverse.lookup x := by rw [← hs1]; exact hns
  refine PySem.ks_wpAt_super_base (env := PySem.W.ksEnv qual scope s.heap.objs.size f (.ref cda) cc) D.ks D.kc (by decide +kernel) rfl (kin1 _ _ lk) rfl har rfl (kin1 _ _ hcode) rfl hvs hfile D.top ?_
  refine PySem.W.ks_loadName_global D.kind D.ks (PySem.Calls.loadGlobal_builtin (env := PySem.W.ksEnv qual scope s.heap.objs.size f (.ref cda) cc) (e0.mod.glob.keeps bk) D.nsuper (hb1.keeps bk) (hb2 _ (by decide +kernel)) ⟨rfl, ?_⟩)
  refine PySem.wpAny_loadName_free D.kind D.kc (by simp [PySem.W.envX, List.lookup]) ⟨_, kin1 _ _ hcell, rfl⟩ ?_
  refine wpAny_loadName_local D.kind (D.loc _ (List.mem_of_getElem? hN0')) hns1 hself ?_
  obtain ⟨hh, gg, dd, tt, oo⟩ := s1
  refine PySem.ks_wpAny_isType_cls hD1 hD2 ⟨rfl, ?_⟩
  refine PySem.ks_wpAny_call_super hD1 hD2 het rfl (fun c e => by cases e) (PySem.W.looks_mroIn kin1 hmro) (fun h2 hso k2 => ?_)
  have I2 : L2.Inv X [] (L2.start N vs) H ⟨h2, gg, dd, tt, oo⟩ := I.kept (t' := tt) k2
  have kin2 : K.In h2 := kin1.keeps k2
  have inst2 : PySem.W.InstAt h2 a ({ cls := .ref C, dict := none, data := .fields #[.ref t1, .none, .none, .none, .bool false, .none] } : Obj) C none := ⟨k2 _ _ het, rfl, rfl, trivial⟩
  have hxC : a ≠ C := fun z => by
    subst z
    rw [het] at hD1
    cases hD1
    cases hD2
  refine PySem.W.kxs_getMethod PySem.W.kxs_ValueError (l₀ := cd.mro) hso (PySem.W.looks_opaque kin2 hopq) (fun A Q E s k q => wpAny_bind ((PySem.W.looks_clsIn kin2 hcd) A _ E s k (wpAny_pure q))) rfl kin2 (by unfold PySem.W.ks_superIn at hsup; rw [hcd] at hsup; exact hsup) (inst2.type.andThen (PySem.W.looks_subIn kin2 hsub)) hxC (by decide +kernel) ?_
  -- the bound __init__, the arguments
  have k3 : ∀ b o, h2.get? b = some o → (h2.push (PySem.W.kxs_mw "ValueError.__init__" a)).get? b = some o := fun b o e => Heap.get?_push_of_some _ e
  have I3 : L2.Inv X [] (L2.start N vs) H ⟨h2.push (PySem.W.kxs_mw "ValueError.__init__" a), gg, dd, tt + 1, oo⟩ := I2.kept (t' := tt + 1) k3
  have hmw : (h2.push (PySem.W.kxs_mw "ValueError.__init__" a)).get? h2.objs.size = some (PySem.W.kxs_mw "ValueError.__init__" a) := Heap.get?_push_at rfl rfl
  refine PySem.W.kxs_callWith (i := "ValueError.__init__") (x := a) (by rw [heE]; show (false || (backTo p3 (starEach es _)).any (·.1)) = false; rw [hpE]; rfl) ?_
  rw [heE]
  refine PySem.Calls.evalArgs_plain ?_
  have J := hargs _ (fun ws s3 => PySem.W.KxsAt "ValueError.__init__" h2.objs.size a s3.heap ∧ wpAny (model P w) (A.deeper (PySem.W.ksEnv qual scope s.heap.objs.size f (.ref cda) cc)) (call (.ref h2.objs.size) ([] ++ ws) []) (fun _ s4 => _root_.PySem.wpAt (model P w) (A.deeper (PySem.W.ksEnv qual scope s.heap.objs.size f (.ref cda) cc)) (.func (.Expr (.Call (.Attribute (.Call (.Name "super" p0) [] [] p1) "__init__" p2) (e :: es) [] p3) p4 :: rest) (PySem.W.ksEnv qual scope s.heap.objs.size f (.ref cda) cc)) (execs rest (PySem.W.ksEnv qual scope s.heap.objs.size f (.ref cda) cc))
      (fun fl s' => CR CXg outer P w H s Q E (.ok (.ret (match fl with | .ret v => v | _ => .none))) s') (fun e s' => wpAny (model P w) (A.deeper (PySem.W.ksEnv qual scope s.heap.objs.size f (.ref cda) cc)) (leaving (PySem.W.ksEnv qual scope s.heap.objs.size f (.ref cda) cc) e) (fun _ s'' => CR CXg outer P w H s Q E (.error e) s'') (fun e' s'' => CR CXg outer P w H s Q E (.error e') s'') s') s4) (fun e s' => wpAny (model P w) (A.deeper (PySem.W.ksEnv qual scope s.heap.objs.size f (.ref cda) cc)) (leaving (PySem.W.ksEnv qual scope s.heap.objs.size f (.ref cda) cc) e) (fun _ s'' => CR CXg outer P w H s Q E (.error e) s'') (fun e' s'' => CR CXg outer P w H s Q E (.error e') s'') s') s3) (fun e s' => wpAny (model P w) (A.deeper (PySem.W.ksEnv qual scope s.heap.objs.size f (.ref cda) cc)) (leaving (PySem.W.ksEnv qual scope s.heap.objs.size f (.ref cda) cc) e) (fun _ s'' => CR CXg outer P w H s Q E (.error e) s'') (fun e' s'' => CR CXg outer P w H s Q E (.error e') s'') s') I3 fun ws hz => ⟨hmw, ?_⟩
  · rw [heE] at J; exact J
  -- ValueError.__init__
  obtain ⟨nm, q, Nn, bs, bm, sn, sub, ab, col, cdd', k0, k1, k2', k3', k5, hC, hbm⟩ := T.cls
  have hC3 : (h2.push (PySem.W.kxs_mw "ValueError.__init__" a)).get? C = some (excClassObj nm q C Nn bs bm true sn sub ab col cdd' k0 k1 k2' k3' k5 "ValueError.__new__") := k3 _ _ (kin2 _ _ hC)
  have het3 := k3 _ _ (k2 _ _ het)
  refine wpAny_call (codeAny_of_tree ?_)
  show wpAny _ (A.deeper (PySem.W.ksEnv qual scope s.heap.objs.size f (.ref cda) cc)).in1 (callAny (.ref h2.objs.size) ⟨[] ++ ws, []⟩) _ _ _
  simp only [callAny, List.nil_append]
  refine wpAny_bind (wpAny_load hmw ?_)
  simp only [PySem.W.kxs_mw, show (Value.type "method-wrapper" == Value.type "method" || Value.type "method-wrapper" == Value.type "builtin_function_or_method" || Value.type "method-wrapper" == Value.type "method-wrapper") = true by decide, if_true]
  refine PySem.W.KFB.if_so (by decide) ?_
  refine wpAny_bind (PySem.W.check_bound_init F.excBase_ValueError.toExcCallFacts hC3 het3 rfl ?_)
  refine wpAny_bind (wpAny_pure (wpAny_pure ?_))
  refine ⟨plainId_quiet F.excBase_ValueError.init.plain _, codeAny_builtin F.excBase_ValueError.initEntry ?_⟩
  refine PySem.W.exc_init_tree (cls := .ref C) (t0 := t1) (dv := none) (c2 := .none) (c3 := .none) (b4 := .bool false) het3 hz fun h4 k4 e4 t4 => fin _ ?_
  have I4 := I3.write (t' := tt + 1) (x := a) (e := a) (o := exo a C none) (by rw [ha]; exact True.intro) (.inl rfl) k4 ⟨_, e4⟩ (exo_ok e4)
  have eu : upd H a (exo a C none) = H := by
    funext b
    by_cases hb : b = a
    · rw [hb, upd_same, ha]
    · rw [upd_ne hb]
  rw [eu] at I4
  exact I4
end
end Pv
set_option Elab.async false
set_option linter.all false
set_option maxRecDepth 100000
set_option maxHeartbeats 1000000
set_option pp.maxSteps 400
namespace Pv
open PySem PySem.Spec L2
open PyProof.Rows hiding St
/-- what the written part says of an own exception class whose __init__ hands its parameters on and keeps them -/
structure ExcAt (K : PySem.W.Frag) (mg : Str → Option Value) (prog : Program) (x : Str) (C : Addr) : Prop where
  mg : mg x = some (.ref C)
  T : OexC K C
  opq : PySem.W.nsIn K PySem.cStatics "thirdparty.any" = some none
  sup : PySem.W.ks_superIn K C C "__init__" = some (some (.builtin "ValueError.__init__"))
  sub : PySem.W.subIn K (.ref C) (.type "ValueError") = some true
  mro : PySem.W.mroIn K C (.ref C) = some true
  cls : ∃ cd, PySem.W.clsIn K C = some cd
/-- the heap behind an exception's making -/
def sp1 (C : Addr) (f1 : Str) : Sp := fun vs H Q _ => ∃ a v1, vs = [.ref a, v1] ∧ H a = some (exo a C none) ∧ ∀ dx, H dx = none → dx ≠ a → Q .non (upd (upd H dx (exd dx [(f1, v1)])) a (exo a C (some dx)))
def sp2 (C : Addr) (f1 f2 : Str) : Sp := fun vs H Q _ => ∃ a v1 v2, vs = [.ref a, v1, v2] ∧ H a = some (exo a C none) ∧ ∀ dx, H dx = none → dx ≠ a → Q .non (upd (upd (upd H dx (exd dx [(f1, v1)])) a (exo a C (some dx))) dx (exd dx [(f2, v2), (f1, v1)]))
section
variable {P : Program} {w : World} {K : PySem.W.Frag} {mg : Str → Option Value} {base : Heap} {qual : Str} {scope : Scope} {f cc C : Addr} {fd : FuncData} {cdv : Value} {x f1 f2 x1 x2 : Str} {N : List Str}
/-- the parameters' values, in turn -/
theorem i_names {A : Around} {outer : List Env} {s : Shared} {H : Hp} {vs : List V} {s2 : Shared} {E2 : Value → Shared → Prop} (D : InitAt K mg P N qual scope f cc fd cdv C) (I : L2.Inv (iCx P w K mg base N qual scope f cc cdv A outer s H) [] (L2.start N vs) H s2) (hl : vs.length = N.length)
    {y : Str} {i : Nat} {q : Pos} {Q2 : Value → Shared → Prop} (hy : N[i]? = some y) (hd : (y == ("__debug__" : Str)) = false) (h : ∀ u, Q2 u s2) : wpAny (model P w) (A.deeper (PySem.W.ksEnv qual scope s.heap.objs.size f cdv cc)) (eval (.Name y q) (PySem.W.ksEnv qual scope s.heap.objs.size f cdv cc)) Q2 E2 s2 := by
  obtain ⟨m, hn, hl2⟩ := I.loc
  have hlt : i < N.length := (List.getElem?_eq_some_iff.mp hy).1
  obtain ⟨v, hv⟩ : ∃ v, vs[i]? = some v := ⟨_, List.getElem?_eq_getElem (by omega)⟩
  have hs : (L2.start N vs)[i]? = some (some v) := by
    unfold L2.start
    rw [List.getElem?_append_left (by rw [List.length_map]; omega), List.getElem?_map, hv]; rfl
  have loc := D.loc y (List.mem_of_getElem? hy)
  obtain ⟨u, _, lk⟩ := hl2 i y v hy hs (.inl loc)
  have hm : m y = some u := by
    rcases lk with ⟨_, e⟩ | ⟨k, _⟩
    · exact e
    · rcases k with k | k <;> (have k' : scope.names.lookup y = _ := k; rw [loc] at k'; cases k')
  exact wpAny_Name (wpAny_loadName_local D.kind loc hn hm (h u)) hd
theorem fn_init2 {CXg : CXT} {params : Arguments} {dV kV doc pm ct : Value} {an : Option Addr} {p0 p1 p2 p3 p4 q1 q2 a1 a2 b1 b2 c1 c2 d1 d2 : Pos} (D : InitAt K mg P ["self", x1, x2] qual scope f cc fd cdv C) (X : ExcAt K mg P x C)
    (hB : fd = PySem.W.ksFn "__init__" qual params [.Expr (.Call (.Attribute (.Call (.Name "super" p0) [] [] p1) "__init__" p2) [.Name x1 q1, .Name x2 q2] [] p3) p4, .Assign [.Attribute (.Name "self" a1) f1 b1] (.Name x1 c1) d1, .Assign [.Attribute (.Name "self" a2) f2 b2] (.Name x2 c2) d2] scope dV kV doc pm an cdv ct cc)
    (hse : ∀ env : Env, swapsWith (.Call (.Attribute (.Call (.Name "super" p0) [] [] p1) "__init__" p2) [.Name x1 q1, .Name x2 q2] [] p3) none p4.line env = pure false)
    (pl : Env → Sem Bool) (hcE : ∀ env : Env, eval (.Call (.Attribute (.Call (.Name "super" p0) [] [] p1) "__init__" p2) [.Name x1 q1, .Name x2 q2] [] p3) env = (do
      let ov ← attributeBase (.Call (.Name "super" p0) [] [] p1) "__init__" env (eval (.Call (.Name "super" p0) [] [] p1) env)
      standAt p2.atName
      let (f, first) ← holding [ov] (getMethod ov "__init__" (pl env))
      callWith p3 f first (backTo p3 (starEach [.Name x1 q1, .Name x2 q2] env)) []))
    (har : ∃ ar, (params.posonlyargs ++ params.args).head? = some ar ∧ ar.arg = "self") (hf1 : PySem.W.findIn K (.ref C) f1 = some none) (hf2 : PySem.W.findIn K (.ref C) f2 = some none) (hx1 : (x1 == ("__debug__" : Str)) = false ∧ (x1 == ("__classdict__" : Str)) = false) (hx2 : (x2 == ("__debug__" : Str)) = false ∧ (x2 == ("__classdict__" : Str)) = false) :
    FnOk P w K mg base CXg 1 f fd ["self", x1, x2] (sp2 C f1 f2) := by
  refine ⟨fun vs H Q E ⟨a, v1, v2, e, _⟩ => by rw [e]; rfl, fun A outer s H args us vs Q E hr e0 hbn rv hsp => ?_⟩
  obtain ⟨a, v1, v2, ev, ha, hq⟩ := hsp
  obtain ⟨ar, har1, har2⟩ := har
  refine i_run (N := ["self", x1, x2]) (a := a) (ws := [v1, v2]) (pl := pl) D X.T ⟨params, dV, kV, doc, pm, an, ct, hB, ar, har1, by rw [har2]; rfl⟩ X.opq X.sup X.sub X.mro X.cls hr e0 hbn rv (by rw [ev]; rfl) ev ha (fun s2 Q2 E2 I h => ?args) (t := ?t) (fun Y hY => ?rest) ?q hse (hcE := hcE) (fun env => rfl) (fun env => rfl)
  case args =>
    have hl : vs.length = (["self", x1, x2] : List Str).length := by rw [ev]; rfl
    refine Calls.spliced_cons (i_names D I hl (i := 1) rfl hx1.1 fun u1 => ?_)
    refine Calls.spliced_cons (i_names D I hl (i := 2) rfl hx2.1 fun u2 => ?_)
    exact Calls.spliced_nil (h _ (by show 2 ≤ sizeLine; decide))
  case rest =>
    subst hY
    exact pss_cons (ps_ost (pe_var (x := "self") (i := 0) rfl (.inl (D.loc "self" (by simp))) (by decide +kernel) (by decide +kernel)) (pe_var (x := x1) (i := 1) rfl (.inl (D.loc x1 (by simp))) hx1.1 hx1.2))
      (pss_one (ps_ost (pe_var (x := "self") (i := 0) rfl (.inl (D.loc "self" (by simp))) (by decide +kernel) (by decide +kernel)) (pe_var (x := x2) (i := 2) rfl (.inl (show (iCx P w K mg base ["self", x1, x2] qual scope f cc cdv A outer s H).env.scope.names.lookup x2 = some .local from D.loc x2 (by simp))) hx2.1 hx2.2)))
  case q =>
    subst ev
    refine ⟨v1, rfl, .ref a, rfl, a, C, rfl, X.T, hf1, .inl ⟨ha, fun dx hd hne => ?_⟩⟩
    refine ⟨v2, rfl, .ref a, rfl, a, C, rfl, X.T, hf2, .inr ⟨dx, _, upd_same, ?_, by simp, hq dx hd hne⟩⟩
    rw [upd_ne hne]; exact upd_same
end
def excOf (cls : Str) (fs : List Str) (ds : List Pv.D) (st : Sto) : RS := if ds.length = fs.length ∧ ds.length ≤ 2 then .exc (cls, (fs.zip ds).reverse) st else .bad
def sRaise (cls : Str) (fs : List Str) (ms : Ms) : MS := fun sl st => (ms sl st).thenS fun ds st => excOf cls fs ds st
section
variable {X : Cx} {Wx : WX} {C : Addr} {x f1 f2 : Str} {fI : Addr} {fd : FuncData} {k : Nat} {e1 e2 : Expr} {ms : Ms} {p pos rpos : Pos} {ps : List Str} {W : Wd} {H : Hp} {st : Sto} {sh : L2.St} {sl : Sl}
/-- a class whose __init__ has been told -/
structure ExcDf (X : Cx) (x : Str) (C fI : Addr) (fd : FuncData) (ps : List Str) (sp : Sp) : Prop where
  at_ : ExcAt X.K X.mg X.prog x C
  ini : PySem.W.findIn X.K (.ref C) "__init__" = some (some (.ref fI))
  ty : PySem.W.typeIn X.K (.ref fI) = some (.type "function")
  fn : FnOk X.prog X.w X.K X.mg X.base C8.CX0 1 fI fd ps sp
  bd : Binds X.K fd ps []
theorem passes0 {Y : Cx} : Passes C8.CX0 Y fun _ _ _ => False := fun pins sg H s e s' I h => (show False from h).elim
theorem gs_raise2 (D : ExcDf X x C fI fd ps (sp2 C f1 f2)) (g : Gd X) (hr : Room 2 X.A) (tk : Takes X Wx) (ha : GA X Wx [e1, e2] ms) (hg : Gl X x := by rfl) (hdb : (x == ("__debug__" : Str)) = false := by decide +kernel)
    (he : starEach [e1, e2] X.env = (false, eval e1 X.env) :: starEach [e2] X.env := by rfl) (hpl : (backTo pos (starEach [e2] X.env)).any (·.1) = false := by rfl) : GS X Wx (.Raise (some (.Call (.Name x p) [e1, e2] [] pos)) none rpos) (sRaise x [f1, f2] ms) := by
  have M := pmk_oex (CX := C8.CX0) (x := x) (p := p) (pos := pos) (dvs := []) D.at_.T D.ini D.ty D.fn hr D.bd .nil passes0 hg D.at_.mg ha hdb he hpl
  refine PS.imp (ps_raise g.calm tk M) fun D' sh H ⟨W, sl, st, hr', hs, q⟩ => ?_
  refine rdL_bindS hr' hs q fun ds st1 W1 vs H1 e1' x1' h1 s1 l1 p1 => ?_
  unfold excOf at p1
  split at p1
  · rename_i hl
    obtain ⟨hl1, hl2⟩ := hl
    match ds, vs, hl1, l1 with
    | [d1, d2], vs, _, ⟨v1, us, q1, r1, v2, us2, q2, r2, q3⟩ =>
      subst q1; subst q2; subst q3
      refine ⟨by simp, fun a ha => ⟨a, v1, v2, by simp, upd_same, fun dx hd hne => ⟨rfl, dx, [(f2, v2), (f1, v1)], ?_, upd_same, ?_, ?_⟩⟩⟩
      · rw [upd_ne (Ne.symm hne)]; exact upd_same
      · rw [upd_ne hne] at hd; exact hd
      · have hd1 : H1 dx = none := by rw [upd_ne hne] at hd; exact hd
        have eH : upd (del (upd (upd (upd (upd H1 a (exo a C none)) dx (exd dx [(f1, v1)])) a (exo a C (some dx))) dx (exd dx [(f2, v2), (f1, v1)])) a) dx (.xd [(f2, v2), (f1, v1)]) = upd H1 dx (.xd [(f2, v2), (f1, v1)]) := by
          funext b
          by_cases hb : b = dx
          · subst hb; rw [upd_same, upd_same]
          · rw [upd_ne hb, upd_ne hb]
            by_cases hba : b = a
            · subst hba; rw [del_same, ha]
            · rw [del_ne hba, upd_ne hb, upd_ne hba, upd_ne hb, upd_ne hba]
        rw [eH]
        obtain ⟨h2, x2⟩ := h1.new (o := .xd [(f2, v2), (f1, v1)]) hd1
        exact p1 _ sh (.ref C) (some dx) _ rfl x2 h2 ⟨C, D.at_.mg, rfl, dx, _, rfl, upd_same, .cons ⟨rfl, x2.rep r2⟩ (.cons ⟨rfl, x2.rep r1⟩ .nil)⟩
  · exact p1.elim
end
end Pv
set_option Elab.async false
set_option linter.all false
set_option maxRecDepth 100000
set_option maxHeartbeats 1000000
set_option pp.maxSteps 400
namespace Pv
open PySem PySem.Spec L2 LamX
open PyProof.Rows hiding St
section
variable {X : Cx} {pins : List (Addr × Obj)} {σ : L2.St} {H : Hp} {s : Shared}
/-- what a lambda needs of its making: where it stands -/
structure LamAt (X : Cx) (σ : L2.St) (H : Hp) (s : Shared) (params : Arguments) (body : Expr) (scope : Scope) (f c' : Addr) : Prop where
  obj : ∃ pm ctv : Value, s.heap.get? f = some (PySem.W.kla_obj "<lambda>" (X.env.qual ++ "<lambda>") params body scope (cloFrom X.env.cells scope.names []) pm c' ctv) ∧ bindArgs (PySem.W.kla_fn "<lambda>" (X.env.qual ++ "<lambda>") params body scope (cloFrom X.env.cells scope.names []) pm (.ref c') ctv) ⟨[], []⟩ = pure []
  free : H f = none
  nofr : f ∉ frs X.stack
/-- the frame of the def that got the lambda -/
abbrev EnvG (qg : Str) (sg : Scope) (s : Shared) (g : Addr) (cdg : Value) : Env := envOfC qg sg s.heap.objs.size g cdg
abbrev CxG (CXg : CXT) (X : Cx) (Ng : List Str) (qg : Str) (sg : Scope) (g : Addr) (cdg : Value) (s : Shared) (H : Hp) (Eg : XK) : Cx := cxOf CXg X.prog X.w X.K X.mg X.base Ng qg sg g cdg X.A X.stack s H Eg
theorem ask_run {CXg : CXT} {Eg : XK} {Ng : List Str} {qg : Str} {sg : Scope} {g f c' : Addr} {cdg : Value} {params : Arguments} {body : Expr} {scope : Scope} {k i : Nat} {a : Str} {pn : List (Addr × Obj)} {xe : Value → Shared → Prop} {Wz : WX} {E : XK} {tb : TE} {p1 p2 : Pos}
    (I : Inv X pins σ H s) (L : LamS X.env.scope scope) (at_ : LamAt X σ H s params body scope f c') (tk : Takes ((CxG CXg X Ng qg sg g cdg s H Eg).tr pn xe) Wz) (le : ∀ cls d σ' H', E cls d H' → Wz cls d σ' H') (room : Room (k + 1) (X.A.deeper (EnvG qg sg s g cdg)))
    (hbody : ∀ (s' : Shared) (H' : Hp), Room k ((X.A.deeper (EnvG qg sg s g cdg)).deeper (lamEnv X scope s'.heap.objs.size f c')) → PE (lamCx X (X.A.deeper (EnvG qg sg s g cdg)) (EnvG qg sg s g cdg :: X.stack) s' H' E scope f c') body tb)
    (hN : Ng[i]? = some a) (hv : Vis sg a) (hd : (a == ("__debug__" : Str)) = false) (hcd : (a == ("__classdict__" : Str)) = false) :
    PE ((CxG CXg X Ng qg sg g cdg s H Eg).tr pn xe) (.Call (.Name a p1) [] [] p2) (fun σz Hz Q => σz[i]? = some (some (.ref f)) ∧ Hz c' = some (CodeO c' (X.env.qual ++ "<lambda>")) ∧ tb σ Hz Q) := by
  obtain ⟨⟨pm, ctv, hob, hbind⟩, hfree, hnofr⟩ := at_
  constructor
  rintro pz sz σz Hz Q Iz ⟨hslot, hcode, hread⟩
  have slot := (pe_var (pos := p1) (i := i) hN hv hd hcd).run pz sz σz Hz (fun v H1 => v = .ref f ∧ H1 = Hz) Iz ⟨.ref f, hslot, rfl, rfl⟩
  apply wpAny_Call_Name_kw
  refine thn slot fun u s1 ⟨v, H1, I1, r1, e1, e2⟩ => ?_
  subst e1
  rw [e2] at I1
  cases (show u = Value.ref f from r1)
  have keepF := I1.base.keep f _ hob hfree hnofr (fun z => nomatch (show f ∈ ([] : List Addr) from z))
  apply PySem.W.callWith_F0 ⟨_, _, _, _, keepF⟩
  obtain ⟨⟨oc, vs, t, g1, g2, g3⟩, _, _⟩ := I1.hok c' _ hcode
  have deep : codeAny (model X.prog X.w) (X.A.deeper (EnvG qg sg s g cdg)) (.call (.ref f) ⟨[], []⟩) (CR (L2.CX X.prog X.w) (EnvG qg sg s g cdg :: X.stack) X.prog X.w Hz s1 Q E) s1 := by
    apply PySem.W.kla_callFunE room.depth keepF rfl L.co L.gen rfl ⟨c', oc, vs, t, rfl, g1, g2, g3⟩
    rw [hbind]
    apply wpAny_pure
    apply wpAny_newFunctionEnv (fun y hy => (L.own y hy).2) (fun y hy => (List.not_mem_nil hy).elim) (hk := L.kind)
    intro h₁ ns1 same
    refine ⟨I1.nolimit.fresh _ same, ?_⟩
    have old : ∀ b o, s1.heap.get? b = some o → h₁.get? b = some o := fun b o e => same.extBut b o (Nat.ne_of_lt (Heap.lt_size e)) (Heap.get?_push_of_some _ e)
    have J := lam_start2 (E := E) (f := f) (c' := c') (tk := s1.toks + 0) I L I1.env0 room.hd I1.base ns1 old
    apply PySem.W.kla_codeExpr
    refine wpAny_mono ((hbody s1 Hz (room.deeper _)).run [] _ _ Hz Q J hread) ?_ fun _ _ z => z
    rintro v2 s2 ⟨w2, H2, J2, r2, q2⟩
    exact ⟨w2, H2, J2.os, J2.bare, J2.base, J2.hok, r2, q2⟩
  refine wpAny_call (codeAny_mono deep ?_)
  rintro (_ | (_ | _ | _ | _)) s2 z
  all_goals first | exact z.elim | exact passes_call tk le pz σz Hz s1 _ s2 I1 z | exact I1.after z
end
/-- only the exception's name is known at the suite's beginning -/
def slE (n i : Nat) (d : D) : Sl := (List.replicate n none).set i (some d)
def exD (a dd : Nat) (x : XV) : D := Ec a dd x.1 (x.2.map fun p => .str p.1) (x.2.map (·.2))
theorem nmD_map (l : List (Str × D)) : nmD (l.map fun p => .str p.1) = l.map (·.1) := by
  induction l with
  | nil => rfl
  | cons p l ih => simp [nmD, ih]
theorem rep_exD {K : PySem.W.Frag} {W : Wd} {a dd : Addr} {fs : List (Str × V)} {x : XV} (h : W.F dd = some (.xd fs)) (l : repP K W fs x.2) : rep K W (.ref a) (exD a dd x) := by
  have names : ∀ {fs : List (Str × V)} {es : List (Str × D)}, repP K W fs es → es.map (·.1) = fs.map (·.1) ∧ repL K W (fs.map (·.2)) (es.map (·.2)) := by
    intro fs es l
    induction l with
    | nil => exact ⟨rfl, rfl⟩
    | cons h _ ih => exact ⟨by simp [ih.1, h.1], ⟨_, _, rfl, h.2, ih.2⟩⟩
  obtain ⟨n1, n2⟩ := names l
  refine ⟨by simp, fs.map (·.2), ?_, n2⟩
  rw [Int.toNat_natCast, h, nmD_map, n1]
  congr 2
  clear h l n1 n2
  induction fs with
  | nil => rfl
  | cons p fs ih => exact congrArg (List.cons p) ih
theorem sr_slE {K : PySem.W.Frag} {W : Wd} {σ : L2.St} {n i : Nat} {a : Addr} {d : D} (hl : σ.length = n) (hi : i < n) (r : rep K W (.ref a) d) : SR K W (σ.set i (some (.ref a))) (slE n i d) := by
  unfold slE
  refine ⟨by simp [hl], fun j e hj => ?_⟩
  by_cases hij : j = i
  · subst hij
    rw [List.getElem?_set_self (by simpa using hi)] at hj
    cases hj
    exact ⟨_, List.getElem?_set_self (by rw [hl]; exact hi), r⟩
  · rw [List.getElem?_set_ne (Ne.symm hij), List.getElem?_replicate] at hj
    split at hj <;> cases hj
/-- what a suite does with an exception -/
def handR (n i : Nat) (bh : Nat → Nat → Str → MS) (a dd : Nat) (x : XV) (st : Sto) : R D := finR st.length (endR (bh a dd x.1 (slE n i (exD a dd x)) st))
def saidR (u : Str) (cs : List Str) (n i : Nat) (bh : Nat → Nat → Str → MS) : R D → R D
  | .ok d st => .ok (.tuple [.str u, d]) st
  | .exc x st => if x.1 ∈ cs then handR n i bh 0 0 x st else .bad
  | .bad => .bad
/-- what is known in the suite that holds the exception at a, of class c, its dict at dd -/
structure Su (X : Cx) (a dd : Addr) (c : Str) (oe : Obj) : Prop where
  cls : ∃ C, X.mg c = some (.ref C) ∧ Zc (.ref C) (some dd) oe
  fld : ∃ vs, oe.data = .fields vs
/-- the reading of what the lambda does, told of the state in which it was made -/
def TSaid (N : Nv) (f : R D → R D) : (XK → Hp → VK → Prop) → Hp → VK → Prop := fun tl H Q =>
  ∃ (W : Wd) (st : Sto) (r : R D), HR N.K W H st ∧ (∀ E Q', Post N W H Q' E r → tl E H Q') ∧ Post N W H Q (fun _ _ _ => False) (f r)
theorem end_posts' {N : Nv} {W : Wd} {H : Hp} {Q : VK} {n i : Nat} {r : RS} (p : Post N W H Q (fun _ _ _ => False) (endR r)) :
    PostS N n (fun _ _ _ _ => False) W H { nx := fun σ' H' => ({ nx := fun _ H' => Q .non H', rt := Q } : Ends).nx (σ'.set i none) H', rt := Q, bk := fun σ' H' => ({ nx := fun _ H' => Q .non H', rt := Q } : Ends).bk (σ'.set i none) H', ct := fun σ' H' => ({ nx := fun _ H' => Q .non H', rt := Q } : Ends).ct (σ'.set i none) H' } r := by
  cases r with
  | nx sl st => exact fun W1 sh H1 l x h s => p W1 .non H1 x h rfl
  | rt d st => exact fun W1 v H1 x h r => p W1 v H1 x h r
  | exc x st => exact fun W1 sh c dd H1 l e h r => p W1 c dd H1 e h r
  | bk _ _ => exact p.elim
  | ct _ _ => exact p.elim
  | bad => exact p.elim
theorem said_gives {X : Cx} {Ng : List Str} {x a C n q u : Str} {sg : Scope} {g CS : Addr} {cdg : Value} {i j k1 : Nat} {cs : List Str} {bh : Nat → Nat → Str → MS} {b₀ : Stmt} {suite : List Stmt} {p1 p2 p3 p4 p5 p6 p7 p8 : Pos}
    (hge : sg.names.lookup C = some .globalImplicit) (hme : X.mg C = some (.ref CS)) (hde : (C == ("__debug__" : Str)) = false) (nd : Ng.Nodup) (hi : Ng[i]? = some n) (hln : sg.names.lookup n = some .local) (h0 : ∀ f : Addr, (L2.start Ng [V.ref f])[0]? = some (some (V.ref f))) (hN : 1 ≤ Ng.length)
    (hcs : ∀ c ∈ cs, ∀ D, X.mg c = some (.ref D) → PySem.W.exmOne X.K (.ref D) (.ref CS) = some true)
    (ind : ∀ a dd (x : XV) st, x.1 ∈ cs → handR Ng.length i bh a dd x st = handR Ng.length i bh 0 0 x st)
    (hsu : ∀ (s : Shared) (H : Hp) (b dd : Addr) (c : Str) (oe : Obj) (pn : List (Addr × Obj)), c ∈ cs → Su (CxG C8.CX0 X Ng x sg g cdg s H C8.E0) b dd c oe →
      GSs ((CxG C8.CX0 X Ng x sg g cdg s H C8.E0).nox.suite b ((b, oe) :: pn)) (fun _ _ _ _ => False) (b₀ :: suite) (bh b dd c)) :
    GivesTo X Ng x sg g cdg [.Try [.Return (some (.Tuple [.Constant (.str u) j p1, .Call (.Name a p2) [] [] p3] k1 p4)) p5] [.ExceptHandler (some (.Name C p6)) (some n) (b₀ :: suite) p7] [] [] p8] a q (TSaid (nv X) (saidR u cs Ng.length i bh)) := by
  intro f c' s H Q tl act hc ⟨W, st, r, hr, htl, hp⟩
  have hgl : Gl (CxG C8.CX0 X Ng x sg g cdg s H C8.E0).nox C := hge
  have ilt : i < Ng.length := (List.getElem?_eq_some_iff.mp hi).1
  let ts : Addr → Value → Option Addr → TS := fun b cls d D σ H => σ.length = Ng.length → ∃ dd c E, d = some dd ∧ cls = .ref E ∧ X.mg c = some (.ref E) ∧ c ∈ cs ∧ rdS (nv X) (fun _ _ _ _ => False) (bh b dd c) D σ H
  have body := ps_try_as (X := (CxG C8.CX0 X Ng x sg g cdg s H C8.E0).nox) (c := .ref CS) (np := p6) (pos := p8) (pos' := p7) (i := i) (n := n) (x := C) (b₀ := b₀) (suite := suite) (ts := ts) (body := [.Return (some (.Tuple [.Constant (.str u) j p1, .Call (.Name a p2) [] [] p3] k1 p4)) p5])
      (tb := fun Wt D σ H => ∃ Ech : XK, (∀ cls d σ' H', Ech cls d H' → Wt cls d σ' H') ∧ σ[0]? = some (some (.ref f)) ∧ H c' = some (CodeO c' q) ∧ tl Ech H fun v H2 => [V.str u, v].length ≤ sizeLine ∧ ∀ b, H2 b = none → D.rt (.ref b) (upd H2 b (.tup [.str u, v])))
      rfl rfl nd hi hln ⟨hgl, hde, .inl hme⟩ LamX.takes0 (fun Wt pn xe tk _ => ?_) fun b oe cls d pn hz hf => ?_
  · refine ⟨_, pss_one body, ?_⟩
    refine ⟨fun cls d H' => ∃ x st1 W', r = .exc x st1 ∧ Ext W H W' H' ∧ HR (nv X).K W' H' st1 ∧ repX (nv X) W' H' cls d x, fun cls d σ' H' ⟨x, st1, W', er, x1, h1, rx⟩ => ?_, h0 f, hc, htl _ _ ?_⟩
    · subst er
      unfold saidR at hp
      simp only at hp
      split at hp
      · rename_i hx
        obtain ⟨E, e1, e2, dd, fs, e3, e4, e5⟩ := rx
        subst e2; subst e3
        refine ⟨true, hcs _ hx _ e1, fun _ b hb hl => ⟨dd, x.1, E, rfl, rfl, e1, hx, W', slE Ng.length i (exD b dd x), st1, h1, sr_slE (by simpa using hl) ilt (rep_exD e4 e5), ?_⟩, fun z => by cases z⟩
        have p1 := Post.ext x1 hp
        rw [← ind b dd x st1 hx] at p1
        have p2 := fin_post h1 p1
        exact end_posts' p2
      · exact hp.elim
    · cases r with
      | bad => exact hp
      | exc x st1 => exact fun W' cls dd H' e1 h1 r1 => ⟨x, st1, W', rfl, e1, h1, r1⟩
      | ok d st1 =>
        intro W' v H' e1 h1 r1
        refine ⟨by show 2 ≤ sizeLine; decide, fun b hb => ?_⟩
        exact (Post.ext e1 hp).tup (xs := [.str u, v]) h1 ⟨_, _, rfl, rfl, _, _, rfl, r1, rfl⟩ b hb
  · refine ⟨fun pins s' σ H' D I ⟨Ech, hW, h1, h2, h3⟩ => ?_⟩
    have hp := act Wt pn xe Ech p2 p3 tk hW
    have hq := pss_one (ps_ret (pos := p5) (pe_tup (x1 := k1) (pos := p4) (pa_cons (pe_str (x := u) (j := j) (pos := p1)) (pa_cons hp pa_nil))))
    refine hq.run pins s' σ H' D I ?_
    exact ⟨h1, h2, h3⟩
  · refine ⟨fun pins s' σ H' D I h => ?_⟩
    obtain ⟨dd, c, E, e1, e2, e3, e4, e5⟩ := h I.len
    subst e1; subst e2
    exact (hsu s H b dd c oe pn e4 ⟨⟨E, e3, hz⟩, hf⟩).run pins s' σ H' D I e5
def tbOk (st : Sto) (P : Addr) (q : Str) : Bool := decide ((P, q) ∈ tbs st) && (tbs st).all fun p => !decide (p.1 = P) || decide (p.2 = q)
theorem tbOk_app {st : Sto} {m : MO} {P : Addr} {q : Str} (h : noTb m = true) : tbOk (st ++ [m]) P q = tbOk st P q := by unfold tbOk; rw [tbs_app st h]
/-- a def of that form, called from anywhere with a lambda -/
def Said (P : Program) (w : World) (K : PySem.W.Frag) (mg : Str → Option Value) (base : Heap) (x : Str) (f : R D → R D) : Prop :=
  ∃ (g : Addr) (a : Str) (Ng : List Str) (st : Stmt) (fd : FuncData), Fun K x x st g fd ∧ mg x = some (.ref g) ∧ Binds K fd [a] [] ∧ FnScope Ng [a] (defScope st) ∧ Ng[0]? = some a ∧ Vis (defScope st) a ∧ (a == ("__debug__" : Str)) = false ∧ (a == ("__classdict__" : Str)) = false ∧ (x == ("__debug__" : Str)) = false ∧
    ∀ (X : Cx) (cdv : Value) (q : Str), X.prog = P → X.w = w → X.K = K → X.mg = mg → X.base = base → Room 2 X.A → X.A.guards = some [] → GivesTo X Ng x (defScope st) g cdv (defBody st) a q (TSaid ⟨K, mg⟩ f)
def okOnly : R D → R D
  | .exc _ _ => .bad
  | r => r
theorem post_okOnly {N : Nv} {W : Wd} {H : Hp} {Q : VK} {E E' : XK} {r : R D} (h : Post N W H Q E (okOnly r)) : Post N W H Q E' r := by
  cases r with
  | exc _ _ => exact h.elim
  | ok d st => exact h
  | bad => exact h
def mSaid (P : Addr) (q : Str) (f : R D → R D) (m : M) : M := fun sl st => if tbOk st P q = true then okOnly (f (m sl st)) else .bad
section
variable {X : Cx} {Wx : WX}
theorem ge_said {x q : Str} {P : Addr} {k : Nat} {f : R D → R D} {mE : M} {params : Arguments} {body : Expr} {scope : Scope} {p lpos pos : Pos} (d : Said X.prog X.w X.K X.mg X.base x f) (room : Room (k + 2) X.A) (g : Gd X) (tb : ∃ c, TabB X.base X.mg c P ∧ X.env.code = .ref c)
    (hE : ∀ (s : Shared) (H : Hp) (E : XK) (A : Around) (outer : List Env) (h c' : Addr), Room k (A.deeper (lamEnv X scope s.heap.objs.size h c')) → Gd (lamCx X A outer s H E scope h c') → Takes (lamCx X A outer s H E scope h c') (Ew E) → GE (lamCx X A outer s H E scope h c') (Ew E) body mE)
    (L : LamS X.env.scope scope) (hg : Gl X x := by rfl) (hq : X.env.qual ++ "<lambda>" = q := by rfl) (hdef : defaultsOf params X.env = ([], []) := by rfl) (hbind : ∀ (q : Str) (cl : List (Str × Addr)) (pm cv ctv : Value), bindArgs (PySem.W.kla_fn "<lambda>" q params body scope cl pm cv ctv) ⟨[], []⟩ = pure [] := by intros; rfl) :
    GE X Wx (.Call (.Name x p) [.Lambda params body scope lpos] [] pos) (mSaid P q f mE) := by
  subst hq
  obtain ⟨gf, a, Ng, st, fd, F, hmg, hbd, S, hN, hv, d1, d2, d3, give⟩ := d
  obtain ⟨oc, od, kV, doc, pm0, an, cdv, ct, osl, efd, lk, hcd⟩ := F.ex
  obtain ⟨c, TB, hcode⟩ := tb
  constructor
  rintro pins s σ H Q I ⟨W, sl, st0, hr, hs, hp⟩
  unfold mSaid at hp
  split at hp
  rotate_left
  · exact hp.elim
  rename_i hok
  unfold tbOk at hok
  rw [Bool.and_eq_true, decide_eq_true_eq, List.all_eq_true] at hok
  obtain ⟨hmem, huniq⟩ := hok
  refine wpAny_Call_Name_kw (ld_glob I hg hmg ?_ d3)
  refine PySem.W.callWith_K (h₀ := X.base) I.ok.mod.kin F.kp ?_ (by rfl) (by rfl)
  show wpAny _ _ (spliced ((false, eval (.Lambda params body scope lpos) X.env) :: backTo pos (starEach [] X.env))) _ _ s
  refine Calls.spliced_cons (lam_make2 I TB hcode hmem (fun p hm hP => ?_) hr.tab hdef (L.has I.ok) fun h c' pm' ctv H1 s' I1 eN T1 hf hfn hfr hco => ?_)
  · have z := huniq p hm
    simpa [hP] using z
  refine Calls.spliced_nil ⟨I1.kIn, ?_⟩
  obtain ⟨hr1, x1⟩ := hr.extN eN T1
  have run : codeAny (model X.prog X.w) X.A (.call (.ref gf) ⟨[.ref h], []⟩) (CR C8.CX0 X.stack X.prog X.w H1 s' Q C8.E0) s' := by
    refine run_ofS (N := Ng) (ps := [a]) (us := [.ref h]) (vs := [.ref h]) (efd ▸ lk) hcd S room I1.env0 ?_ (.cons rfl .nil) rfl fun room' => ?_
    · have b := hbd s' [.ref h] I1.kIn rfl
      rw [efd] at b
      simpa using b
    · have G := give X cdv (X.env.qual ++ "<lambda>") rfl rfl rfl rfl rfl (room.mono (by omega)) g.gu h c' s' H1 Q (fun E H' Q' => rd (nv X) (Ew E) mE σ H' Q') (fun Wz pn xe E p1 p2 tk hW => ?_) hco ⟨W, st0, mE sl st0, hr1, fun E Q' hp' => ⟨W, sl, st0, hr1, hs, hp'⟩, Post.ext x1 (post_okOnly hp)⟩
      · obtain ⟨t', ht', hq'⟩ := G
        exact ⟨t', ht'.nox, hq'⟩
      · refine ask_run (k := k) I1 L ⟨⟨pm', ctv, hf, hbind _ _ _ _ _⟩, hfn, hfr⟩ tk hW room' (fun s2 H2 r2 => ?_) hN hv d1 d2
        refine hE s2 H2 E _ _ h c' r2 ⟨rfl, g.nd, Nat.lt_of_le_of_lt (Nat.add_le_add_right (Nat.le_add_right _ (16 * k)) 200) r2.un, g.gu⟩ (takes_of rfl rfl rfl rfl)
  refine wpAny_call (codeAny_mono run ?_)
  rintro (_ | (_ | _ | _ | _)) s2 z
  all_goals first | exact (show False from z).elim | exact I1.after z
end
end Pv
set_option Elab.async false
set_option linter.all false
set_option maxRecDepth 100000
set_option maxHeartbeats 1000000
set_option pp.maxSteps 400
namespace Pv
open PySem PySem.Spec L2 LamX
open PyProof.Rows hiding St
/-- isinstance's answer for the exception class c and the class y -/
def IsE (K : PySem.W.Frag) (mg : Str → Option Value) (c y : Str) (b : Bool) : Prop := ∃ C Y, mg c = some (.ref C) ∧ mg y = some (.ref Y) ∧ ExcC K C ∧ PySem.W.kitOne K (.ref C) (.ref Y) = some b
def IsEb (K : PySem.W.Frag) (mg : Str → Option Value) (c : Str) (T : String) (b : Bool) : Prop := ∃ C, mg c = some (.ref C) ∧ ExcC K C ∧ PySem.W.kitOne K (.ref C) (.type T) = some b
/-- a field of the exception class c -/
def FldE (K : PySem.W.Frag) (mg : Str → Option Value) (c f : Str) : Prop := ∃ C, mg c = some (.ref C) ∧ XfC K C ∧ PySem.W.findIn K (.ref C) f = some none
def onE (a dd : Nat) (c : Str) (f : List D → List D → Option D) : D → Option D
  | .dict [(.bool true, .tuple [.int a', .int dd', .str c', .tuple ns, .tuple fs])] => if a' = (a : Int) ∧ dd' = (dd : Int) ∧ c' = c then f ns fs else none
  | _ => none
theorem onE_inv {a dd : Nat} {c : Str} {f : List D → List D → Option D} {d e : D} (h : onE a dd c f d = some e) : ∃ ns fs, d = Ec a dd c ns fs ∧ f ns fs = some e := by
  unfold onE at h
  split at h
  · split at h
    · rename_i z
      obtain ⟨z1, z2, z3⟩ := z
      subst z1; subst z2; subst z3
      exact ⟨_, _, rfl, h⟩
    · cases h
  · cases h
def mOnE (a dd : Nat) (c : Str) (f : List D → List D → Option D) (m : M) : M := fun sl st => (m sl st).bind fun d st => lift (onE a dd c f d) st
abbrev mIsE (a dd : Nat) (c : Str) (b : Bool) (m : M) : M := mOnE a dd c (fun _ _ => some (.bool b)) m
abbrev mFld (a dd : Nat) (c f : Str) (m : M) : M := mOnE a dd c (fun ns fs => ((nmD ns).zip fs).lookup f) m
theorem rep_Ec {K : PySem.W.Frag} {W : Wd} {v : V} {a dd : Nat} {c : Str} {ns fs : List D} (h : rep K W v (Ec a dd c ns fs)) : v = .ref a ∧ ∃ xs, W.F dd = some (.xd ((nmD ns).zip xs)) ∧ repL K W xs fs := by
  obtain ⟨h1, xs, h2, h3⟩ := h
  rw [Int.toNat_natCast] at h1 h2
  exact ⟨h1, xs, h2, h3⟩
theorem lookup_zip {K : PySem.W.Frag} {W : Wd} {f : Str} {d : D} : ∀ {ns : List Str} {xs : List V} {fs : List D}, repL K W xs fs → (ns.zip fs).lookup f = some d → ∃ v, (ns.zip xs).lookup f = some v ∧ rep K W v d
  | [], _, _, _, h => by simp at h
  | n :: ns, xs, [], l, h => by simp at h
  | n :: ns, xs, e :: fs, ⟨v, us, q1, q2, q3⟩, h => by
    subst q1
    rw [List.zip_cons_cons, List.lookup_cons] at h ⊢
    split at h
    · rename_i z; cases h; exact ⟨v, rfl, q2⟩
    · exact lookup_zip q3 h
section
variable {X : Cx} {Wx : WX} {a dd : Addr} {c f y : Str} {oe : Obj} {pn : List (Addr × Obj)} {ea : Expr} {ma : M} {p p2 pos : Pos}
theorem call_isX {D : Addr} (C : ExcC X.K D) (hz : Zc (.ref D) (some dd) oe) (hf : ∃ vs, oe.data = .fields vs) : CallR (X.suite a ((a, oe) :: pn)) (.builtin "isinstance")
    (fun xs H Q => ∃ (c : V) (cv : Value) (b : Bool) (fs : List (Str × V)), xs = [.ref a, c] ∧ (∀ u, RelV c u → u = cv) ∧ PySem.W.kitOne X.K (.ref D) cv = some b ∧ H dd = some (.xd fs) ∧ Q (.bl b) H) := by
  rintro pins s σ H xs us Q I r ⟨c, cv, b, fs, rfl, hcv, hk, hx, q⟩
  obtain ⟨u1, us, rfl, r1, r⟩ : ∃ u1 us', us = u1 :: us' ∧ RelV (.ref a) u1 ∧ Vals [c] us' := by cases r with | cons r1 r2 => exact ⟨_, _, rfl, r1, r2⟩
  obtain ⟨u2, rfl, r2⟩ := vals1 r
  cases (show u1 = Value.ref a from r1)
  cases hcv _ r2
  have pin := (I.pin (a, oe) (List.mem_append_left _ List.mem_cons_self)).1
  obtain ⟨vs, hv⟩ := hf
  obtain ⟨mA, hns, hr⟩ := (show ObjOk X.prog X.w H s.heap dd (.xd fs) from I.hok dd _ hx)
  obtain ⟨od, ho, hl⟩ := lookIn_ns hns
  have at_ : PySem.W.InstAt s.heap a oe D (some od) := ⟨pin, hz.1, by unfold PySem.W.notCls; rw [hv] <;> rfl, by rw [hz.2]; exact ho⟩
  obtain ⟨cd, hcd, _⟩ := PySem.W.any_some C.hd
  exact PySem.W.kia_one (PySem.W.kitx_exc (by rw [hcd]; rfl) C.hg C.hk C.hs C.ha C.hn C.ht C.hm) I.kIn at_ hk (fun z => nomatch z) fun tk => ⟨.bl b, H, I.kept (t' := tk) fun _ _ z => z, rfl, q⟩
theorem ge_isE {b : Bool} (u : Su X a dd c oe) (h : IsE X.K X.mg c y b) (hm : X.mg "isinstance" = none) (ha : GE (X.suite a ((a, oe) :: pn)) Wx ea ma) (hg : Gl (X.suite a ((a, oe) :: pn)) "isinstance" := by rfl) (hgy : Gl (X.suite a ((a, oe) :: pn)) y := by rfl) (hd : (y == ("__debug__" : Str)) = false := by decide +kernel)
    (he : starEach [ea, .Name y p2] (X.suite a ((a, oe) :: pn)).env = (false, eval ea (X.suite a ((a, oe) :: pn)).env) :: starEach [.Name y p2] (X.suite a ((a, oe) :: pn)).env := by rfl) (he2 : starEach [.Name y p2] (X.suite a ((a, oe) :: pn)).env = (false, eval (.Name y p2) (X.suite a ((a, oe) :: pn)).env) :: starEach [] (X.suite a ((a, oe) :: pn)).env := by rfl) (hpl : (backTo pos (starEach [.Name y p2] (X.suite a ((a, oe) :: pn)).env)).any (·.1) = false := by rfl) :
    GE (X.suite a ((a, oe) :: pn)) Wx (.Call (.Name "isinstance" p) [ea, .Name y p2] [] pos) (mIsE a dd c b ma) := by
  obtain ⟨C, Y, m1, m2, EC, hk⟩ := h
  obtain ⟨⟨C', m3, hz⟩, hf⟩ := u
  rw [m1] at m3; cases m3
  have hy : PE (X.suite a ((a, oe) :: pn)) (.Name y p2) (tC (.ref Y)) := pe_glob hgy m2 rfl hd
  refine PE.imp (pe_callB (call_isX (pn := pn) EC hz hf) hg hm (by decide +kernel) (pa_cons ha (pa_cons hy pa_nil he2) he) (by decide +kernel) (by decide +kernel) he hpl) fun sh H Q ⟨W, sl, st, hr, hs, q⟩ => ?_
  refine rd_bind hr hs q fun d1 st1 W1 v1 H1 e1 x1 h1 s1 r1 p1 => ?_
  cases ht : onE a dd c (fun _ _ => some (.bool b)) d1 with
  | none => rw [ht] at p1; exact p1.elim
  | some t =>
    rw [ht] at p1
    obtain ⟨ns, fs, e1, e2⟩ := onE_inv ht
    cases e2
    subst e1
    obtain ⟨q1, xs, q2, _⟩ := rep_Ec r1
    subst q1
    exact ⟨.ref Y, .ref Y, b, _, rfl, fun _ z => z, hk, h1.sub _ _ q2, p1.val h1 rfl⟩
theorem ge_isEb {T : String} {b : Bool} (u : Su X a dd c oe) (h : IsEb X.K X.mg c T b) (hm : X.mg "isinstance" = none) (hmy : X.mg y = none) (ha : GE (X.suite a ((a, oe) :: pn)) Wx ea ma) (hv : bootBuiltins y = some (.type T) := by decide +kernel) (hg : Gl (X.suite a ((a, oe) :: pn)) "isinstance" := by rfl) (hgy : Gl (X.suite a ((a, oe) :: pn)) y := by rfl) (hn : y ≠ "__name__" := by decide +kernel) (hd : (y == ("__debug__" : Str)) = false := by decide +kernel)
    (he : starEach [ea, .Name y p2] (X.suite a ((a, oe) :: pn)).env = (false, eval ea (X.suite a ((a, oe) :: pn)).env) :: starEach [.Name y p2] (X.suite a ((a, oe) :: pn)).env := by rfl) (he2 : starEach [.Name y p2] (X.suite a ((a, oe) :: pn)).env = (false, eval (.Name y p2) (X.suite a ((a, oe) :: pn)).env) :: starEach [] (X.suite a ((a, oe) :: pn)).env := by rfl) (hpl : (backTo pos (starEach [.Name y p2] (X.suite a ((a, oe) :: pn)).env)).any (·.1) = false := by rfl) :
    GE (X.suite a ((a, oe) :: pn)) Wx (.Call (.Name "isinstance" p) [ea, .Name y p2] [] pos) (mIsE a dd c b ma) := by
  obtain ⟨C, m1, EC, hk⟩ := h
  obtain ⟨⟨C', m3, hz⟩, hf⟩ := u
  rw [m1] at m3; cases m3
  have hy : PE (X.suite a ((a, oe) :: pn)) (.Name y p2) (tC (.ty T)) := pe_bltn hgy hmy hv rfl hn hd
  refine PE.imp (pe_callB (call_isX (pn := pn) EC hz hf) hg hm (by decide +kernel) (pa_cons ha (pa_cons hy pa_nil he2) he) (by decide +kernel) (by decide +kernel) he hpl) fun sh H Q ⟨W, sl, st, hr, hs, q⟩ => ?_
  refine rd_bind hr hs q fun d1 st1 W1 v1 H1 e1 x1 h1 s1 r1 p1 => ?_
  cases ht : onE a dd c (fun _ _ => some (.bool b)) d1 with
  | none => rw [ht] at p1; exact p1.elim
  | some t =>
    rw [ht] at p1
    obtain ⟨ns, fs, e1, e2⟩ := onE_inv ht
    cases e2
    subst e1
    obtain ⟨q1, xs, q2, _⟩ := rep_Ec r1
    subst q1
    exact ⟨.ty T, .type T, b, _, rfl, fun _ z => z, hk, h1.sub _ _ q2, p1.val h1 rfl⟩
/-- e.f -/
theorem ge_fld (u : Su X a dd c oe) (h : FldE X.K X.mg c f) (ha : GE (X.suite a ((a, oe) :: pn)) Wx ea ma) (hb : attributeBase ea f X.env (eval ea X.env) = eval ea X.env := by rfl) : GE (X.suite a ((a, oe) :: pn)) Wx (.Attribute ea f pos) (mFld a dd c f ma) := by
  obtain ⟨C, m1, T, hno⟩ := h
  obtain ⟨⟨C', m3, hz⟩, hf⟩ := u
  rw [m1] at m3; cases m3
  refine PE.imp (pe_xf (pn := pn) T hno hz hf ha hb) fun sh H Q ⟨W, sl, st, hr, hs, q⟩ => ?_
  refine rd_bind hr hs q fun d1 st1 W1 v1 H1 e1 x1 h1 s1 r1 p1 => ?_
  cases ht : onE a dd c (fun ns fs => ((nmD ns).zip fs).lookup f) d1 with
  | none => rw [ht] at p1; exact p1.elim
  | some t =>
    rw [ht] at p1
    obtain ⟨ns, fs, e1, e2⟩ := onE_inv ht
    subst e1
    obtain ⟨q1, xs, q2, q3⟩ := rep_Ec r1
    obtain ⟨v, l1, l2⟩ := lookup_zip q3 e2
    exact ⟨q1, rfl, dd, _, v, rfl, h1.sub _ _ q2, l1, p1.val h1 l2⟩
end
/-- the def: try: return (u, a()) / except C as n: suite -/
theorem said_of {P : Program} {w : World} {K : PySem.W.Frag} {mg : Str → Option Value} {base : Heap} {x a C n u : Str} {st : Stmt} {g CS : Addr} {fd : FuncData} {Ng : List Str} {i j k1 : Nat} {cs : List Str} {bh : Nat → Nat → Str → MS} {b₀ : Stmt} {suite : List Stmt} {p1 p2 p3 p4 p5 p6 p7 p8 : Pos}
    (F : Fun K x x st g fd) (hm : mg x = some (.ref g)) (hb : Binds K fd [a] []) (S : FnScope Ng [a] (defScope st))
    (hbody : defBody st = [.Try [.Return (some (.Tuple [.Constant (.str u) j p1, .Call (.Name a p2) [] [] p3] k1 p4)) p5] [.ExceptHandler (some (.Name C p6)) (some n) (b₀ :: suite) p7] [] [] p8])
    (hme : mg C = some (.ref CS)) (hcs : ∀ c ∈ cs, ∀ D, mg c = some (.ref D) → PySem.W.exmOne K (.ref D) (.ref CS) = some true)
    (ind : ∀ a dd (x : XV) st, x.1 ∈ cs → handR Ng.length i bh a dd x st = handR Ng.length i bh 0 0 x st)
    (hsu : ∀ (cdv : Value) (A : Around) (outer : List Env) (s : Shared) (H : Hp) (b dd : Addr) (c : Str) (oe : Obj) (pn : List (Addr × Obj)), c ∈ cs → Su (cxOf C8.CX0 P w K mg base Ng x (defScope st) g cdv A outer s H C8.E0).nox b dd c oe → Gd0 ((cxOf C8.CX0 P w K mg base Ng x (defScope st) g cdv A outer s H C8.E0).nox.suite b ((b, oe) :: pn)) →
      GSs ((cxOf C8.CX0 P w K mg base Ng x (defScope st) g cdv A outer s H C8.E0).nox.suite b ((b, oe) :: pn)) (fun _ _ _ _ => False) (b₀ :: suite) (bh b dd c))
    (hge : (defScope st).names.lookup C = some .globalImplicit := by rfl) (hi : Ng[i]? = some n := by rfl) (hln : (defScope st).names.lookup n = some .local := by rfl) (h0 : ∀ f : Addr, (L2.start Ng [V.ref f])[0]? = some (some (V.ref f)) := by intro _; rfl)
    (hN0 : Ng[0]? = some a := by rfl) (hva : (defScope st).names.lookup a = some .local := by rfl) (d1 : (a == ("__debug__" : Str)) = false := by decide +kernel) (d2 : (a == ("__classdict__" : Str)) = false := by decide +kernel) (d3 : (x == ("__debug__" : Str)) = false := by decide +kernel) (hde : (C == ("__debug__" : Str)) = false := by decide +kernel) :
    Said P w K mg base x (saidR u cs Ng.length i bh) := by
  refine ⟨g, a, Ng, st, fd, F, hm, hb, S, hN0, .inl hva, d1, d2, d3, fun X cdv q e1 e2 e3 e4 e5 hun hgu => ?_⟩
  subst e1; subst e2; subst e3; subst e4; subst e5
  rw [hbody]
  refine said_gives hge hme hde S.nd hi hln h0 (by have := (List.getElem?_eq_some_iff.mp hN0).1; omega) hcs ind fun s H b dd c oe pn hc hu => hsu cdv X.A X.stack s H b dd c oe pn hc ⟨hu.cls, hu.fld⟩ ⟨S.nd, ?_, hgu⟩
  show X.A.units + 3 + 200 < cLine
  have := hun.un; omega
end Pv
set_option Elab.async false
set_option linter.all false
set_option maxRecDepth 100000
set_option maxHeartbeats 1000000
set_option pp.maxSteps 400
namespace Pv
open PySem PySem.Spec L2 LamX
open PyProof.Rows hiding St
theorem cd_of {K : PySem.W.Frag} {x : Str} {st : Stmt} {f : Addr} {oc : Value} {od an : Option Addr} {osl : Array (Option Value)} {kV doc pm cdv ct : Value} (l : K.lookup f = some ⟨oc, od, .func (PySem.W.fnOf x x (defArgs st) (defBody st) (defScope st) .none kV doc pm an cdv ct), osl⟩) (c : PySem.W.codeIn K cdv x = true) :
    FunCd K x x st f (PySem.W.fnOf x x (defArgs st) (defBody st) (defScope st) .none kV doc pm an cdv ct) cdv := ⟨oc, od, kV, doc, pm, an, ct, osl, rfl, l, c⟩
/-- one def's table: its code object, the table, the name of its lambdas -/
abbrev Tb3 := Addr × Addr × Str
def tabSto (cs : List Tb3) : Sto := cs.map fun p => .tb p.2.1 p.2.2
theorem tbs_tabSto : ∀ cs : List Tb3, tbs (tabSto cs) = cs.map (·.2)
  | [] => rfl
  | p :: cs => by show (p.2.1, p.2.2) :: tbs (tabSto cs) = p.2 :: cs.map (·.2); rw [tbs_tabSto cs]
section
variable {P : Program} {w : World} {K : PySem.W.Frag} {mg mb : Str → Option Value} {k : Nat} {fa a : Addr} {fd : FuncData} {x : Str} {F : Fn} {s₁ : Shared} {vs : List Value} {ns : List Int} {cs : List Tb3}
theorem repL_nums {W : Wd} : ∀ ns : List Int, repL K W (ns.map V.int) (ns.map .int)
  | [] => rfl
  | n :: ns => ⟨_, _, rfl, rfl, repL_nums ns⟩
/-- the store at the law's beginning: its tables -/
theorem hr_tabs {H : Hp} (nd : (cs.map (·.2.1)).Nodup) (hH : ∀ p ∈ cs, H p.2.1 = some (.tbl #[])) (only : ∀ b ps, H b = some (.tbl ps) → b ∈ cs.map (·.2.1)) :
    HR K ⟨fun b => if b ∈ cs.map (·.2.1) then none else H b, cs.map (·.2.1)⟩ H (tabSto cs) := by
  have notF : ∀ {b o}, (if b ∈ cs.map (·.2.1) then none else H b) = some o → b ∉ cs.map (·.2.1) ∧ H b = some o := fun {b o} e => by
    by_cases hb : b ∈ cs.map (·.2.1)
    · rw [if_pos hb] at e; cases e
    · rw [if_neg hb] at e; exact ⟨hb, e⟩
  refine ⟨by simp [tabSto], nd, fun b o e => (notF e).2, fun r b m e1 e2 => ?_, fun p hp => ?_, fun b ps e => ?_⟩
  · have hb : b ∈ cs.map (·.2.1) := List.mem_of_getElem? e1
    refine ⟨if_pos hb, ?_⟩
    unfold tabSto at e2
    have e1' : (cs.map (·.2.1))[r]? = some b := e1
    rw [List.getElem?_map] at e1' e2
    obtain ⟨p, q1, q2⟩ := Option.map_eq_some_iff.mp e1'
    rw [q1] at e2
    cases e2
    exact ⟨q2.symm, #[], by rw [← q2]; exact hH p (List.mem_of_getElem? q1)⟩
  · rw [tbs_tabSto] at hp
    obtain ⟨q, hq, e⟩ := List.mem_map.mp hp
    subst e
    exact TabS.nil (hH q hq)
  · obtain ⟨h1, h2⟩ := notF e
    exact h1 (only b ps h2)
theorem head_GT (KX : K.In s₁.heap) (hns : s₁.heap.Ns mainGlobals mg) (hb : s₁.heap.Ns builtinsNs mb) (hbb : ∀ x : Str, x ≠ "__name__" → mb x = bootBuiltins x) (hlim : s₁.heap.NoLimit) (hg : s₁.gens = #[])
    (hT : ∀ p ∈ cs, s₁.heap.get? p.2.1 = some (PySem.W.tabObj #[])) (nT : ∀ p ∈ cs, K.lookup p.2.1 = none) (C : ∀ p ∈ cs, PySem.W.CodeHd s₁.heap p.1 p.2.1) (nd : (cs.map (·.2.1)).Nodup)
    (hbm : ∃ (bm : Addr) (ob : Obj), mg "__builtins__" = some (.ref bm) ∧ bm ≠ builtinsNs ∧ s₁.heap.get? bm = some ob ∧ ob.cls = .type "module" ∧ ob.dict = some builtinsNs ∧ ob.data = .plain)
    (ha : s₁.heap.get? a = some { cls := .type "list", data := .seq vs.toArray }) (hi : IntsAre vs ns) (hl : ns.length ≤ sizeLine) (hr : Room k callerA)
    (hF : ∀ base : Heap, K.In base → base.Ns mainGlobals mg → (∀ p ∈ cs, TabB base mg p.1 p.2.1) → FnG P w K mg base k fa fd [x] F) (hbind : ∀ (s : Shared) (u : Value), BindsTo s fd ⟨[u], []⟩ [(x, u)])
    (law : ∃ st, F [Gs (ns.map .int)] (tabSto cs) = .ok (.bool true) st) :
    codeAny (model P w) callerA (.call (.ref fa) ⟨[.ref a], []⟩) (fun r s' => r = .ok (.ret (.bool true)) ∧ OldK s₁.heap s'.heap ∧ s'.os = s₁.os ∧ AllBare s'.gens) s₁ := by
  have lenV := hi.length
  have rels := vals_ints hi
  let ts := cs.map (·.2.1)
  have tabAt : ∀ b ∈ ts, s₁.heap.get? b = some (PySem.W.tabObj #[]) := fun b q => by
    obtain ⟨p, hp, e⟩ := List.mem_map.mp q
    subst e; exact hT p hp
  have notA : a ∉ ts := fun q => by
    have z := tabAt a q
    rw [ha] at z
    exact nomatch (show Data.seq vs.toArray _ = Data.fields #[] from congrArg Obj.data (Option.some.inj z))
  have isT : ∀ p ∈ cs, p.2.1 ∈ ts := fun p hp => List.mem_map.mpr ⟨p, hp, rfl⟩
  have go : ∀ H : Hp, (∀ p ∈ cs, H p.2.1 = some (.tbl #[])) → (∀ b, H b = none ∨ b ∈ ts ∨ ∃ o xs, H b = some (.frz o (.lst xs))) → SqL K H a (ns.map V.int) → HOk P w H s₁.heap → (∀ b, H b ≠ none → b = a ∨ b ∈ ts) → (H a ≠ none → K.lookup a = none) →
      codeAny (model P w) callerA (.call (.ref fa) ⟨[.ref a], []⟩) (fun r s' => r = .ok (.ret (.bool true)) ∧ OldK s₁.heap s'.heap ∧ s'.os = s₁.os ∧ AllBare s'.gens) s₁ := by
    intro H hH only sq ok one free
    have bare : ∀ {b : Addr} {o : Obj}, s₁.heap.get? b = some o → (∀ us n, o.data ≠ .seq us n) → o.data ≠ .fields #[] → H b = none := by
      intro b o e n1 n2
      cases hb : H b with
      | none => rfl
      | some u =>
        rcases one b (by rw [hb]; exact fun z => nomatch z) with q | q
        · subst q; rw [ha] at e; cases e; exact absurd rfl (n1 _ _)
        · rw [tabAt b q] at e; cases e; exact absurd rfl n2
    have nodict : ∀ {b : Addr} {o : Obj} {es : Array DictEntry} {ep : Nat}, s₁.heap.get? b = some o → o.data = .dict es ep → H b = none := fun e q =>
      bare e (fun us n z => by rw [q] at z; cases z) fun z => by rw [q] at z; cases z
    have nsB : ∀ {b : Addr} {m : Str → Option Value}, s₁.heap.Ns b m → (hidT s₁.heap H).Ns b m := by
      intro b m ⟨o, es, ep, e, q, r⟩
      exact ⟨o, es, ep, hidT_get e (nodict e q), q, r⟩
    have kB : K.In (hidT s₁.heap H) := by
      intro b o e
      refine hidT_get (KX b o e) ?_
      cases hb : H b with
      | none => rfl
      | some u =>
        rcases one b (by rw [hb]; exact fun z => nomatch z) with q | q
        · subst q
          rw [free (by rw [hb]; exact fun z => nomatch z)] at e
          cases e
        · obtain ⟨p, hp, ep⟩ := List.mem_map.mp q
          subst ep
          rw [nT p hp] at e
          cases e
    have limB : (hidT s₁.heap H).NoLimit := by
      obtain ⟨mc, h1, h2⟩ := hlim
      exact ⟨mc, nsB h1, h2⟩
    have tabsB : ∀ p ∈ cs, TabB (hidT s₁.heap H) mg p.1 p.2.1 := by
      intro p hp
      refine ⟨?_, ?_, ?_⟩
      · obtain ⟨o, us, file, tf, flags, tg, inF, text, tt, g1, r1, r2, r3, more⟩ := C p hp
        refine ⟨o, us, file, tf, flags, tg, inF, text, tt, hidT_get g1 (bare g1 (fun us' n z => ?_) fun z => ?_), r1, r2, r3, more⟩
        · rw [r2] at z; cases z
        · rw [r2] at z; cases z; simp at r3
      · obtain ⟨bm, ob, b1, b2, b3, b4, b5, b6⟩ := hbm
        refine ⟨bm, ob, b1, b2, fun q => ?_, fun q => ?_, hidT_get b3 (bare b3 (fun us' n z => ?_) fun z => ?_), b4, b5, b6⟩
        · obtain ⟨o, es, ep, e, hd, _⟩ := hns
          rw [q, e] at b3; cases b3; rw [hd] at b6; cases b6
        · rw [q, hT p hp] at b3; cases b3; cases b6
        · rw [b6] at z; cases z
        · rw [b6] at z; cases z
      · intro q
        obtain ⟨o, es, ep, e, hd, _⟩ := hns
        rw [q, hT p hp] at e; cases e; cases hd
    have env : Env0 P w K mg (hidT s₁.heap H) callerA [] s₁ H :=
      { frames := rfl, mod := ⟨kB, nsB hns, ⟨mb, nsB hb, hbb⟩, limB⟩, bs := fun b o e => of_hidT e, bsz := Nat.le_of_eq (hidT_size _ _), funs := trivial, frf := fun b hb => (absurd (show b ∈ ([] : List Addr) from hb) (by simp)), hok := ok, bare := .of_eq hg }
    obtain ⟨st, hlaw⟩ := law
    have base := hr_tabs (K := K) nd hH fun b ps e => by
      rcases only b with z | z | ⟨o, xs, z⟩
      · rw [e] at z; cases z
      · exact z
      · rw [e] at z; cases z
    have sq' : SqL K (fun b => if b ∈ ts then none else H b) a (ns.map V.int) := by
      rcases sq with (z | ⟨o, z⟩) | z
      · exact .inl (.inl ((if_neg notA).trans z))
      · exact .inl (.inr ⟨o, (if_neg notA).trans z⟩)
      · exact .inr z
    have prom : spF ⟨K, mg⟩ 1 F [.ref a] H (fun v _ => v = .bl true) fun _ _ _ => False :=
      ⟨_, [Gs (ns.map .int)], tabSto cs, base, ⟨_, _, rfl, ⟨a, _, rfl, sq', repL_nums ns⟩, rfl⟩, rfl, by rw [hlaw]; exact fun W' v H' _ _ r => r⟩
    refine codeAny_mono ((hF _ kB (nsB hns) tabsB).run callerA [] s₁ H ⟨[.ref a], []⟩ [.ref a] [.ref a] _ _ hr rfl env (hbind s₁ (.ref a)) (.cons rfl .nil) prom) ?_
    intro r s' z
    cases r with
    | error e => obtain ⟨_, _, _, _, _, _, _, _, _, _, _, _, q⟩ := z; exact q.elim
    | ok fl => cases fl with
      | ret u =>
        obtain ⟨v, H', os, bareG, un, ok', rv, q⟩ := z
        cases (show v = .bl true from q)
        cases (show u = Value.bool true from rv)
        have same : ∀ b o, b ∉ ts → s₁.heap.get? b = some o → s'.heap.get? b = some o := by
          intro b o nb e
          cases hb : H b with
          | none => exact un.keep b o e hb (fun z => nomatch z) (fun z => nomatch z)
          | some u =>
            rcases only b with z | z | ⟨ob, xs, z⟩
            · rw [hb] at z; cases z
            · exact absurd z nb
            · obtain ⟨e1, _⟩ := ok b _ z
              obtain ⟨e2, _⟩ := ok' b _ (un.frzs b ob _ z)
              rw [e] at e1
              cases e1
              exact e2
        have more : ∀ p ∈ cs, ∃ l : Array Value, s'.heap.get? p.2.1 = some { cls := .none, data := .fields l } := by
          intro p hp
          obtain ⟨l, z⟩ := un.tbls p.2.1 #[] (hH p hp)
          exact ⟨_, ok' p.2.1 _ z⟩
        refine ⟨rfl, ⟨fun b o e => ?_, fun b o e => ?_⟩, os, bareG⟩
        · by_cases nb : b ∈ ts
          · obtain ⟨p, hp, ep⟩ := List.mem_map.mp nb
            subst ep
            obtain ⟨l, hl2⟩ := more p hp
            have e0 := e
            rw [hT p hp] at e0
            cases e0
            exact .inr (.inl ⟨((C p hp).tab (hT p hp)).isCodeTable, rfl, #[], l, rfl, by simpa using hl2⟩)
          · exact .inl (same b o nb e)
        · by_cases nb : b ∈ ts
          · obtain ⟨p, hp, ep⟩ := List.mem_map.mp nb
            subst ep
            obtain ⟨l, hl2⟩ := more p hp
            exact ⟨_, hl2⟩
          · exact ⟨o, same b o nb e⟩
      | next => exact z.elim
      | brk => exact z.elim
      | cont => exact z.elim
  have iff_ts : ∀ {b : Addr} {u v : Option HO}, b ∈ ts → (if b ∈ ts then u else v) = u := fun h => if_pos h
  cases hk : K.lookup a with
  | some o =>
    have e := KX a o hk
    rw [ha] at e
    cases e
    refine go (fun b => if b ∈ ts then some (.tbl #[]) else none) (fun p hp => if_pos (isT p hp)) (fun b => ?_) (Or.inr ⟨_, vs.toArray, _, hk, rfl, rfl, rfl, ?_, ?_⟩) (fun b u z => ?_) (fun b z => ?_) (fun z => absurd (if_neg notA) z)
    · by_cases q : b ∈ ts
      · exact .inr (.inl q)
      · exact .inl (if_neg q)
    · rw [List.size_toArray, lenV]; exact hl
    · simpa using rels
    · by_cases q : b ∈ ts
      · have z2 := (if_pos q).symm.trans z
        cases z2; exact tabAt b q
      · have z2 := (if_neg q).symm.trans z
        cases z2
    · by_cases q : b ∈ ts
      · exact .inr q
      · exact absurd (if_neg q) z
  | none =>
    refine go (fun b => if b = a then some (.frz { cls := .type "list", data := .seq vs.toArray } (.lst (ns.map V.int))) else if b ∈ ts then some (.tbl #[]) else none) (fun p hp => ?_) (fun b => ?_) (Or.inl (Or.inr ⟨_, if_pos rfl⟩)) (fun b u z => ?_) (fun b z => ?_) (fun _ => hk)
    · have : p.2.1 ≠ a := fun z => notA (z ▸ isT p hp)
      exact (if_neg this).trans (if_pos (isT p hp))
    · by_cases q : b = a
      · exact Or.inr (.inr ⟨_, _, if_pos q⟩)
      · by_cases q2 : b ∈ ts
        · exact .inr (.inl q2)
        · exact Or.inl ((if_neg q).trans (if_neg q2))
    · by_cases q : b = a
      · have z2 := (if_pos q).symm.trans z
        cases z2
        subst q
        exact ⟨ha, by rw [List.length_map]; exact hl, vs, _, rels, ha⟩
      · have z2 := (if_neg q).symm.trans z
        by_cases q2 : b ∈ ts
        · have z3 := (if_pos q2).symm.trans z2
          cases z3; exact tabAt b q2
        · have z3 := (if_neg q2).symm.trans z2
          cases z3
    · by_cases q : b = a
      · exact .inl q
      · by_cases q2 : b ∈ ts
        · exact .inr q2
        · exact absurd ((if_neg q).trans (if_neg q2)) z
end
/-- the end theorem's walk, with tables -/
theorem walk_GT {l : PySem.W.OpenLaw} {n k : Nat} {q : Program} {loose : List Str} {XP : (Str → Option Value) → Heap → Prop} {YP : World → Heap → Prop} {d : DefRec} {K : Params → PySem.W.Frag} {x : Str} {F : Fn} (cs : List Tb3)
    (hn : l.most = some n) (hn2 : n ≤ sizeLine) (hdf : d.params.defaults = []) (hr : Room k callerA) (hY : ∀ (w : World) (h : Heap), YP w h → (K w.params).In h) (nd : (cs.map (·.2.1)).Nodup)
    (hC : ∀ (w : World) (h : Heap), YP w h → (∀ p ∈ cs, h.get? p.2.1 = some (PySem.W.tabObj #[])) ∧ (∀ p ∈ cs, (K w.params).lookup p.2.1 = none) ∧ ∀ p ∈ cs, PySem.W.codeHdIn (K w.params) p.1 p.2.1 = true)
    (hF : ∀ (w : World) (mg : Str → Option Value) (fa : Addr) (h : Heap), (K w.params).In h → h.Ns mainGlobals mg → mg d.name = some (.ref fa) →
      ∃ fd : FuncData, (∀ (s : Shared) (u : Value), BindsTo s fd ⟨[u], []⟩ [(x, u)]) ∧ ∀ base : Heap, (K w.params).In base → base.Ns mainGlobals mg → (∀ p ∈ cs, TabB base mg p.1 p.2.1) → FnG l.prog w (K w.params) mg base k fa fd [x] F)
    (law : ∀ ns : List Int, ns.length ≤ n → ∃ st, F [Gs (ns.map .int)] (tabSto cs) = .ok (.bool true) st) : PySem.W.WalkO q loose XP YP l.row.toRowW d [] (fun f vs => PySem.call f vs) := by
  refine Att.attach_call hn hdf ?_
  intro w s₀ s₁ mg mb fa o pm cd doc a vs ns G Y ho hd hcd hmg hobj hints hlen hg
  have KX := hY w _ Y
  obtain ⟨fd, b, f⟩ := hF w mg fa _ KX G.T.g hmg
  obtain ⟨c1, c2, c3⟩ := hC w _ Y
  exact head_GT KX G.T.g G.T.b G.T.builtins G.T.nolimit hg c1 c2 (fun p hp => PySem.W.codeHd_of_K KX (c3 p hp)) nd G.T.bmain hobj hints (Nat.le_trans hlen hn2) hr f b (law ns hlen)
end Pv
set_option Elab.async false
set_option linter.all false
set_option maxRecDepth 100000
set_option maxHeartbeats 1000000
set_option pp.maxSteps 400
namespace Pv
open PySem PySem.Spec L2 LamX
open PyProof.Rows hiding St
def classBody : Stmt → List Stmt
  | .ClassDef _ _ _ body _ _ _ _ _ _ _ => body
  | _ => []
/-- the class's first def -/
def initOf (st : Stmt) : Stmt := ((classBody st).find? fun s => match s with | .FunctionDef .. => true | _ => false).getD (.Pass ⟨0, 0, 0, 0⟩)
/-- the raw facts: each by k_is -/
structure XRaw (K : PySem.W.Frag) (C : Addr) : Prop where
  xL : ∃ nm q N bs bm sn sub ab col dd k0 k1 k2 k3 k5, K.lookup C = some (excClassObj nm q C N bs bm true sn sub ab col dd k0 k1 k2 k3 k5 "ValueError.__new__") ∧ PySem.HandSPX.refsVE bm = true
  sa : PySem.W.findIn K (.ref C) "__setattr__" = some (some (.builtin "object.__setattr__"))
  ga : PySem.W.findIn K (.ref C) "__getattribute__" = some (some (.builtin "BaseException.__getattribute__"))
  gg : PySem.W.findIn K (.ref C) "__getattr__" = some none
  cl : PySem.W.findIn K (.ref C) "__class__" = some (some (.builtin "object.__class__"))
  eC : PySem.W.subIn K (.ref C) (.type "BaseException") = some true
  vC : PySem.W.subIn K (.ref C) (.type "ValueError") = some true
  tC : PySem.W.typeIn K (.ref C) = some (.type "type")
  kC : PySem.W.keepIn K (.ref C) = true
  hC : PySem.W.hasDictIn K C = true
  mC : PySem.W.mroIn K C (.ref C) = some true
  mO : PySem.W.mroIn K C (.type "object") = some true
  sup : PySem.W.ks_superIn K C C "__init__" = some (some (.builtin "ValueError.__init__"))
/-- facts of no class -/
structure XTop (K : PySem.W.Frag) : Prop where
  sg : PySem.W.specialIn K (.builtin "object.__class__") "__get__" = some (some (.builtin "getset_descriptor.__get__"))
  tk : PySem.W.takesIn K (.builtin "object.__class__") = some true
  any : PySem.W.nsIn K PySem.cStatics "thirdparty.any" = some none
theorem XRaw.oex {K : PySem.W.Frag} {C : Addr} (h : XRaw K C) : OexC K C := ⟨h.xL, h.sa, h.eC, h.tC, h.kC⟩
theorem XRaw.exc {K : PySem.W.Frag} {C : Addr} (h : XRaw K C) (t : XTop K) : ExcC K C := ⟨h.ga, h.gg, h.eC, h.hC, h.cl, t.sg, t.tk, h.mO⟩
theorem XRaw.xf {K : PySem.W.Frag} {C : Addr} (h : XRaw K C) : XfC K C := ⟨h.ga, h.gg, h.eC, h.hC⟩
theorem XRaw.at_ {K : PySem.W.Frag} {mg : Str → Option Value} {prog : Program} {x : Str} {C : Addr} (h : XRaw K C) (t : XTop K) (m : mg x = some (.ref C)) : ExcAt K mg prog x C :=
  ⟨m, h.oex, t.any, h.sup, h.vC, h.mC, let ⟨cd, hc, _⟩ := PySem.W.any_some h.hC; ⟨cd, hc⟩⟩
/-- a class of the program, plainer -/
structure YRaw (K : PySem.W.Frag) (Y : Addr) : Prop where
  eC : PySem.W.subIn K (.ref Y) (.type "BaseException") = some true
  tC : PySem.W.typeIn K (.ref Y) = some (.type "type")
  iC : PySem.W.isClsIn K Y = true
theorem YRaw.kit {K : PySem.W.Frag} {C Y : Addr} {b : Bool} (h : YRaw K Y) (s : PySem.W.subIn K (.ref C) (.ref Y) = some b) (hb : C = Y → b = true) : PySem.W.kitOne K (.ref C) (.ref Y) = some b := by
  have h2 : (PySem.W.clsIn K Y).isSome = true := h.iC
  unfold PySem.W.kitOne
  split
  · rename_i e
    have e' : C = Y := Value.ref.inj (beq_iff_eq.mp e)
    rw [hb e']
  · show (if _ then _ else _) = _
    rw [if_pos (by rw [h2, h.tC]; rfl)]; exact s
theorem YRaw.exm {K : PySem.W.Frag} {C Y : Addr} {b : Bool} (h : YRaw K Y) (s : PySem.W.subIn K (.ref C) (.ref Y) = some b) : PySem.W.exmOne K (.ref C) (.ref Y) = some b := by
  have h2 : (PySem.W.clsIn K Y).isSome = true := h.iC
  unfold PySem.W.exmOne
  rw [if_pos (by rw [h.eC]; rfl)]
  show (if _ then _ else _) = _
  rw [if_pos (by rw [h2, h.tC]; rfl)]; exact s
theorem kit_T {K : PySem.W.Frag} {C : Addr} {T : String} {b : Bool} (m : PySem.W.kitMeta T = true) (s : PySem.W.subIn K (.ref C) (.type T) = some b) : PySem.W.kitOne K (.ref C) (.type T) = some b := by
  unfold PySem.W.kitOne
  rw [if_neg (by intro z; cases (beq_iff_eq.mp z))]
  show (if _ then _ else _) = _
  rw [if_pos m]; exact s
def Exc2 (P : Program) (w : World) (K : PySem.W.Frag) (mg : Str → Option Value) (x f1 f2 : Str) : Prop :=
  ∃ C fI fd ps, ∀ X : Cx, X.prog = P → X.w = w → X.K = K → X.mg = mg → ExcDf X x C fI fd ps (sp2 C f1 f2)
section
variable {P : Program} {w : World} {K : PySem.W.Frag} {mg : Str → Option Value} {x f1 f2 x1 x2 qual : Str} {C fI cc cda : Addr} {is : Stmt} {oc dc pm ct cl ccl : Value} {od an cld cdd : Option Addr} {osl csl ccs : Array (Option Value)} {vs : Array Value} {file : Str} {tf : Tok}
theorem exc2_mk (R : XRaw K C) (t : XTop K) (m : mg x = some (.ref C)) (ini : PySem.W.findIn K (.ref C) "__init__" = some (some (.ref fI))) (ty : PySem.W.typeIn K (.ref fI) = some (.type "function"))
    (lk : K.lookup fI = some ⟨oc, od, .func (PySem.W.ksFn "__init__" qual (defArgs is) (defBody is) (defScope is) .none .none dc pm an (.ref cda) ct cc), osl⟩) (code : PySem.W.codeIn K (.ref cda) qual = true)
    (lc : K.lookup cda = some ⟨ccl, cdd, .fields vs, ccs⟩) (hv : vs[2]? = some (.str file tf)) (hfile : ((P.main.file : Str) == file) = true) (cell : K.lookup cc = some ⟨cl, cld, .cell (some (.ref C)), csl⟩) (ns : mg "super" = none)
    (n1 : PySem.W.findIn K (.ref C) f1 = some none) (n2 : PySem.W.findIn K (.ref C) f2 = some none) (top : (P.main.scope.names.lookup ("super" : Str)).isSome = false)
    {p0 p1 p2 p3 p4 q1 q2 a1 a2 b1 b2 c1 c2 d1 d2 : Pos}
    (hB : defBody is = [.Expr (.Call (.Attribute (.Call (.Name "super" p0) [] [] p1) "__init__" p2) [.Name x1 q1, .Name x2 q2] [] p3) p4, .Assign [.Attribute (.Name "self" a1) f1 b1] (.Name x1 c1) d1, .Assign [.Attribute (.Name "self" a2) f2 b2] (.Name x2 c2) d2])
    (hse : ∀ env : Env, swapsWith (.Call (.Attribute (.Call (.Name "super" p0) [] [] p1) "__init__" p2) [.Name x1 q1, .Name x2 q2] [] p3) none p4.line env = pure false)
    (pl : Env → Sem Bool) (hcE : ∀ env : Env, eval (.Call (.Attribute (.Call (.Name "super" p0) [] [] p1) "__init__" p2) [.Name x1 q1, .Name x2 q2] [] p3) env = (do
      let ov ← attributeBase (.Call (.Name "super" p0) [] [] p1) "__init__" env (eval (.Call (.Name "super" p0) [] [] p1) env)
      standAt p2.atName
      let (f, first) ← holding [ov] (getMethod ov "__init__" (pl env))
      callWith p3 f first (backTo p3 (starEach [.Name x1 q1, .Name x2 q2] env)) []))
    (har : ∃ ar, ((defArgs is).posonlyargs ++ (defArgs is).args).head? = some ar ∧ ar.arg = "self")
    (bind : ∀ us : List Value, us.length = 3 → bindArgs (PySem.W.ksFn "__init__" qual (defArgs is) (defBody is) (defScope is) .none .none dc pm an (.ref cda) ct cc) ⟨us, []⟩ = pure ((["self", x1, x2] : List Str).zip us))
    (kind : (defScope is).kind = .function) (co : (defScope is).isCoroutine = false) (gen : (defScope is).isGenerator = false) (loc : ∀ y ∈ (["self", x1, x2] : List Str), (defScope is).names.lookup y = some .local) (nocell : ∀ y ∈ (defScope is).names, y.2 ≠ .cell) (free : ∀ y ∈ (defScope is).names, y.2 = .free → y.1 = "__class__")
    (ks : (defScope is).names.lookup ("super" : Str) = some .globalImplicit) (kc : (defScope is).names.lookup ("__class__" : Str) = some .free) (nd : (["self", x1, x2] : List Str).Nodup)
    (hx1 : (x1 == ("__debug__" : Str)) = false ∧ (x1 == ("__classdict__" : Str)) = false) (hx2 : (x2 == ("__debug__" : Str)) = false ∧ (x2 == ("__classdict__" : Str)) = false) : Exc2 P w K mg x f1 f2 := by
  refine ⟨C, fI, PySem.W.ksFn "__init__" qual (defArgs is) (defBody is) (defScope is) .none .none dc pm an (.ref cda) ct cc, ["self", x1, x2], fun X e1 e2 e3 e4 => ?_⟩
  subst e1; subst e2; subst e3; subst e4
  have D : InitAt X.K X.mg X.prog ["self", x1, x2] qual (defScope is) fI cc (PySem.W.ksFn "__init__" qual (defArgs is) (defBody is) (defScope is) .none .none dc pm an (.ref cda) ct cc) (.ref cda) C := by
    obtain ⟨ar, h1, h2⟩ := har
    exact ⟨⟨_, _, _, lk⟩, ⟨_, _, _, _, _, _, _, _, rfl, ar, h1, by rw [h2]; rfl⟩, code, ⟨cda, _, _, vs, _, file, tf, rfl, lc, hv, hfile⟩, ⟨_, _, _, cell⟩, ns, kind, co, gen, loc, nocell, free, ks, kc, nd, top⟩
  refine ⟨R.at_ t m, ini, ty, ?_, .all fun us h => bind us h⟩
  exact fn_init2 D (R.at_ t m) (by rw [hB]) hse pl hcE har n1 n2 hx1 hx2
end
end Pv
set_option Elab.async false
set_option linter.all false
set_option maxRecDepth 100000
set_option maxHeartbeats 1000000
set_option pp.maxSteps 400
namespace Pv
open PySem PySem.Spec L2 LamX
open PyProof.Rows hiding St
def perm (ix : List Nat) {α : Type} (l : List α) : List α := ix.filterMap fun i => l[i]?
theorem perm_len {α : Type} {n : Nat} (l : List α) (h : l.length = n) : ∀ ix : List Nat, (∀ i ∈ ix, i < n) → (perm ix l).length = ix.length
  | [], _ => rfl
  | i :: ix, hi => by
    have h1 : i < l.length := by rw [h]; exact hi i List.mem_cons_self
    have : perm (i :: ix) l = l[i] :: perm ix l := by unfold perm; rw [List.filterMap_cons, List.getElem?_eq_getElem h1]
    rw [this, List.length_cons, List.length_cons, perm_len l h ix fun j hj => hi j (List.mem_cons_of_mem _ hj)]
theorem perm_rep {K : PySem.W.Frag} {W : Wd} {vs : List V} {ds : List D} {n : Nat} (l : repL K W vs ds) (hl : vs.length = n) : ∀ ix : List Nat, (∀ i ∈ ix, i < n) → repL K W (perm ix vs) (perm ix ds)
  | [], _ => rfl
  | i :: ix, hi => by
    have h1 : i < vs.length := by rw [hl]; exact hi i List.mem_cons_self
    have h2 : i < ds.length := by rw [← repL_length l]; exact h1
    obtain ⟨v, a, b⟩ := repL_get i l (List.getElem?_eq_getElem h2)
    have e1 : perm (i :: ix) vs = v :: perm ix vs := by unfold perm; rw [List.filterMap_cons, a]
    have e2 : perm (i :: ix) ds = ds[i] :: perm ix ds := by unfold perm; rw [List.filterMap_cons, List.getElem?_eq_getElem h2]
    rw [e1, e2]
    exact ⟨v, _, rfl, b, perm_rep l hl ix fun j hj => hi j (List.mem_cons_of_mem _ hj)⟩
theorem vals_get : ∀ {vs : List V} {us : List Value} (i : Nat), Vals vs us → i < vs.length → ∃ v u, vs[i]? = some v ∧ us[i]? = some u ∧ RelV v u
  | _, _, i, .nil, h => by simp at h
  | _, _, 0, .cons r _, _ => ⟨_, _, rfl, rfl, r⟩
  | _, _, i + 1, .cons _ r, h => by
    obtain ⟨v, u, a, b, c⟩ := vals_get i r (by simpa using h)
    exact ⟨v, u, by simpa using a, by simpa using b, c⟩
theorem perm_rel {vs : List V} {us : List Value} {n : Nat} (r : Vals vs us) (hl : vs.length = n) : ∀ ix : List Nat, (∀ i ∈ ix, i < n) → Vals (perm ix vs) (perm ix us)
  | [], _ => .nil
  | i :: ix, hi => by
    obtain ⟨v, u, a, b, c⟩ := vals_get i r (by rw [hl]; exact hi i List.mem_cons_self)
    have e1 : perm (i :: ix) vs = v :: perm ix vs := by unfold perm; rw [List.filterMap_cons, a]
    have e2 : perm (i :: ix) us = u :: perm ix us := by unfold perm; rw [List.filterMap_cons, b]
    rw [e1, e2]
    exact .cons c (perm_rel r hl ix fun j hj => hi j (List.mem_cons_of_mem _ hj))
theorem bk_perm {K : PySem.W.Frag} {x qual : Str} {st : Stmt} {f : Addr} {fd : FuncData} {ps ks : List Str} (ix : List Nat) (F : Fun K x qual st f fd) (hp : ps.length = ix.length) (hi : ∀ i ∈ ix, i < ks.length)
    (h : ∀ (kV doc pm : Value) (an : Option Addr) (cdv ct : Value) (ws : List Value), ws.length = ks.length → bindArgs (PySem.W.fnOf x qual (defArgs st) (defBody st) (defScope st) .none kV doc pm an cdv ct) ⟨[], ks.zip ws⟩ = pure (ps.zip (perm ix ws))) : BindsK K fd ps ks (perm ix) := by
  obtain ⟨oc, od, kV, doc, pm, an, cdv, ct, osl, rfl, lk, hcd⟩ := F.ex
  exact ⟨fun s ws _ hl => .of_eq (h kV doc pm an cdv ct ws hl), fun l hl => perm_rep l hl ix hi, fun r hl => perm_rel r hl ix hi, fun l => (perm_len _ l ix hi).trans hp.symm⟩
/-- what an except clause of the class C takes -/
def ExmAt (K : PySem.W.Frag) (mg : Str → Option Value) (C : Str) (cs : List Str) : Prop := ∃ CS, mg C = some (.ref CS) ∧ ∀ c ∈ cs, ∀ D, mg c = some (.ref D) → PySem.W.exmOne K (.ref D) (.ref CS) = some true
theorem isE_mk {K : PySem.W.Frag} {mg : Str → Option Value} {c y : Str} {C Y : Addr} {b : Bool} (R : XRaw K C) (t : XTop K) (m : mg c = some (.ref C)) (m2 : mg y = some (.ref Y)) (h : YRaw K Y) (s : PySem.W.subIn K (.ref C) (.ref Y) = some b) (self : PySem.W.subIn K (.ref C) (.ref C) = some true) : IsE K mg c y b :=
  ⟨C, Y, m, m2, R.exc t, h.kit s fun e => by subst e; rw [self] at s; exact (Option.some.inj s).symm⟩
theorem isEb_mk {K : PySem.W.Frag} {mg : Str → Option Value} {c : Str} {T : String} {C : Addr} {b : Bool} (R : XRaw K C) (t : XTop K) (m : mg c = some (.ref C)) (k : PySem.W.kitMeta T = true) (s : PySem.W.subIn K (.ref C) (.type T) = some b) : IsEb K mg c T b := ⟨C, m, R.exc t, kit_T k s⟩
theorem fldE_mk {K : PySem.W.Frag} {mg : Str → Option Value} {c f : Str} {C : Addr} (R : XRaw K C) (m : mg c = some (.ref C)) (n : PySem.W.findIn K (.ref C) f = some none) : FldE K mg c f := ⟨C, m, R.xf, n⟩
end Pv
namespace Pv
open PySem PySem.Spec L2 LamX
open PyProof.Rows hiding St
def DefB (K : PySem.W.Frag) (mg : Str → Option Value) (x : Str) (st : Stmt) (ps : List Str) (B : FuncData → Prop) : Prop := ∃ f fd, Fun K x x st f fd ∧ mg x = some (.ref f) ∧ Binds K fd ps [] ∧ B fd
def DefC (K : PySem.W.Frag) (mg : Str → Option Value) (x : Str) (st : Stmt) (ps : List Str) (c : Addr) (B : FuncData → Prop) : Prop := ∃ f fd, FunCd K x x st f fd (.ref c) ∧ PySem.W.keepIn K (.ref f) = true ∧ mg x = some (.ref f) ∧ Binds K fd ps [] ∧ B fd
def HasB (P : Program) (w : World) (K : PySem.W.Frag) (mg : Str → Option Value) (base : Heap) (k : Nat) (x : Str) (ps : List Str) (F : Fn) (B : FuncData → Prop) : Prop := ∃ f fd, Df P w K mg base k x f fd ps F ∧ B fd
def tbL (l : List Addr) (j : Nat) : Addr := l.getD j 0
end Pv
set_option Elab.async false
set_option linter.all false
set_option maxRecDepth 100000
set_option maxHeartbeats 1000000
set_option pp.maxSteps 400
namespace Pv
open PySem PySem.Spec L2 LamX
open PyProof.Rows hiding St
section
variable {sl : Sl} {st : Sto} {d x y : Pv.D} {i : Nat} {a b c : M} {t u : MT} {ms : Ms}
@[simp] theorem e_onE {p q : Nat} {z : Str} {f : List D → List D → Option D} : mOnE p q z f a sl st = (a sl st).bind fun d st => lift (onE p q z f d) st := rfl
@[simp] theorem e_cnt : mCnt a b sl st = (a sl st).bind fun o st => if isLstD st o = true then (b sl st).bind fun d st => fCnt o d st else .bad := rfl
@[simp] theorem e_max1 : mMax1 a sl st = (a sl st).bind fun x st => onD1 dMax1 x st := rfl
@[simp] theorem e_min1 : mMin1 a sl st = (a sl st).bind fun x st => onD1 dMin1 x st := rfl
@[simp] theorem e_sum1 : mSum1 a sl st = (a sl st).bind fun x st => onD1 dSum1 x st := rfl
@[simp] theorem e_maxDf : mMaxDf a b sl st = (a sl st).bind fun x st => (b sl st).bind fun y st => fMaxDf x y st := rfl
@[simp] theorem e_get1 : mGet1 a b sl st = (a sl st).bind fun o st => if isDct st o = true then (b sl st).bind fun y st => fGet o y .none st else .bad := rfl
@[simp] theorem e_get2 : mGet2 a b c sl st = (a sl st).bind fun o st => if isDct st o = true then (b sl st).bind fun y st => (c sl st).bind fun z st => fGet o y z st else .bad := rfl
@[simp] theorem e_newK : mNewK sl st = .ok (Rf st.length) (st ++ [.dct []]) := rfl
@[simp] theorem e_newT : mNewT sl st = .ok (Rf st.length) (st ++ [.dctT []]) := rfl
@[simp] theorem e_said {P : Addr} {q : Str} {f : R D → R D} : mSaid P q f a sl st = if tbOk st P q = true then okOnly (f (a sl st)) else .bad := rfl
@[simp] theorem e_raise {z : Str} {fs : List Str} : sRaise z fs ms sl st = (ms sl st).thenS fun ds st => excOf z fs ds st := rfl
@[simp] theorem okOnly_ok : okOnly (.ok d st) = .ok d st := rfl
@[simp] theorem onE_Ec {p q : Nat} {z : Str} {f : List D → List D → Option D} {ns fs : List D} : onE p q z f (Ec p q z ns fs) = f ns fs := by simp [onE, Ec]
end
theorem sz_le {n : Nat} (h : n ≤ 1000) : n ≤ sizeLine := Nat.le_trans h (by decide)
theorem sz_lt {n : Nat} (h : n ≤ 1000) : n < sizeLine := Nat.lt_of_le_of_lt h (by decide)
def StC (st : Sto) : Prop := ∀ g, fzS g st = some st
theorem StC.nil : StC [] := fun _ => rfl
theorem StC.cons {m : MO} {st : Sto} (h : ∀ g, fzO g m = some m) (t : StC st) : StC (m :: st) := fun g => by
  show (fzO g m).bind (fun e => (fzS g st).map (e :: ·)) = _
  rw [h g, t g]; rfl
theorem StC.tb {P : Addr} {q : Str} {st : Sto} (t : StC st) : StC (.tb P q :: st) := t.cons fun _ => rfl
theorem fin_app {st more : Sto} {d : Pv.D} (h : StC st) (hd : d.canLay0 = true) : finR st.length (.ok d (st ++ more)) = .ok d st := by
  unfold finR
  by_cases hm : (st ++ more).length = st.length
  · have : more = [] := by
      rw [List.length_append] at hm
      exact List.length_eq_zero_iff.mp (by omega)
    subst this
    simp
  · simp only [if_neg hm]
    rw [fz_clean d hd, List.take_append_of_le_length (Nat.le_refl _), List.take_length, h]
end Pv
set_option Elab.async false
set_option linter.all false
set_option maxRecDepth 100000
set_option maxHeartbeats 1000000
set_option pp.maxSteps 400
namespace Pv
open PySem PySem.Spec L2 LamX
open PyProof.Rows hiding St signs cutD
theorem lookD_put {κ : Type} [DecidableEq κ] (a : List (κ × D)) (k x : κ) (d : D) : lookD (putD a k d) x = if k = x then some d else lookD a x := by
  unfold putD
  split
  · rename_i h
    unfold lookD
    induction a with
    | nil => simp at h
    | cons p a ih =>
      simp only [List.map_cons, List.find?_cons]
      by_cases hp : p.1 = k
      · rw [if_pos hp]
        by_cases hx : k = x
        · subst hx; simp [hp]
        · have : ¬ p.1 = x := fun z => hx (hp ▸ z)
          simp only [this, decide_false]
          have hmap : ∀ l : List (κ × D), ((l.map fun kv => if kv.1 = k then (kv.1, d) else kv).find? fun kv => decide (kv.1 = x)) = l.find? fun kv => decide (kv.1 = x) := by
            intro l
            induction l with
            | nil => rfl
            | cons q l ih2 =>
              simp only [List.map_cons, List.find?_cons]
              by_cases hq : q.1 = k
              · have : ¬ q.1 = x := fun z => hx (hq ▸ z)
                simp [hq, hx, this, ih2]
              · simp [hq, ih2]
          rw [hmap, if_neg hx]
      · rw [if_neg hp]
        by_cases hpx : p.1 = x
        · have : ¬ k = x := fun z => hp (hpx.trans z.symm)
          simp [hpx, this]
        · have h' : (a.any fun kv => decide (kv.1 = k)) = true := by simpa [hp] using h
          simp only [hpx, decide_false]
          exact ih h'
  · rename_i h
    unfold lookD
    rw [List.find?_append]
    by_cases hx : k = x
    · subst hx
      have : a.find? (fun kv => decide (kv.1 = k)) = none := by
        rw [List.find?_eq_none]
        intro p hp hk
        exact h (List.any_eq_true.mpr ⟨p, hp, hk⟩)
      rw [this]; simp
    · have : ([(k, d)] : List (κ × D)).find? (fun kv => decide (kv.1 = x)) = none := by simp [hx]
      rw [this]; simp [hx]
theorem fzP_clean {κ : Type} {g : Nat → Option D} : ∀ kvs : List (κ × D), (∀ p ∈ kvs, p.2.canLay0 = true) → fzP g kvs = some kvs
  | [], _ => rfl
  | p :: ps, h => by
    unfold fzP
    rw [fz_clean p.2 (h p List.mem_cons_self), fzP_clean ps fun q hq => h q (List.mem_cons_of_mem _ hq)]; rfl
theorem fzS_app {g : Nat → Option D} : ∀ {st : Sto} {m : MO}, fzS g st = some st → fzO g m = some m → fzS g (st ++ [m]) = some (st ++ [m])
  | [], m, _, h => by show (fzO g m).bind (fun e => (fzS g []).map (e :: ·)) = _; rw [h]; rfl
  | a :: st, m, hs, h => by
    have hs' : (fzO g a).bind (fun e => (fzS g st).map (e :: ·)) = some (a :: st) := hs
    obtain ⟨e, h1, h2⟩ := Option.bind_eq_some_iff.mp hs'
    obtain ⟨es, h3, h4⟩ := Option.map_eq_some_iff.mp h2
    cases h4
    show (fzO g a).bind (fun e => (fzS g (st ++ [m])).map (e :: ·)) = _
    rw [h1, fzS_app h3 h]; rfl
theorem StC.app {st : Sto} {m : MO} (t : StC st) (h : ∀ g, fzO g m = some m) : StC (st ++ [m]) := fun g => fzS_app (t g) (h g)
theorem StC.dct {st : Sto} {kvs : List (Key × D)} (t : StC st) (h : ∀ p ∈ kvs, p.2.canLay0 = true) : StC (st ++ [.dct kvs]) := t.app fun g => by
  show (fzP g kvs).map MO.dct = _
  rw [fzP_clean kvs h]; rfl
theorem StC.dctT {st : Sto} {kvs : List (List Key × D)} (t : StC st) (h : ∀ p ∈ kvs, p.2.canLay0 = true) : StC (st ++ [.dctT kvs]) := t.app fun g => by
  show (fzP g kvs).map MO.dctT = _
  rw [fzP_clean kvs h]; rfl
theorem StC.lst {st : Sto} {ds : List D} (t : StC st) (h : PyData.canLayAll0 ds = true) : StC (st ++ [.lst ds]) := t.app fun g => by
  show (fzL g ds).map MO.lst = _
  rw [fzL_clean ds h]; rfl
theorem cut_to {ds : List D} {j : Nat} : cutD ds none (some (j : Int)) = ds.take j := by
  unfold cutD
  rw [HT.sIx_none, HT.sIx_nat, List.drop_zero, Nat.sub_zero]
  by_cases h : j ≤ ds.length
  · rw [Nat.min_eq_left h]
  · rw [Nat.min_eq_right (by omega), List.take_length, List.take_of_length_le (by omega)]
end Pv
set_option Elab.async false
set_option linter.all false
set_option maxRecDepth 100000
set_option maxHeartbeats 1000000
set_option pp.maxSteps 400
namespace Pv
open PySem PySem.Spec L2 LamX
open PyProof.Rows hiding St signs
structure Host where
  n : Str
  s : Int
  f : Int
  r : Int
deriving DecidableEq
structure Net where
  hosts : List Host
  roads : List (Str × Str × Int)
  most : Option Int
  rule : Str
structure Ev where
  h : Str
  t : Int
  r : Int
  l : Option Nat
deriving DecidableEq
abbrev Stamp := Int × Int
def dHost (x : Host) : D := .tuple [.str x.n, .int x.s, .int x.f, .int x.r]
def dRoad (x : Str × Str × Int) : D := .tuple [.str x.1, .str x.2.1, .int x.2.2]
def dOpt : Option Int → D
  | none => .none
  | some i => .int i
def dNet (n : Net) : D := .tuple [.tuple (n.hosts.map dHost), .tuple (n.roads.map dRoad), dOpt n.most, .str n.rule]
def dLet : Option Nat → D
  | none => .none
  | some l => .int (l : Int)
def dEv (e : Ev) : D := .tuple [.str e.h, .int e.t, .int e.r, dLet e.l]
def dStamp (s : Stamp) : D := .tuple [.int s.1, .int s.2]
def dStampO : Option Stamp → D
  | none => .none
  | some s => dStamp s
def hasH (n : Net) (h : Str) : Bool := n.hosts.any fun x => x.n == h
/-- an event of the cluster, read -/
def evOf (n : Net) : D → Option Ev
  | .tuple [.str h, .int t, .int r, l] => if hasH n h = true then (match l with
    | .none => some ⟨h, t, r, none⟩
    | .int i => if 0 ≤ i then some ⟨h, t, r, some i.toNat⟩ else none
    | _ => none) else none
  | _ => none
def clk (n : Net) (h : Str) : Option Host := n.hosts.reverse.find? fun x => x.n == h
def leastOf (n : Net) (a b : Str) : Option Int := (n.roads.reverse.find? fun x => x.1 == a && x.2.1 == b).map (·.2.2)
def pl (n : Net) (run : List Ev) (e : Ev) (l : Nat) : Bool := match run[l]? with
  | none => false
  | some p => match leastOf n p.h e.h with
    | none => false
    | some k => decide (k ≤ e.t - p.t)
def late (run : List Ev) (e : Ev) : Bool := match run.getLast? with
  | some p => decide (e.t < p.t)
  | none => false
def same2 (e : Ev) (p : Ev) : Bool := p.h == e.h && decide (p.t = e.t)
/-- what is wrong with the next event -/
def ff (n : Net) (run : List Ev) (d : D) : Option Str := match evOf n d with
  | none => some "event"
  | some e => match clk n e.h with
    | none => some "event"
    | some c =>
      if late run e = true then some "order"
      else if c.r ≤ ((run.filter (same2 e)).length : Int) then some "rate"
      else if ¬ (e.t - c.s ≤ e.r ∧ e.r ≤ e.t + c.f) then some "reading"
      else match e.l with
        | none => none
        | some l => if pl n run e l = true then none else some "letter"
def mark (ks : List Stamp) (rd : Int) : Int := (maxI (ks.map (·.1))).getD (rd - 1)
def known (last heard : Option Stamp) : List Stamp := last.toList ++ heard.toList
/-- the next stamp -/
def nst (n : Net) (last heard : Option Stamp) (rd : Int) : Option Stamp :=
  let ks := known last heard
  let m := mark ks rd
  if m < rd then some (rd, 0) else
    let c := 1 + (maxI ((ks.filter fun s => decide (s.1 = m)).map (·.2))).getD 0
    if (match n.most with | none => true | some k => decide (c ≤ k)) = true then some (m, c) else if n.rule == "more" then some (m + 1, 0) else none
structure NetOk (n : Net) : Prop where
  hl : n.hosts.length ≤ 1000
  rl : n.roads.length ≤ 1000
  hn : ∀ x ∈ n.hosts, x.n.length ≤ 1000 ∧ (PyData.str x.n).canLay0 = true
  rn : ∀ x ∈ n.roads, (PyData.str x.1).canLay0 = true ∧ (PyData.str x.2.1).canLay0 = true
end Pv
set_option Elab.async false
set_option linter.all false
set_option maxRecDepth 100000
set_option maxHeartbeats 1000000
set_option pp.maxSteps 1500
namespace Pv
open PySem PySem.Spec L2
open PyProof.Rows hiding St signs cutD
section
variable {st : Sto}
theorem at_last (st : Sto) (m : MO) : (st ++ [m])[st.length]? = some m := by simp
theorem deref_last (st : Sto) (xs : List Pv.D) : deref (st ++ [.lst xs]) (Rf st.length) = .list xs := by
  rw [deref_ref]; simp
theorem isLst_last (st : Sto) (xs : List Pv.D) : isLst (st ++ [.lst xs]) (Rf st.length) = true := by
  unfold isLst; simp
theorem app_last (st : Sto) (xs : List Pv.D) (d : Pv.D) (h : xs.length ≤ 1000) : fApp (Rf st.length) d (st ++ [.lst xs]) = .ok .none (st ++ [.lst (xs ++ [d])]) := by
  unfold fApp
  simp only [Int.toNat_natCast]
  rw [List.getElem?_append_right (Nat.le_refl _)]
  simp only [Nat.sub_self, List.getElem?_cons_zero]
  rw [if_pos (sz_lt h), List.set_append_right _ _ (Nat.le_refl _)]
  simp
theorem repr_last (st : Sto) (xs : List Pv.D) : reprD (st ++ [.lst xs]) (Rf st.length) = reprD (st ++ [.lst xs]) (.list xs) := by
  unfold reprD; rw [deref_last]; rfl
theorem forL_nil {tg : MG} {body : MS} {fg : List Nat} {sl : Sl} : forL always tg body fg [] sl st = .nx sl st := by unfold forL; rw [if_pos (by trivial)]
theorem forL_cons {tg : MG} {body : MS} {fg : List Nat} {sl : Sl} {d : Pv.D} {ds : List Pv.D} : forL always tg body fg (d :: ds) sl st = (match (tg d sl st).thenS body with
    | .nx sl st => forL always tg body fg ds (wipeD sl fg) st
    | .ct sl st => forL always tg body fg ds (wipeD sl fg) st
    | .bk sl st => .nx (wipeD sl fg) st
    | r => r) := by
  conv => lhs; unfold forL; rw [if_pos (show always st from trivial)]
  try rfl
theorem loop_all {tg : MG} {body : MS} {fg : List Nat} {sl : Sl} {ds : List Pv.D} (h : ∀ d ∈ ds, ∃ sl', (tg d sl st).thenS body = .nx sl' st ∧ wipeD sl' fg = sl) : forL always tg body fg ds sl st = .nx sl st := by
  have := forL_find (keep := always) (tg := tg) (body := body) (fg := fg) (sl := sl) (st := st) (fun _ => none) trivial (ds := ds) fun k d hd _ => .inl ⟨rfl, h d (List.mem_of_getElem? hd)⟩
  rw [this]
  have e : ds.findSome? (fun _ => (none : Option Pv.D)) = none := by induction ds <;> simp_all
  rw [e]
theorem wtL_le {ds : List Pv.D} {m : Nat} (h : ∀ d ∈ ds, wt d ≤ m) : wtL ds ≤ (m + 4) * ds.length := by
  induction ds with
  | nil => exact Nat.zero_le _
  | cons d ds ih =>
    have h1 := h d List.mem_cons_self
    have h2 := ih fun x hx => h x (List.mem_cons_of_mem _ hx)
    unfold wtL
    rw [List.length_cons, Nat.mul_succ]
    omega
theorem Ok.two {x y : Pv.D} {a b k : Nat} (hx : Ok x a k) (hy : Ok y b k) : Ok (.list [x, y]) (a + b + 16) (k + 1) := by
  refine ⟨?_, ?_, ?_⟩
  · show (x.canLay0 && (y.canLay0 && true)) = true
    rw [hx.lay, hy.lay]; rfl
  · unfold Pv.wt wtL wtL wtL; have := hx.wt; have := hy.wt; omega
  · show max x.depth (max y.depth 0) + 1 ≤ k + 1
    have := hx.dp; have := hy.dp; omega
theorem ints_stD (ks : List Stamp) (f : Stamp → Int) : intsOfD (ks.map fun s => PyData.int (f s)) = some (ks.map f) := by
  induction ks with
  | nil => rfl
  | cons a ks ih => simp only [List.map_cons, intsOfD, ih]; rfl
theorem maxI_some {ks : List Int} {m : Int} (h : maxI ks = some m) : m ∈ ks := by
  cases ks with
  | nil => cases h
  | cons a ks =>
    have e : ks.foldl max a = m := Option.some.inj h
    subst e
    have : ∀ (l : List Int) (a : Int), l.foldl max a ∈ a :: l := by
      intro l
      induction l with
      | nil => intro a; simp
      | cons b l ih =>
        intro a
        have := ih (max a b)
        rw [List.foldl_cons]
        rcases List.mem_cons.mp this with e | e
        · rw [e]
          rcases Int.le_total a b with h | h
          · rw [Int.max_eq_right h]; simp
          · rw [Int.max_eq_left h]; simp
        · exact List.mem_cons_of_mem _ (List.mem_cons_of_mem _ e)
    exact this ks a
end
section
variable {α : Type} {keep : Sto → Prop} [DecidablePred keep] {t : CT} {tt : MT} {te : M} {mi : MI} {vs : List Nat} {sl : Sl} {st : Sto}
theorem lcL_at (g f : α → Pv.D) (p : α → Bool) (hk : keep st) : ∀ {xs : List α},
    (∀ x ∈ xs, ∃ sl2, ctSet t (g x) sl = some sl2 ∧ tt sl2 st = .ok (p x) st ∧ (p x = true → te sl2 st = .ok (f x) st)) → lcL keep t tt te sl (xs.map g) st = .ok ((xs.filter p).map f) st
  | [], _ => by rw [List.map_nil]; unfold lcL; rw [if_pos hk]; rfl
  | x :: xs, h => by
    obtain ⟨sl2, h1, h2, h3⟩ := h x List.mem_cons_self
    have ih := lcL_at g f p hk (xs := xs) fun y hy => h y (List.mem_cons_of_mem _ hy)
    rw [List.map_cons]
    unfold lcL
    rw [if_pos hk, h1]
    simp only [h2]
    cases hp : p x with
    | true => simp only [h3 hp, ih, List.filter_cons, hp, if_true, List.map_cons]
    | false => simp [ih, List.filter_cons, hp]
/-- a comprehension over told things, with a test -/
theorem mLc_if (xs : List α) (g f : α → Pv.D) (p : α → Bool) (hi : mi sl st = .ok ⟨xs.map g, keep⟩ st) (hk : keep st) (hz : xs.length ≤ 1000)
    (h : ∀ x ∈ xs, ∃ sl2, ctSet t (g x) (wipeD sl vs) = some sl2 ∧ tt sl2 st = .ok (p x) st ∧ (p x = true → te sl2 st = .ok (f x) st)) : mLc mi t tt te vs sl st = .ok (.list ((xs.filter p).map f)) st := by
  unfold mLc lcR
  rw [hi]
  simp only [R.bind_ok, lcL_at g f p hk h]
  rw [if_pos]
  · rfl
  · rw [List.length_map]; exact Nat.le_trans (List.length_filter_le _ _) (sz_le hz)
/-- a comprehension over told things -/
theorem mLc_at (xs : List α) (g f : α → Pv.D) (hi : mi sl st = .ok ⟨xs.map g, keep⟩ st) (hk : keep st) (hz : xs.length ≤ 1000)
    (h : ∀ x ∈ xs, ∃ sl2, ctSet t (g x) (wipeD sl vs) = some sl2 ∧ te sl2 st = .ok (f x) st) : mLc mi t tYesM te vs sl st = .ok (.list (xs.map f)) st := by
  have := mLc_if (tt := tYesM) xs g f (fun _ => true) hi hk hz fun x hx => let ⟨a, b, c⟩ := h x hx; ⟨a, b, rfl, fun _ => c⟩
  rw [this, List.filter_eq_self.mpr fun _ _ => rfl]
/-- a loop over told things that never ends early -/
theorem loop_at {fg : List Nat} {tg : MG} {body : MS} (xs : List α) (g : α → Pv.D) (h : ∀ x ∈ xs, ∃ sl', (tg (g x) sl st).thenS body = .nx sl' st ∧ wipeD sl' fg = sl) : forL always tg body fg (xs.map g) sl st = .nx sl st :=
  loop_all fun d hd => by obtain ⟨x, hx, rfl⟩ := List.mem_map.mp hd; exact h x hx
end
end Pv
set_option Elab.async false
set_option linter.all false
set_option maxRecDepth 100000
set_option maxHeartbeats 1000000
set_option pp.maxSteps 1500
namespace Pv
open PySem PySem.Spec L2
open PyProof.Rows hiding St signs cutD
section
variable {st : Sto} {n : Net}
abbrev Cl (x : Pv.D) : Prop := Ok x (2 ^ 24) 60
def isIntD : Pv.D → Bool | .int _ => true | _ => false
def isNumD : Pv.D → Bool | .int i => decide (0 ≤ i) | _ => false
theorem known_len (a b : Option Stamp) : (known a b).length ≤ 2 := by cases a <;> cases b <;> simp [known]
theorem dSO (s : Stamp) : dStampO (some s) = .tuple [.int s.1, .int s.2] := rfl
theorem dSN : dStampO none = .none := rfl
/-- the run's events are the cluster's -/
def Own (n : Net) (run : List Ev) : Prop := ∀ p ∈ run, hasH n p.h = true
/-- the store while the run is read: the latest stamps by host, all stamps -/
def rS (st : Sto) (lat : List (Key × Pv.D)) (sts : List Stamp) : Sto := (st ++ [.dct lat]) ++ [.lst (sts.map dStamp)]
theorem rS_0 (lat : List (Key × Pv.D)) (sts : List Stamp) : (rS st lat sts)[st.length]? = some (.dct lat) := by
  unfold rS; rw [List.getElem?_append_left (by simp), List.getElem?_append_right (Nat.le_refl _)]; simp
theorem rS_1 (lat : List (Key × Pv.D)) (sts : List Stamp) : (rS st lat sts)[st.length + 1]? = some (.lst (sts.map dStamp)) := by
  unfold rS; rw [List.getElem?_append_right (by simp)]; simp
theorem rS_put (lat : List (Key × Pv.D)) (sts : List Stamp) (h : Str) (d : Pv.D) (hz : lat.length < sizeLine) : setO (rS st lat sts) (Rf st.length) (.str h) d = some (rS st (putD lat (.inr h) d) sts) := by
  unfold setO
  simp only [Int.toNat_natCast, rS_0]
  simp [keyOf, hz, rS]
theorem rS_get (lat : List (Key × Pv.D)) (sts : List Stamp) (h : Str) (z : Pv.D) : fGet (Rf st.length) (.str h) z (rS st lat sts) = .ok ((lookD lat (.inr h)).getD z) (rS st lat sts) := by
  unfold fGet dlook
  simp only [Int.toNat_natCast, rS_0, keyOf, Option.map_some]
  cases lookD lat (.inr h) <;> rfl
theorem rS_isD (lat : List (Key × Pv.D)) (sts : List Stamp) : isDct (rS st lat sts) (Rf st.length) = true := by
  unfold isDct; simp only [Int.toNat_natCast, rS_0]
theorem rS_isL (lat : List (Key × Pv.D)) (sts : List Stamp) : isLst (rS st lat sts) (Rf (st.length + 1)) = true := by
  unfold isLst; simp only [Int.toNat_natCast, rS_1]
theorem rS_ix (lat : List (Key × Pv.D)) (sts : List Stamp) {l : Nat} {s : Stamp} (h : sts[l]? = some s) : fIx (Rf (st.length + 1)) (.int (l : Int)) (rS st lat sts) = .ok (dStamp s) (rS st lat sts) := by
  have e : deref (rS st lat sts) (Rf (st.length + 1)) = .list (sts.map dStamp) := by unfold deref; simp only [Int.toNat_natCast, rS_1]
  have i := ix_l (ds := sts.map dStamp) (j := l) (d := dStamp s) (st := rS st lat sts) (by rw [List.getElem?_map, h]; rfl)
  unfold fIx dlook at i ⊢
  simp only [Int.toNat_natCast, rS_1]
  simp only [on2] at i ⊢
  rw [e]
  exact i
theorem rS_app (lat : List (Key × Pv.D)) (sts : List Stamp) (s : Stamp) (hz : sts.length < sizeLine) : fApp (Rf (st.length + 1)) (dStamp s) (rS st lat sts) = .ok .none (rS st lat (sts ++ [s])) := by
  unfold fApp
  simp only [Int.toNat_natCast, rS_1]
  rw [if_pos (by rw [List.length_map]; exact hz)]
  congr 1
  unfold rS
  rw [List.set_append_right _ _ (by simp)]
  simp
/-- the slots while the run is read -/
def sl0 (n : Net) (all : List Pv.D) (st : Sto) : Sl := [some (dNet n), some (.tuple all), some (Rf st.length), some (Rf (st.length + 1)), none, none, none, none, none, none, none, none, none]
structure Inv (n : Net) (run : List Ev) (latF : Str → Option Stamp) (sts : List Stamp) (lat : List (Key × Pv.D)) : Prop where
  own : Own n run
  look : ∀ h, lookD lat (.inr h) = (latF h).map dStamp
  clean : ∀ p ∈ lat, p.2.canLay0 = true
  len : sts.length = run.length
  size : lat.length ≤ run.length
end
end Pv
set_option Elab.async false
set_option linter.all false
set_option maxRecDepth 100000
set_option maxHeartbeats 1000000
set_option pp.maxSteps 1500
namespace Pv
open PySem PySem.Spec L2
open PyProof.Rows hiding St signs cutD
section
variable {st : Sto} {n : Net}
/-- a def that returns a list of its own -/
theorem fin_list {st more : Sto} {r : Nat} {ds : List D} (h : StC st) (hr : st.length ≤ r) (e : (st ++ more)[r]? = some (.lst ds)) (hd : PyData.canLayAll0 ds = true) : finR st.length (.ok (Rf r) (st ++ more)) = .ok (.list ds) st := by
  have hlt := (List.getElem?_eq_some_iff.mp e).1
  unfold finR
  have hm : ¬ (st ++ more).length = st.length := by omega
  simp only [if_neg hm]
  have hz : fz (lookF 6 st.length (st ++ more)) (Rf r) = some (.list ds) := by
    show lookF 6 st.length (st ++ more) ((r : Int).toNat) = _
    rw [Int.toNat_natCast]
    unfold lookF
    rw [if_neg (by omega)]
    simp only [e]
    rw [fzL_clean ds hd]; rfl
  rw [hz, List.take_append_of_le_length (Nat.le_refl _), List.take_length, h]
def stL (n : Net) : List Ev → (Str → Option Stamp) → List Stamp → List (Option Stamp)
  | [], _, acc => acc.map some
  | e :: es, lat, acc => match nst n (lat e.h) (e.l.bind fun l => acc[l]?) e.r with
    | none => acc.map some ++ [none]
    | some s => stL n es (fun x => if x = e.h then some s else lat x) (acc ++ [s])
/-- the stamps of a run -/
def stp (n : Net) (run : List Ev) : List (Option Stamp) := stL n run (fun _ => none) []
/-- letters come of former events -/
def letB : Nat → List Ev → Bool
  | _, [] => true
  | k, e :: es => (match e.l with | none => true | some l => decide (l < k)) && letB (k + 1) es
theorem stO_lay (s : Option Stamp) : (dStampO s).canLay0 = true := by cases s <;> rfl
theorem stOs_lay (ss : List (Option Stamp)) : PyData.canLayAll0 (ss.map dStampO) = true := (layAll_iff _).mpr fun d hd => by
  obtain ⟨s, _, rfl⟩ := List.mem_map.mp hd; exact stO_lay s
theorem rS_appD (lat : List (Key × Pv.D)) (sts : List Stamp) (d : D) (hz : sts.length < sizeLine) : fApp (Rf (st.length + 1)) d (rS st lat sts) = .ok .none ((st ++ [.dct lat]) ++ [.lst (sts.map dStamp ++ [d])]) := by
  unfold fApp
  simp only [Int.toNat_natCast, rS_1]
  rw [if_pos (by rw [List.length_map]; exact hz)]
  congr 1
  unfold rS
  rw [List.set_append_right _ _ (by simp)]
  simp
@[simp] theorem fin_excN {x : XV} {st : Sto} : finR st.length (.exc x st) = .exc x st := by unfold finR; simp
theorem cl_int {i : Int} (h : i.natAbs < 10 ^ 62) : Cl (.int i) := ⟨rfl, by unfold Pv.wt; rw [if_pos h]; decide, Nat.zero_le _⟩
theorem mul_kr {i k : Int} (h : k.natAbs < 2 ^ 63) : dMulS (.int i) (.int k) = some (.int (i * k)) := if_pos (.inr (by omega))
end
end Pv
namespace Pv
open PySem PySem.Spec L2
open PyProof.Rows hiding St signs cutD
theorem stL_all (n : Net) : ∀ (es : List Ev) (lat : Str → Option Stamp) (acc ss : List Stamp), stL n es lat acc = ss.map some → ss.length = acc.length + es.length
  | [], _, acc, ss, h => by
    unfold stL at h
    have := congrArg List.length h
    simpa using this.symm
  | e :: es, lat, acc, ss, h => by
    unfold stL at h
    split at h
    · have : (none : Option Stamp) ∈ ss.map some := by rw [← h]; simp
      simp at this
    · have := stL_all n es _ _ ss h
      simp only [List.length_append, List.length_cons, List.length_nil] at this ⊢
      omega
theorem stp_len {n : Net} {es : List Ev} {ss : List Stamp} (h : stp n es = ss.map some) : ss.length = es.length := by
  have := stL_all n es _ _ ss h
  simpa using this
theorem inR_nat {k : Nat} (h : k ≤ 100000) : inR62 (k : Int) = true := decide_eq_true ⟨by omega, by omega⟩
theorem mrng1_f {a : M} {sl : Sl} {st st1 : Sto} {x : D} (h1 : a sl st = .ok x st1) : mRng1 a sl st = fRng1 x st1 := by unfold mRng1; rw [h1]; rfl
theorem frng1_n {k : Nat} (hk : k ≤ 100000) (st : Sto) : fRng1 (.int (k : Int)) st = .ok ⟨rngD 0 k, always⟩ st := by
  have e := inR_nat hk
  show (if inR62 (k : Int) = true then R.ok (Src.mk (rngD 0 (k : Int).toNat) always) st else .bad) = _
  rw [if_pos e]
  rfl
theorem rng1_eq {a : M} {sl : Sl} {st st' : Sto} {k : Nat} (h : a sl st = .ok (.int (k : Int)) st') (hk : k ≤ 100000) : mRng1 a sl st = .ok ⟨rngD 0 k, always⟩ st' := (mrng1_f h).trans (frng1_n hk st')
theorem mul_lst {ds : List D} {k : Nat} (hk : k ≤ 1000) (hl : ds.length * k ≤ 1000) : dMulS (.list ds) (.int (k : Int)) = some (.list (List.replicate k ds).flatten) := by
  have h3 : ds.length * (k : Int).toNat ≤ sizeLine := sz_le hl
  unfold dMulS
  dsimp only
  rw [if_pos ⟨by omega, by omega, h3⟩, Int.toNat_natCast]
end Pv
set_option Elab.async false
set_option linter.all false
set_option maxRecDepth 100000
set_option maxHeartbeats 1000000
set_option pp.maxSteps 1500
namespace Pv
open PySem PySem.Spec L2
open PyProof.Rows hiding St signs cutD pairD
theorem Ok.tup {ds : List D} {m k c : Nat} (h : ∀ d ∈ ds, Ok d m k) (hc : ds.length ≤ c) : Ok (.tuple ds) ((m + 4) * c + 4) (k + 1) := by
  refine ⟨(layAll_iff _).mpr fun d hd => (h d hd).lay, ?_, ?_⟩
  · have h1 : wtL ds ≤ (m + 4) * ds.length := wtL_le fun d hd => (h d hd).wt
    have h2 : (m + 4) * ds.length ≤ (m + 4) * c := Nat.mul_le_mul_left _ hc
    show wtL ds + 4 ≤ _
    omega
  · show PyData.depthAll ds + 1 ≤ k + 1
    have := (depthAll_le ds k).mpr fun d hd => (h d hd).dp
    omega
theorem Ok.lst {ds : List D} {m k c : Nat} (h : ∀ d ∈ ds, Ok d m k) (hc : ds.length ≤ c) : Ok (.list ds) ((m + 4) * c + 4) (k + 1) := by
  refine ⟨(layAll_iff _).mpr fun d hd => (h d hd).lay, ?_, ?_⟩
  · have h1 : wtL ds ≤ (m + 4) * ds.length := wtL_le fun d hd => (h d hd).wt
    have h2 : (m + 4) * ds.length ≤ (m + 4) * c := Nat.mul_le_mul_left _ hc
    show wtL ds + 4 ≤ _
    omega
  · show PyData.depthAll ds + 1 ≤ k + 1
    have := (depthAll_le ds k).mpr fun d hd => (h d hd).dp
    omega
theorem ok_int {i : Int} (h : i.natAbs < 10 ^ 62) : Ok (.int i) 64 0 := ⟨rfl, by unfold Pv.wt; rw [if_pos h]; exact Nat.le_refl _, Nat.le_refl _⟩
theorem ok_str {z : Str} {c : Nat} (h : (PyData.str z).canLay0 = true) (hz : z.length ≤ c) : Ok (.str z) (10 * c + 4) 0 := ⟨h, by show 10 * z.length + 4 ≤ _; omega, Nat.le_refl _⟩
theorem ok_none : Ok .none 64 0 := ⟨rfl, by decide, Nat.le_refl _⟩
structure EvS (e : Ev) : Prop where
  lay : (PyData.str e.h).canLay0 = true
  hl : e.h.length ≤ 20
  t : e.t.natAbs < 10 ^ 60
  r : e.r.natAbs < 10 ^ 60
  l : ∀ l, e.l = some l → l < 10 ^ 60
theorem EvS.ok {e : Ev} (h : EvS e) : Ok (dEv e) 600 1 := by
  have hl : Ok (dLet e.l) 64 0 := by
    cases hq : e.l with
    | none => exact ok_none
    | some l => have := h.l l hq; exact ok_int (by omega)
  have h1 := ok_str h.lay h.hl
  have := Ok.tup (ds := [.str e.h, .int e.t, .int e.r, dLet e.l]) (m := 140 + 64) (k := 0) (c := 4) (fun d hd => by
    simp only [List.mem_cons, List.not_mem_nil, or_false] at hd
    rcases hd with rfl | rfl | rfl | rfl
    · exact h1.mono (by decide) (Nat.le_refl _)
    · exact (ok_int (by have := h.t; omega)).mono (by decide) (Nat.le_refl _)
    · exact (ok_int (by have := h.r; omega)).mono (by decide) (Nat.le_refl _)
    · exact hl.mono (by decide) (Nat.le_refl _)) (Nat.le_refl _)
  refine ⟨this.lay, ?_, this.dp⟩
  show wtL [.str e.h, .int e.t, .int e.r, dLet e.l] + 4 ≤ 600
  have a1 := h1.wt
  have a2 := (ok_int (i := e.t) (by have := h.t; omega)).wt
  have a3 := (ok_int (i := e.r) (by have := h.r; omega)).wt
  have a4 := hl.wt
  simp only [wtL]
  omega
theorem run_ok {es : List Ev} (h : ∀ e ∈ es, EvS e) {c : Nat} (hc : es.length ≤ c) : Ok (.tuple (es.map dEv)) (604 * c + 4) 2 :=
  Ok.tup (fun d hd => by obtain ⟨e, he, rfl⟩ := List.mem_map.mp hd; exact (h e he).ok) (by rw [List.length_map]; exact hc)
end Pv
set_option Elab.async false
set_option linter.all false
set_option maxRecDepth 100000
set_option maxHeartbeats 1000000
set_option pp.maxSteps 1500
namespace Pv
open PySem PySem.Spec L2
open PyProof.Rows hiding St signs cutD pairD
theorem rngD_eq (k : Nat) : rngD 0 k = (List.range k).map fun (j : Nat) => PyData.int (j : Int) := by
  unfold rngD
  apply List.map_congr_left
  intro j _
  rw [Int.zero_add]
theorem rngD_from (a n : Nat) : rngD (a : Int) n = (List.range' a n).map fun (j : Nat) => PyData.int (j : Int) := by
  unfold rngD
  rw [List.range'_eq_map_range, List.map_map]
  apply List.map_congr_left
  intro j _
  show PyData.int ((a : Int) + (j : Int)) = PyData.int ((a + j : Nat) : Int)
  rw [Int.natCast_add]
theorem mrng2_f {a b : M} {sl : Sl} {st st1 st2 : Sto} {x y : D} (h1 : a sl st = .ok x st1) (h2 : b sl st1 = .ok y st2) : mRng2 a b sl st = fRng2 x y st2 := by
  unfold mRng2; rw [h1]; show (b sl st1).bind _ = _; rw [h2]; rfl
theorem frng2_n {i j : Nat} (hi : i ≤ 100000) (hj : j ≤ 100000) (st : Sto) : fRng2 (.int (i : Int)) (.int (j : Int)) st = .ok ⟨rngD (i : Int) (j - i), always⟩ st := by
  have e1 := inR_nat hi
  have e2 := inR_nat hj
  show (if inR62 (i : Int) = true ∧ inR62 (j : Int) = true then R.ok (Src.mk (rngD (i : Int) ((j : Int) - (i : Int)).toNat) always) st else .bad) = _
  rw [if_pos ⟨e1, e2⟩, show ((j : Int) - (i : Int)).toNat = j - i by omega]
/-- range(a, b), as numbers -/
theorem rng2_at {a b : M} {sl : Sl} {st st1 st2 : Sto} {i j : Nat} (h1 : a sl st = .ok (.int (i : Int)) st1) (h2 : b sl st1 = .ok (.int (j : Int)) st2) (hi : i ≤ 100000) (hj : j ≤ 100000) : mRng2 a b sl st = .ok ⟨(List.range' i (j - i)).map fun (k : Nat) => PyData.int (k : Int), always⟩ st2 := by
  rw [mrng2_f h1 h2, frng2_n hi hj, rngD_from]
theorem rng1_at {a : M} {sl : Sl} {st st' : Sto} {k : Nat} (h : a sl st = .ok (.int (k : Int)) st') (hk : k ≤ 100000) : mRng1 a sl st = .ok ⟨(List.range k).map fun (j : Nat) => PyData.int (j : Int), always⟩ st' := by
  rw [rng1_eq h hk, rngD_eq]
theorem ix_lastL {ds : List D} {d : D} {st : Sto} (h : ds.getLast? = some d) : fIx (.list ds) (.int (-1)) st = .ok d st := by
  have hne : ds ≠ [] := by intro e; subst e; cases h
  have hp : 0 < ds.length := List.length_pos_iff.mpr hne
  have e : dIx (.list ds) (.int (-1)) = some d := by
    show atI ds (-1) = _
    unfold atI ixN
    rw [if_neg (by omega), if_pos (by omega)]
    rw [List.getLast?_eq_getElem?] at h
    simp only [Option.bind_some]
    rw [← h]
    congr 1
    omega
  unfold fIx dlook
  simp [e]
theorem ints_layD (l : List Nat) : PyData.canLayAll0 (l.map fun (j : Nat) => PyData.int (j : Int)) = true := (layAll_iff _).mpr fun d hd => by obtain ⟨j, _, rfl⟩ := List.mem_map.mp hd; rfl
theorem ints_depth (l : List Nat) : PyData.depthAll (l.map fun (j : Nat) => PyData.int (j : Int)) ≤ 0 := (depthAll_le _ _).mpr fun d hd => by obtain ⟨j, _, rfl⟩ := List.mem_map.mp hd; exact Nat.le_refl _
def memN (f : List Nat) (j : Nat) : Bool := f.contains j
theorem any_ints (l : List Nat) (j : Nat) : ((l.map fun (i : Nat) => PyData.int (i : Int)).any fun z => PyData.eqv z (.int (j : Int))) = memN l j := by
  unfold memN
  rw [List.any_map]
  induction l with
  | nil => rfl
  | cons a l ih =>
    rw [List.any_cons, ih, List.contains_cons]
    congr 1
    show decide ((a : Int) = (j : Int)) = (j == a)
    by_cases h : j = a
    · subst h; simp
    · have : ¬ ((a : Int) = (j : Int)) := by omega
      simp [h, this]
/-- in, of a list of whole numbers -/
theorem in_ints (l : List Nat) (j : Nat) : dCmp .In (.int (j : Int)) (.list (l.map fun (i : Nat) => PyData.int (i : Int))) = some (.bool (memN l j)) := by
  rw [in_lst rfl (ints_layD l) (by have := ints_depth l; show min _ 0 ≤ 64; omega), any_ints]
def sameH (es : List Ev) (j k : Nat) : Bool := match es[j]?, es[k]? with | some p, some e => p.h == e.h | _, _ => false
def lastBy (es : List Ev) (k : Nat) : Option Nat := ((List.range k).filter fun j => sameH es j k).getLast?
def causes (es : List Ev) (k : Nat) : List Nat := (lastBy es k).toList ++ (match es[k]? with | some e => e.l.toList | none => [])
end Pv
namespace Pv
open PySem PySem.Spec L2
open PyProof.Rows hiding St signs cutD pairD
/-- the thing is an index of a list of that length -/
def isIdx (n : Nat) : D → Bool
  | .int i => decide (0 ≤ i) && decide (i < (n : Int))
  | _ => false
theorem idx_no {n : Nat} {i : Int} (h : i < 0 ∨ (n : Int) ≤ i) : isIdx n (.int i) = false := by
  show (decide (0 ≤ i) && decide (i < (n : Int))) = false
  rcases h with h | h
  · rw [decide_eq_false (by omega)]; rfl
  · rw [decide_eq_false (p := i < (n : Int)) (by omega), Bool.and_false]
end Pv
set_option Elab.async false
set_option linter.all false
set_option maxRecDepth 100000
set_option maxHeartbeats 1000000
set_option pp.maxSteps 1500
namespace Pv
open PySem PySem.Spec L2
open PyProof.Rows hiding St signs cutD pairD
theorem forL_invK {keep : Sto → Prop} [DecidablePred keep] {tg : MG} {body : MS} {fg : List Nat} (I : Nat → Sl → Sto → Prop) (hk : ∀ st, keep st) : ∀ {ds : List D} {k : Nat} {sl : Sl} {st : Sto}, I k sl st →
    (∀ (j : Nat) (d : D) (sl : Sl) (st : Sto), ds[j]? = some d → I (k + j) sl st → ∃ sl' st', (tg d sl st).thenS body = .nx sl' st' ∧ I (k + j + 1) (wipeD sl' fg) st') → ∃ sl' st', forL keep tg body fg ds sl st = .nx sl' st' ∧ I (k + ds.length) sl' st'
  | [], k, sl, st, h, _ => ⟨sl, st, by unfold forL; rw [if_pos (hk st)], h⟩
  | d :: ds, k, sl, st, h, hs => by
    obtain ⟨sl', st', e, i⟩ := hs 0 d sl st rfl h
    obtain ⟨sl2, st2, e2, i2⟩ := forL_invK I hk (ds := ds) (k := k + 1) i fun j x sl st hx hi => by
      have := hs (j + 1) x sl st hx (by rw [show k + (j + 1) = k + 1 + j by omega]; exact hi)
      rw [show k + (j + 1) + 1 = k + 1 + j + 1 by omega] at this
      exact this
    refine ⟨sl2, st2, ?_, by rw [List.length_cons, show k + (ds.length + 1) = k + 1 + ds.length by omega]; exact i2⟩
    unfold forL
    rw [if_pos (hk st), e]
    exact e2
section
variable {α : Type} {keep : Sto → Prop} [DecidablePred keep] {t : CT} {tt : MT} {te : M} {mi : MI} {vs : List Nat} {sl : Sl} {st : Sto}
theorem lcL_inv (I : Sto → Prop) (g f : α → D) (hk : ∀ st, keep st) : ∀ (xs : List α) {st : Sto}, I st →
    (∀ x ∈ xs, ∀ st, I st → ∃ sl2 b st1, ctSet t (g x) sl = some sl2 ∧ tt sl2 st = .ok b st1 ∧ I st1 ∧ (b = true → te sl2 st1 = .ok (f x) st1)) →
    ∃ (zs : List α) (st' : Sto), lcL keep t tt te sl (xs.map g) st = .ok (zs.map f) st' ∧ zs.Sublist xs ∧ I st'
  | [], st, hi, _ => ⟨[], st, by rw [List.map_nil]; unfold lcL; rw [if_pos (hk st)]; rfl, List.Sublist.slnil, hi⟩
  | x :: xs, st, hi, h => by
    obtain ⟨sl2, b, st1, h1, h2, h3, h4⟩ := h x List.mem_cons_self st hi
    obtain ⟨zs, st', e, s, i⟩ := lcL_inv I g f hk xs h3 fun y hy => h y (List.mem_cons_of_mem _ hy)
    rw [List.map_cons]
    cases b with
    | true =>
      refine ⟨x :: zs, st', ?_, s.cons_cons x, i⟩
      unfold lcL
      rw [if_pos (hk st), h1]
      simp only [h2, h4 rfl, e, List.map_cons]
    | false =>
      refine ⟨zs, st', ?_, s.cons x, i⟩
      unfold lcL
      rw [if_pos (hk st), h1]
      simp only [h2, e]
theorem mLc_inv (I : Sto → Prop) (xs : List α) (g f : α → D) (hi : mi sl st = .ok ⟨xs.map g, keep⟩ st) (hk : ∀ st, keep st) (hz : xs.length ≤ 1000) (h0 : I st)
    (h : ∀ x ∈ xs, ∀ st, I st → ∃ sl2 b st1, ctSet t (g x) (wipeD sl vs) = some sl2 ∧ tt sl2 st = .ok b st1 ∧ I st1 ∧ (b = true → te sl2 st1 = .ok (f x) st1)) :
    ∃ (zs : List α) (st' : Sto), mLc mi t tt te vs sl st = .ok (.list (zs.map f)) st' ∧ zs.Sublist xs ∧ I st' := by
  obtain ⟨zs, st', e, s, i⟩ := lcL_inv (sl := wipeD sl vs) (t := t) (tt := tt) (te := te) I g f hk xs h0 h
  refine ⟨zs, st', ?_, s, i⟩
  unfold mLc lcR
  rw [hi]
  simp only [R.bind_ok, e]
  rw [if_pos]
  · rfl
  · rw [List.length_map]; exact Nat.le_trans s.length_le (sz_le hz)
end
structure HostD (x : Host) : Prop where
  s0 : 0 ≤ x.s
  s1 : x.s ≤ 60
  f0 : 0 ≤ x.f
  f1 : x.f ≤ 60
  r0 : 1 ≤ x.r
  r1 : x.r ≤ 4
abbrev Road := Str × Str × Int
structure RoadsD (ts : List Str) (k : Nat) (rs : List Road) : Prop where
  mem : ∀ r ∈ rs, r.1 ∈ ts.take k ∧ r.2.1 ∈ ts ∧ r.1 ≠ r.2.1 ∧ 0 ≤ r.2.2 ∧ r.2.2 ≤ 60
  nd : (rs.map fun r => (r.1, r.2.1)).Nodup
  len : rs.length ≤ 4 * k
def poolsS : List (List Str) := [["a", "b", "c", "d"], ["amy", "bob", "cid", "dan"], ["x", "xx", "y", "yx"], ["host", "most", "road", "rule"]]
def PoolOk (p : List Str) : Prop := p.length ≤ 4 ∧ p.Nodup ∧ ∀ x ∈ p, (PyData.str x).canLay0 = true ∧ x.length ≤ 8
structure NetD (n : Net) : Prop where
  ts : ∃ p, PoolOk p ∧ (n.hosts.map (·.n)).Sublist p
  ne : n.hosts ≠ []
  hosts : ∀ x ∈ n.hosts, HostD x
  roads : RoadsD (n.hosts.map (·.n)) n.hosts.length n.roads
  most : ∀ k, n.most = some k → 0 ≤ k ∧ k ≤ 2000
  rule : n.rule = "more" ∨ n.rule = "wait"
  none : n.most = none → n.rule = "wait"
theorem pool_all : ∀ p ∈ poolsS, p.length = 4 ∧ p.Nodup ∧ ∀ x ∈ p, (PyData.str x).canLay0 = true ∧ x.length ≤ 4 := by decide +kernel
theorem NetD.names {n : Net} (h : NetD n) : (n.hosts.map (·.n)).Nodup ∧ n.hosts.length ≤ 4 ∧ ∀ x ∈ n.hosts, (PyData.str x.n).canLay0 = true ∧ x.n.length ≤ 8 := by
  obtain ⟨p, hp, hs⟩ := h.ts
  obtain ⟨h1, h2, h3⟩ := hp
  refine ⟨h2.sublist hs, ?_, fun x hx => h3 _ (hs.subset (List.mem_map.mpr ⟨x, hx, rfl⟩))⟩
  have := hs.length_le
  rw [List.length_map] at this
  omega
theorem NetD.ok {n : Net} (h : NetD n) : NetOk n := by
  obtain ⟨h1, h2, h3⟩ := h.names
  have hm : ∀ a ∈ n.hosts.map (·.n), (PyData.str a).canLay0 = true := fun a ha => by
    obtain ⟨x, hx, rfl⟩ := List.mem_map.mp ha
    exact (h3 x hx).1
  refine ⟨by omega, by have := h.roads.len; omega, fun x hx => ⟨by have := (h3 x hx).2; omega, (h3 x hx).1⟩, fun r hr => ?_⟩
  obtain ⟨a, b, _⟩ := h.roads.mem r hr
  exact ⟨hm _ (List.mem_of_mem_take a), hm _ b⟩
theorem NetD.sized {n : Net} (h : NetD n) : Ok (dNet n) (2 ^ 14) 4 := by
  obtain ⟨h1, h2, h3⟩ := h.names
  have hm : ∀ a ∈ n.hosts.map (·.n), (PyData.str a).canLay0 = true ∧ a.length ≤ 8 := fun a ha => by
    obtain ⟨x, hx, rfl⟩ := List.mem_map.mp ha
    exact h3 x hx
  have oh : ∀ x ∈ n.hosts, Ok (dHost x) 420 1 := fun x hx => by
    have hd := h.hosts x hx
    have := Ok.tup (ds := [.str x.n, .int x.s, .int x.f, .int x.r]) (m := 96) (k := 0) (c := 4) (fun d hd2 => by
      simp only [List.mem_cons, List.not_mem_nil, or_false] at hd2
      rcases hd2 with rfl | rfl | rfl | rfl
      · exact (ok_str (h3 x hx).1 (h3 x hx).2).mono (by decide) (Nat.le_refl _)
      · exact (ok_int (by have := hd.s0; have := hd.s1; omega)).mono (by decide) (Nat.le_refl _)
      · exact (ok_int (by have := hd.f0; have := hd.f1; omega)).mono (by decide) (Nat.le_refl _)
      · exact (ok_int (by have := hd.r0; have := hd.r1; omega)).mono (by decide) (Nat.le_refl _)) (Nat.le_refl _)
    exact this.mono (by decide) (Nat.le_refl _)
  have or_ : ∀ r ∈ n.roads, Ok (dRoad r) 420 1 := fun r hr => by
    obtain ⟨a, b, c, d0, d1⟩ := h.roads.mem r hr
    have := Ok.tup (ds := [.str r.1, .str r.2.1, .int r.2.2]) (m := 96) (k := 0) (c := 3) (fun d hd2 => by
      simp only [List.mem_cons, List.not_mem_nil, or_false] at hd2
      rcases hd2 with rfl | rfl | rfl
      · have := hm _ (List.mem_of_mem_take a); exact (ok_str this.1 this.2).mono (by decide) (Nat.le_refl _)
      · have := hm _ b; exact (ok_str this.1 this.2).mono (by decide) (Nat.le_refl _)
      · exact (ok_int (by omega)).mono (by decide) (Nat.le_refl _)) (Nat.le_refl _)
    exact this.mono (by decide) (Nat.le_refl _)
  have o1 := Ok.tup (ds := n.hosts.map dHost) (m := 420) (k := 1) (c := 4) (fun d hd => by obtain ⟨x, hx, rfl⟩ := List.mem_map.mp hd; exact oh x hx) (by rw [List.length_map]; exact h2)
  have o2 := Ok.tup (ds := n.roads.map dRoad) (m := 420) (k := 1) (c := 16) (fun d hd => by obtain ⟨x, hx, rfl⟩ := List.mem_map.mp hd; exact or_ x hx) (by rw [List.length_map]; have := h.roads.len; omega)
  have o3 : Ok (dOpt n.most) 64 0 := by
    cases hm : n.most with
    | none => exact ok_none
    | some k => have := h.most k hm; exact ok_int (by omega)
  have o4 : Ok (.str n.rule) 64 0 := by rcases h.rule with e | e <;> rw [e] <;> exact (ok_str (c := 6) (by decide +kernel) (by decide)).mono (by decide) (Nat.le_refl _)
  have := Ok.tup (ds := [.tuple (n.hosts.map dHost), .tuple (n.roads.map dRoad), dOpt n.most, .str n.rule]) (m := 8000) (k := 2) (c := 3 + 1) (fun d hd => by
    simp only [List.mem_cons, List.not_mem_nil, or_false] at hd
    rcases hd with rfl | rfl | rfl | rfl
    · exact o1.mono (by decide) (by decide)
    · exact o2.mono (by decide) (by decide)
    · exact o3.mono (by decide) (by decide)
    · exact o4.mono (by decide) (by decide)) (Nat.le_refl _)
  refine ⟨this.lay, ?_, Nat.le_trans this.dp (by decide)⟩
  have w1 := o1.wt; have w2 := o2.wt; have w3 := o3.wt; have w4 := o4.wt
  show wtL [.tuple (n.hosts.map dHost), .tuple (n.roads.map dRoad), dOpt n.most, .str n.rule] + 4 ≤ 2 ^ 14
  simp only [wtL]
  omega
end Pv
set_option Elab.async false
set_option linter.all false
set_option maxRecDepth 100000
set_option maxHeartbeats 1000000
set_option pp.maxSteps 1500
namespace Pv
open PySem PySem.Spec L2
open PyProof.Rows hiding St signs cutD pairD
def nstK (n : Net) (ks : List Stamp) (rd : Int) : Option Stamp :=
  let m := mark ks rd
  if m < rd then some (rd, 0) else
    let c := 1 + (maxI ((ks.filter fun s => decide (s.1 = m)).map (·.2))).getD 0
    if (match n.most with | none => true | some k => decide (c ≤ k)) = true then some (m, c) else if n.rule == "more" then some (m + 1, 0) else none
theorem nst_K (n : Net) (a b : Option Stamp) (rd : Int) : nst n a b rd = nstK n (known a b) rd := rfl
def lastIdx (es : List Ev) (h : Str) : Option Nat := ((List.range es.length).filter fun j => (es[j]?.map (·.h)) == some h).getLast?
theorem lastIdx_lt {es : List Ev} {h : Str} {j : Nat} (e : lastIdx es h = some j) : j < es.length ∧ es[j]?.map (·.h) = some h := by
  unfold lastIdx at e
  obtain ⟨a, b⟩ := List.mem_filter.mp (List.mem_of_getLast? e)
  exact ⟨List.mem_range.mp a, by simpa using b⟩
theorem lastIdx_cons (e : Ev) (es : List Ev) (h : Str) : lastIdx (e :: es) h = (match lastIdx es h with | some j => some (j + 1) | none => if e.h = h then some 0 else none) := by
  unfold lastIdx
  rw [List.length_cons, List.range_succ_eq_map, List.filter_cons, List.filter_map]
  have e1 : ((fun j => ((e :: es)[j]?.map (·.h)) == some h) ∘ Nat.succ) = fun j => (es[j]?.map (·.h)) == some h := rfl
  rw [e1]
  generalize (List.range es.length).filter (fun j => (es[j]?.map (·.h)) == some h) = l
  cases hg : l.getLast? with
  | none =>
    have : l = [] := List.getLast?_eq_none_iff.mp hg
    subst this
    by_cases he : e.h = h
    · simp [he]
    · simp [he]
  | some j =>
    have hm : (l.map Nat.succ).getLast? = some (j + 1) := by rw [List.getLast?_map, hg]; rfl
    have hne : l.map Nat.succ ≠ [] := fun z => by rw [z] at hm; cases hm
    split
    · rw [List.getLast?_cons, hm]; rfl
    · exact hm
theorem lastIdx_snoc (run : List Ev) (e : Ev) : lastBy (run ++ [e]) run.length = lastIdx run e.h := by
  unfold lastBy lastIdx
  congr 1
  refine List.filter_congr fun j hj => ?_
  have hj' := List.mem_range.mp hj
  unfold sameH
  rw [List.getElem?_append_left hj', List.getElem?_append_right (Nat.le_refl _), Nat.sub_self]
  rw [List.getElem?_eq_getElem hj']
  rfl
theorem stL_pre (n : Net) : ∀ (es : List Ev) (lat : Str → Option Stamp) (acc ss : List Stamp), stL n es lat acc = ss.map some → ∃ t, ss = acc ++ t
  | [], _, acc, ss, h => by
    unfold stL at h
    refine ⟨[], ?_⟩
    have : ss = acc := (List.map_inj_right fun a b h => Option.some.inj h).mp h.symm
    simpa using this
  | e :: es, lat, acc, ss, h => by
    unfold stL at h
    split at h
    · have : (none : Option Stamp) ∈ ss.map some := by rw [← h]; simp
      simp at this
    · rename_i s _
      obtain ⟨t, ht⟩ := stL_pre n es _ _ ss h
      exact ⟨s :: t, by rw [ht]; simp⟩
theorem stL_snoc (n : Net) (e : Ev) : ∀ (es : List Ev) (lat : Str → Option Stamp) (acc ss : List Stamp), stL n es lat acc = ss.map some →
    ∃ lat' : Str → Option Stamp, stL n (es ++ [e]) lat acc = (match nst n (lat' e.h) (e.l.bind fun l => ss[l]?) e.r with | none => ss.map some ++ [none] | some s => (ss ++ [s]).map some) ∧
      ∀ h, lat' h = (match lastIdx es h with | some j => ss[acc.length + j]? | none => lat h)
  | [], lat, acc, ss, h => by
    unfold stL at h
    have : ss = acc := (List.map_inj_right fun a b h => Option.some.inj h).mp h.symm
    subst this
    refine ⟨lat, ?_, fun h => rfl⟩
    rw [List.nil_append]
    unfold stL
    cases nst n (lat e.h) (e.l.bind fun l => ss[l]?) e.r with
    | none => rfl
    | some s => rfl
  | e0 :: es, lat, acc, ss, h => by
    unfold stL at h
    split at h
    · have : (none : Option Stamp) ∈ ss.map some := by rw [← h]; simp
      simp at this
    · rename_i s0 h0
      obtain ⟨t, ht⟩ := stL_pre n es _ _ ss h
      obtain ⟨lat', q1, q2⟩ := stL_snoc n e es _ _ ss h
      refine ⟨lat', ?_, fun x => ?_⟩
      · rw [List.cons_append]
        conv => lhs; unfold stL
        rw [h0]
        exact q1
      · rw [q2 x, lastIdx_cons]
        cases hx : lastIdx es x with
        | some j =>
          simp only
          rw [List.length_append, List.length_cons, List.length_nil, show acc.length + (0 + 1) + j = acc.length + (j + 1) by omega]
        | none =>
          simp only
          by_cases he : x = e0.h
          · subst he
            rw [if_pos rfl, if_pos rfl]
            simp only
            rw [ht, Nat.add_zero]
            simp
          · rw [if_neg he, if_neg (fun z => he z.symm)]
/-- the stamps with one event more, as a law reckons it -/
theorem stp_snoc {n : Net} {run : List Ev} {ss : List Stamp} (h : stp n run = ss.map some) (e : Ev) (hl : ∀ l, e.l = some l → l < run.length) :
    stp n (run ++ [e]) = (match nstK n ((causes (run ++ [e]) run.length).map fun j => ss.getD j (0, 0)) e.r with | none => ss.map some ++ [none] | some s => (ss ++ [s]).map some) := by
  obtain ⟨lat', q1, q2⟩ := stL_snoc n e run (fun _ => none) [] ss h
  have slen := stp_len h
  have hc : causes (run ++ [e]) run.length = (lastIdx run e.h).toList ++ e.l.toList := by
    unfold causes
    rw [lastIdx_snoc, List.getElem?_append_right (Nat.le_refl _), Nat.sub_self]
    rfl
  have hk : (causes (run ++ [e]) run.length).map (fun j => ss.getD j (0, 0)) = known (lat' e.h) (e.l.bind fun l => ss[l]?) := by
    rw [hc, q2 e.h]
    unfold known
    rw [List.map_append]
    congr 1
    · cases hx : lastIdx run e.h with
      | none => rfl
      | some j =>
        have hj := (lastIdx_lt hx).1
        have e1 : ss[j]? = some ss[j] := List.getElem?_eq_getElem (by omega)
        simp [e1]
    · cases hx : e.l with
      | none => rfl
      | some l =>
        have hj := hl l hx
        have e1 : ss[l]? = some ss[l] := List.getElem?_eq_getElem (by omega)
        simp [e1]
  rw [hk, ← nst_K]
  exact q1
def Valid (n : Net) (run : List Ev) : Prop := ∀ (i : Nat) (e : Ev), run[i]? = some e → ff n (run.take i) (dEv e) = none
theorem Valid.nil (n : Net) : Valid n [] := fun i e h => by simp at h
theorem Valid.snoc {n : Net} {run : List Ev} {e : Ev} (h : Valid n run) (he : ff n run (dEv e) = none) : Valid n (run ++ [e]) := fun i x hx => by
  by_cases hi : i < run.length
  · rw [List.getElem?_append_left hi] at hx
    rw [List.take_append_of_le_length (by omega)]
    exact h i x hx
  · rw [List.getElem?_append_right (by omega)] at hx
    have h0 : i - run.length = 0 := by
      cases hq : i - run.length with
      | zero => rfl
      | succ k => rw [hq] at hx; simp at hx
    rw [h0] at hx
    cases hx
    rw [show i = run.length by omega, List.take_left]
    exact he
theorem evOf_dEv {n : Net} {e : Ev} (h : hasH n e.h = true) : evOf n (dEv e) = some e := by
  obtain ⟨x, t, r, l⟩ := e
  unfold evOf dEv
  simp only
  rw [if_pos h]
  cases l with
  | none => rfl
  | some l => simp [dLet]
theorem find_unique {α β : Type} [BEq β] [LawfulBEq β] (f : α → β) : ∀ {l : List α}, (l.map f).Nodup → ∀ {x : α}, x ∈ l → l.find? (fun y => f y == f x) = some x
  | [], _, _, h => by cases h
  | a :: l, hn, x, h => by
    rw [List.map_cons, List.nodup_cons] at hn
    rw [List.find?_cons]
    rcases List.mem_cons.mp h with e | e
    · subst e; simp
    · have hne : ¬ f a = f x := fun z => hn.1 (List.mem_map.mpr ⟨x, e, z.symm⟩)
      rw [beq_eq_false_iff_ne.mpr hne]
      exact find_unique f hn.2 e
theorem nodup_reverse {α β : Type} (f : α → β) {l : List α} (h : (l.map f).Nodup) : (l.reverse.map f).Nodup := by
  rw [List.map_reverse]
  exact List.pairwise_reverse.mpr (List.Pairwise.imp (fun {a b} hab hba => hab hba.symm) h)
theorem clk_mem {n : Net} (h : (n.hosts.map (·.n)).Nodup) {x : Host} (hx : x ∈ n.hosts) : clk n x.n = some x :=
  find_unique (fun y : Host => y.n) (nodup_reverse _ h) (List.mem_reverse.mpr hx)
theorem hasH_mem {n : Net} {x : Host} (hx : x ∈ n.hosts) : hasH n x.n = true := List.any_eq_true.mpr ⟨x, hx, by simp⟩
def firstLeast (n : Net) (a b : Str) : Option Int := (n.roads.find? fun x => x.1 == a && x.2.1 == b).map (·.2.2)
theorem least_first {n : Net} (h : (n.roads.map fun r => (r.1, r.2.1)).Nodup) (a b : Str) : leastOf n a b = firstLeast n a b := by
  unfold leastOf firstLeast
  congr 1
  cases hf : n.roads.find? (fun x => x.1 == a && x.2.1 == b) with
  | none =>
    rw [List.find?_eq_none] at hf ⊢
    exact fun x hx => hf x (List.mem_reverse.mp hx)
  | some r =>
    have h1 := List.find?_some hf
    have h2 := List.mem_of_find?_eq_some hf
    rw [Bool.and_eq_true, beq_iff_eq, beq_iff_eq] at h1
    obtain ⟨rfl, rfl⟩ := h1
    exact find_unique (fun r : Road => (r.1, r.2.1)) (nodup_reverse _ h) (List.mem_reverse.mpr h2)
def lettersOf (n : Net) (es : List Ev) (title : Str) (tick : Int) : List Nat := (List.range es.length).filter fun j => match es[j]? with
  | some p => (match firstLeast n p.h title with | some k => decide (k ≤ tick - p.t) | none => false)
  | none => false
theorem letters_pl {n : Net} (h : (n.roads.map fun r => (r.1, r.2.1)).Nodup) {run : List Ev} {e : Ev} {l : Nat} (hl : l ∈ lettersOf n run e.h e.t) : l < run.length ∧ pl n run e l = true := by
  obtain ⟨a, b⟩ := List.mem_filter.mp hl
  have hl' := List.mem_range.mp a
  refine ⟨hl', ?_⟩
  unfold pl
  rw [List.getElem?_eq_getElem hl'] at b ⊢
  simp only at b ⊢
  rw [least_first h]
  cases hf : firstLeast n run[l].h e.h with
  | none => rw [hf] at b; cases b
  | some k => rw [hf] at b; exact b
/-- an event that a law may tell next -/
theorem ff_ok {n : Net} {run : List Ev} {e : Ev} {x : Host} (hn : (n.hosts.map (·.n)).Nodup) (hx : x ∈ n.hosts) (he : e.h = x.n) (h1 : late run e = false) (h2 : ((run.filter (same2 e)).length : Int) < x.r) (h3 : e.t - x.s ≤ e.r ∧ e.r ≤ e.t + x.f) (h4 : ∀ l, e.l = some l → pl n run e l = true) : ff n run (dEv e) = none := by
  unfold ff
  rw [evOf_dEv (by rw [he]; exact hasH_mem hx)]
  simp only
  rw [he, clk_mem hn hx]
  simp only
  rw [h1, if_neg Bool.false_ne_true, if_neg (by omega), if_neg (by simpa using h3)]
  cases hl : e.l with
  | none => rfl
  | some l => simp only; rw [if_pos (h4 l hl)]
theorem letB_snoc : ∀ (es : List Ev) (k : Nat) (e : Ev), letB k es = true → (∀ l, e.l = some l → l < k + es.length) → letB k (es ++ [e]) = true
  | [], k, e, _, h => by
    rw [List.nil_append]
    unfold letB letB
    rw [Bool.and_true]
    cases hl : e.l with
    | none => rfl
    | some l => simpa using h l hl
  | a :: es, k, e, hb, h => by
    rw [List.cons_append]
    unfold letB at hb ⊢
    rw [Bool.and_eq_true] at hb ⊢
    exact ⟨hb.1, letB_snoc es (k + 1) e hb.2 fun l hl => by have := h l hl; rw [List.length_cons] at this; omega⟩
end Pv
namespace Pv
open PySem PySem.Spec L2
open PyProof.Rows hiding St signs cutD pairD
/-- an item of a list of the store -/
theorem ix_R {st : Sto} {r j : Nat} {ds : List D} {d : D} (h : st[r]? = some (.lst ds)) (hj : ds[j]? = some d) : fIx (Rf r) (.int (j : Int)) st = .ok d st := by
  have e : deref st (Rf r) = .list ds := by rw [deref_ref, h]
  have i := ix_l (ds := ds) (j := j) (d := d) (st := st) hj
  unfold fIx dlook at i ⊢
  simp only [Int.toNat_natCast, h]
  simp only [on2] at i ⊢
  rw [e]
  exact i
/-- what a law's drawn run is, behind so many laps -/
structure LotI (n : Net) (run : List Ev) (ss : List Stamp) (tick : Int) (k : Nat) : Prop where
  st : stp n run = ss.map some
  len : run.length ≤ k
  let_ : letB 0 run = true
  valid : Valid n run
  tk : -1000 ≤ tick ∧ tick ≤ 1000 + 8 * k
  ev : ∀ e ∈ run, -1000 ≤ e.t ∧ e.t ≤ tick ∧ (∃ x ∈ n.hosts, e.h = x.n ∧ e.t - x.s ≤ e.r ∧ e.r ≤ e.t + x.f) ∧ ∀ l, e.l = some l → l < run.length
theorem LotI.stay {n : Net} {run : List Ev} {ss : List Stamp} {tick d : Int} {k : Nat} (h : LotI n run ss tick k) (h0 : 0 ≤ d) (h1 : d ≤ 8) : LotI n run ss (tick + d) (k + 1) :=
  ⟨h.st, by have := h.len; omega, h.let_, h.valid, by have := h.tk; omega, fun e he => by
    obtain ⟨a, b, c⟩ := h.ev e he
    exact ⟨a, by omega, c⟩⟩
theorem late_false {run : List Ev} {e : Ev} (h : ∀ p ∈ run, p.t ≤ e.t) : late run e = false := by
  unfold late
  cases hg : run.getLast? with
  | none => rfl
  | some p =>
    have := h p (List.mem_of_getLast? hg)
    exact decide_eq_false (by omega)
theorem LotI.more {n : Net} {run : List Ev} {ss : List Stamp} {tick d : Int} {k : Nat} (hN : NetD n) (h : LotI n run ss tick k) (h0 : 0 ≤ d) (h1 : d ≤ 8) {e : Ev} {x : Host} {s : Stamp} (hx : x ∈ n.hosts) (eh : e.h = x.n) (et : e.t = tick + d) (er : e.t - x.s ≤ e.r ∧ e.r ≤ e.t + x.f) (el : ∀ l, e.l = some l → l ∈ lettersOf n run e.h e.t)
    (hc : ((run.filter (same2 e)).length : Int) < x.r) (hs : nstK n ((causes (run ++ [e]) run.length).map fun j => ss.getD j (0, 0)) e.r = some s) : LotI n (run ++ [e]) (ss ++ [s]) (tick + d) (k + 1) := by
  have hlt : ∀ l, e.l = some l → l < run.length := fun l hl => (letters_pl hN.roads.nd (el l hl)).1
  have tk := h.tk
  refine ⟨?_, by rw [List.length_append]; have := h.len; simp; omega, letB_snoc run 0 e h.let_ (fun l hl => by have := hlt l hl; omega), h.valid.snoc ?_, by omega, fun p hp => ?_⟩
  · rw [stp_snoc h.st e hlt, hs]
  · exact ff_ok hN.names.1 hx eh (late_false fun p hp => by have := (h.ev p hp).2.1; omega) hc er fun l hl => (letters_pl hN.roads.nd (el l hl)).2
  · rw [List.length_append, List.length_cons, List.length_nil]
    rcases List.mem_append.mp hp with q | q
    · obtain ⟨a, b, c, f⟩ := h.ev p q
      exact ⟨a, by omega, c, fun l hl => by have := f l hl; omega⟩
    · have : p = e := by simpa using q
      subst this
      exact ⟨by omega, by omega, ⟨x, hx, eh, er⟩, fun l hl => by have := hlt l hl; omega⟩
theorem LotI.evS {n : Net} {run : List Ev} {ss : List Stamp} {tick : Int} {k : Nat} (hN : NetD n) (h : LotI n run ss tick k) (hk : k ≤ 1000) : ∀ e ∈ run, EvS e := fun e he => by
  obtain ⟨a, b, ⟨x, hx, c, d, f⟩, g⟩ := h.ev e he
  have tk := h.tk
  have hd := hN.hosts x hx
  obtain ⟨_, _, h3⟩ := hN.names
  have l0 := h.len
  refine ⟨by rw [c]; exact (h3 x hx).1, by rw [c]; have := (h3 x hx).2; omega, by omega, by have := hd.s1; have := hd.f1; have := hd.s0; have := hd.f0; omega, fun l hl => by have := g l hl; omega⟩
theorem LotI.has {n : Net} {run : List Ev} {ss : List Stamp} {tick : Int} {k : Nat} (h : LotI n run ss tick k) : ∀ e ∈ run, hasH n e.h = true := fun e he => by
  obtain ⟨_, _, ⟨x, hx, c, _⟩, _⟩ := h.ev e he
  rw [c]; exact hasH_mem hx
theorem LotI.nil (n : Net) {tick : Int} (h : -1000 ≤ tick ∧ tick ≤ 1000) : LotI n [] [] tick 0 := ⟨rfl, Nat.le_refl _, rfl, Valid.nil n, by omega, fun e he => by cases he⟩
end Pv
namespace Pv
open PySem PySem.Spec L2
open PyProof.Rows hiding St signs cutD pairD
theorem causes_two (es : List Ev) (k : Nat) : (causes es k).length ≤ 2 := by
  unfold causes
  cases lastBy es k with
  | none =>
    cases es[k]? with
    | none => simp
    | some e => simp only; cases e.l <;> simp
  | some j =>
    cases es[k]? with
    | none => simp
    | some e => simp only; cases e.l <;> simp
theorem causes_lt {run : List Ev} {e : Ev} (hl : ∀ l, e.l = some l → l < run.length) : ∀ j ∈ causes (run ++ [e]) run.length, j < run.length := fun j hj => by
  have hc : causes (run ++ [e]) run.length = (lastIdx run e.h).toList ++ e.l.toList := by
    unfold causes
    rw [lastIdx_snoc, List.getElem?_append_right (Nat.le_refl _), Nat.sub_self]
    rfl
  rw [hc] at hj
  rcases List.mem_append.mp hj with q | q
  · cases hx : lastIdx run e.h with
    | none => rw [hx] at q; cases q
    | some i =>
      rw [hx] at q
      have : j = i := by simpa using q
      subst this
      exact (lastIdx_lt hx).1
  · cases hx : e.l with
    | none => rw [hx] at q; cases q
    | some i =>
      rw [hx] at q
      have : j = i := by simpa using q
      subst this
      exact hl _ hx
end Pv
set_option Elab.async false
set_option linter.all false
set_option maxRecDepth 100000
set_option maxHeartbeats 1000000
set_option pp.maxSteps 1500
namespace Pv
open PySem PySem.Spec L2
open PyProof.Rows hiding St signs cutD pairD
theorem maxI_of {l : List Int} {m : Int} (h : m ∈ l) (hm : ∀ x ∈ l, x ≤ m) : maxI l = some m := by
  cases hq : maxI l with
  | none =>
    cases l with
    | nil => cases h
    | cons a l => cases hq
  | some k =>
    have h1 := maxI_some hq
    have h2 := hm k h1
    have h3 : m ≤ k := by
      cases l with
      | nil => cases h
      | cons a l =>
        have e : l.foldl max a = k := Option.some.inj hq
        have key : ∀ (l : List Int) (a : Int), ∀ x ∈ a :: l, x ≤ l.foldl max a := by
          intro l
          induction l with
          | nil => intro a x hx; have : x = a := by simpa using hx
                   subst this; exact Int.le_refl _
          | cons b l ih =>
            intro a x hx
            rw [List.foldl_cons]
            rcases List.mem_cons.mp hx with q | q
            · subst q
              exact Int.le_trans (Int.le_max_left _ _) (ih (max x b) _ List.mem_cons_self)
            · rcases List.mem_cons.mp q with q | q
              · subst q
                exact Int.le_trans (Int.le_max_right _ _) (ih (max a x) _ List.mem_cons_self)
              · exact ih (max a b) x (List.mem_cons_of_mem _ q)
        rw [← e]
        exact key l a m h
    rw [show k = m by omega]
theorem maxI_le {l : List Int} {m : Int} (h : maxI l = some m) : ∀ x ∈ l, x ≤ m := fun x hx => by
  cases l with
  | nil => cases hx
  | cons a l =>
    have e : l.foldl max a = m := Option.some.inj h
    subst e
    have key : ∀ (l : List Int) (a : Int), ∀ x ∈ a :: l, x ≤ l.foldl max a := by
      intro l
      induction l with
      | nil => intro a x hx; have : x = a := by simpa using hx
               subst this; exact Int.le_refl _
      | cons b l ih =>
        intro a x hx
        rw [List.foldl_cons]
        rcases List.mem_cons.mp hx with q | q
        · subst q
          exact Int.le_trans (Int.le_max_left _ _) (ih (max x b) _ List.mem_cons_self)
        · rcases List.mem_cons.mp q with q | q
          · subst q
            exact Int.le_trans (Int.le_max_right _ _) (ih (max a x) _ List.mem_cons_self)
          · exact ih (max a b) x (List.mem_cons_of_mem _ q)
    exact key l a x hx
theorem stL_take (n : Net) : ∀ (es : List Ev) (lat : Str → Option Stamp) (acc ss : List Stamp), stL n es lat acc = ss.map some → ∀ k, stL n (es.take k) lat acc = (ss.take (acc.length + k)).map some
  | [], lat, acc, ss, h, k => by
    have := stL_pre n [] lat acc ss h
    unfold stL at h
    have e : ss = acc := (List.map_inj_right fun a b h => Option.some.inj h).mp h.symm
    subst e
    rw [List.take_nil, List.take_of_length_le (by omega)]
    unfold stL; rfl
  | e :: es, lat, acc, ss, h, 0 => by
    obtain ⟨t, ht⟩ := stL_pre n _ _ _ _ h
    rw [List.take_zero, Nat.add_zero, ht, List.take_left]
    unfold stL; rfl
  | e :: es, lat, acc, ss, h, k + 1 => by
    unfold stL at h
    rw [List.take_succ_cons]
    unfold stL
    split at h
    · have : (none : Option Stamp) ∈ ss.map some := by rw [← h]; simp
      simp at this
    · rename_i s hs
      have q := stL_take n es _ _ ss h k
      rw [List.length_append, List.length_cons, List.length_nil, show acc.length + (0 + 1) + k = acc.length + (k + 1) by omega] at q
      first | exact q | (rw [hs]; exact q)
theorem stp_take {n : Net} {es : List Ev} {ss : List Stamp} (h : stp n es = ss.map some) (k : Nat) : stp n (es.take k) = (ss.take k).map some := by
  have := stL_take n es _ _ ss h k
  rwa [List.length_nil, Nat.zero_add] at this
theorem letB_at : ∀ {es : List Ev} {k : Nat}, letB k es = true → ∀ (i : Nat) (e : Ev) (l : Nat), es[i]? = some e → e.l = some l → l < k + i
  | [], _, _, i, e, l, h, _ => by simp at h
  | a :: es, k, hb, 0, e, l, h, hl => by
    unfold letB at hb
    rw [Bool.and_eq_true] at hb
    cases h
    rw [hl] at hb
    simpa using hb.1
  | a :: es, k, hb, i + 1, e, l, h, hl => by
    unfold letB at hb
    rw [Bool.and_eq_true] at hb
    have := letB_at hb.2 i e l h hl
    omega
theorem causes_take {es : List Ev} {k : Nat} (hk : k < es.length) : causes (es.take k ++ [es[k]]) k = causes es k := by
  have e1 : es.take k ++ [es[k]] = es.take (k + 1) := (List.take_succ_eq_append_getElem hk).symm
  have g : ∀ j, j ≤ k → (es.take (k + 1))[j]? = es[j]? := fun j hj => by rw [List.getElem?_take]; rw [if_pos (by omega)]
  rw [e1]
  unfold causes lastBy
  rw [g k (Nat.le_refl _)]
  congr 3
  refine List.filter_congr fun j hj => ?_
  have hj' := List.mem_range.mp hj
  unfold sameH
  rw [g j (by omega), g k (Nat.le_refl _)]
/-- each stamp by those of its causes -/
theorem stp_at {n : Net} {es : List Ev} {ss : List Stamp} (h : stp n es = ss.map some) (hb : letB 0 es = true) {k : Nat} (hk : k < es.length) : nstK n ((causes es k).map fun j => ss.getD j (0, 0)) es[k].r = some (ss.getD k (0, 0)) := by
  have slen := stp_len h
  have e1 : es.take k ++ [es[k]] = es.take (k + 1) := (List.take_succ_eq_append_getElem hk).symm
  have tl : (es.take k).length = k := by rw [List.length_take]; omega
  have hl : ∀ l, es[k].l = some l → l < (es.take k).length := fun l hl => by
    have := letB_at hb k _ l (List.getElem?_eq_getElem hk) hl
    omega
  have h1 := stp_snoc (stp_take h k) es[k] hl
  rw [e1, stp_take h (k + 1), tl, ← e1, causes_take hk] at h1
  have hc : (causes es k).map (fun j => (ss.take k).getD j (0, 0)) = (causes es k).map fun j => ss.getD j (0, 0) := List.map_congr_left fun j hj => by
    rw [← causes_take hk] at hj
    have := causes_lt (run := es.take k) (e := es[k]) hl j (by rw [tl]; exact hj)
    rw [tl] at this
    rw [List.getD_eq_getElem?_getD, List.getD_eq_getElem?_getD, List.getElem?_take, if_pos this]
  rw [hc] at h1
  have e2 : ss.take (k + 1) = ss.take k ++ [ss.getD k (0, 0)] := by
    rw [List.take_succ_eq_append_getElem (show k < ss.length by omega), List.getD_eq_getElem?_getD, List.getElem?_eq_getElem (show k < ss.length by omega)]
    rfl
  cases hs : nstK n ((causes es k).map fun j => ss.getD j (0, 0)) es[k].r with
  | none =>
    rw [hs] at h1
    have : (none : Option Stamp) ∈ (ss.take (k + 1)).map some := by rw [h1]; simp
    obtain ⟨a, _, ha⟩ := List.mem_map.mp this
    cases ha
  | some s =>
    rw [hs, e2] at h1
    have h2 : ss.take k ++ [ss.getD k (0, 0)] = ss.take k ++ [s] := (List.map_inj_right fun a b h => Option.some.inj h).mp h1
    have h3 := List.append_cancel_left h2
    rw [List.cons.inj h3 |>.1]
theorem causes_bound {es : List Ev} (hb : letB 0 es = true) {k : Nat} (hk : k < es.length) : ∀ j ∈ causes es k, j < k := fun j hj => by
  have tl : (es.take k).length = k := by rw [List.length_take]; omega
  have hl : ∀ l, es[k].l = some l → l < (es.take k).length := fun l hl => by
    have := letB_at hb k _ l (List.getElem?_eq_getElem hk) hl
    omega
  have := causes_lt (run := es.take k) (e := es[k]) hl j (by rw [tl, causes_take hk]; exact hj)
  rwa [tl] at this
end Pv
namespace Pv
open PySem PySem.Spec L2
open PyProof.Rows hiding St signs cutD pairD
theorem add_lls {xs ys : List D} (h : xs.length + ys.length ≤ 1000) (st : Sto) : fAdd (.list xs) (.list ys) st = .ok (.list (xs ++ ys)) st := by
  rw [add_ll]
  show lift (if xs.length + ys.length ≤ sizeLine then some (PyData.list (xs ++ ys)) else none) st = _
  rw [if_pos (sz_le h)]; rfl
theorem ints_mapD (l : List Int) : intsOfD (l.map PyData.int) = some l := by
  induction l with
  | nil => rfl
  | cons a l ih => simp only [List.map_cons, intsOfD, ih]; rfl
theorem max_ints {l : List Int} {m : Int} (h : maxI l = some m) : dMax1 (.list (l.map PyData.int)) = some (.int m) := by
  show (intsOfD _).bind _ = _
  rw [ints_mapD]
  simp only [Option.bind_some, h]; rfl
end Pv
namespace Pv
open PySem PySem.Spec L2
open PyProof.Rows hiding St signs cutD pairD
end Pv
set_option Elab.async false
set_option linter.all false
set_option maxRecDepth 100000
set_option maxHeartbeats 3200000
namespace Pv
open PySem PySem.Spec L2
open PyProof.Rows hiding St signs cutD pairD
end Pv
set_option Elab.async false
set_option linter.all false
set_option maxRecDepth 100000
set_option maxHeartbeats 1000000
namespace Pv
open PySem PySem.Spec L2
open PyProof.Rows hiding St signs cutD pairD
def insU (x : Int) : List Int → List Int
  | [] => [x]
  | y :: l => if x < y then x :: y :: l else if x = y then y :: l else y :: insU x l
def srtU : List Int → List Int
  | [] => []
  | x :: l => insU x (srtU l)
end Pv
namespace Pv
open PySem PySem.Spec L2
open PyProof.Rows hiding St signs cutD pairD
def dSrtSet : Pv.D → Option Pv.D
  | .list ds => (intsOfD ds).bind fun ns => if ns.length ≤ 1000 ∧ (srtU ns).length < 64 then some (.list ((srtU ns).map .int)) else none
  | _ => none
theorem ints_of_D : ∀ {ds : List Pv.D} {ns : List Int}, intsOfD ds = some ns → ds = ns.map .int
  | [], ns, h => by cases h; rfl
  | d :: ds, ns, h => by
    cases d with
    | int i =>
      have h' : (intsOfD ds).map (i :: ·) = some ns := h
      obtain ⟨ms, h1, h2⟩ := Option.map_eq_some_iff.mp h'
      subst h2
      rw [ints_of_D h1]; rfl
    | _ => cases h
end Pv
set_option Elab.async false
set_option linter.all false
set_option maxRecDepth 100000
set_option maxHeartbeats 1000000
set_option pp.maxSteps 1500
namespace Pv
open PySem PySem.Spec L2
open PyProof.Rows hiding St signs cutD pairD
def ltST (p s : Stamp) : Prop := p.1 < s.1 ∨ (p.1 = s.1 ∧ p.2 < s.2)
theorem ltST.trans {a b c : Stamp} (h : ltST a b) (k : ltST b c) : ltST a c := by
  unfold ltST at *
  omega
def allS : List (Option Stamp) → Option (List Stamp)
  | [] => some []
  | none :: _ => none
  | some s :: l => (allS l).map (s :: ·)
theorem allS_some : ∀ ss : List Stamp, allS (ss.map some) = some ss
  | [] => rfl
  | s :: ss => by show (allS (ss.map some)).map (s :: ·) = _; rw [allS_some ss]; rfl
theorem allS_none : ∀ (ss : List Stamp) (l : List (Option Stamp)), allS (ss.map some ++ none :: l) = none
  | [], l => rfl
  | s :: ss, l => by show (allS (ss.map some ++ none :: l)).map (s :: ·) = _; rw [allS_none ss l]; rfl
theorem allS_eq {l : List (Option Stamp)} : ∀ {ss : List Stamp}, allS l = some ss → l = ss.map some := by
  induction l with
  | nil => intro ss h; cases h; rfl
  | cons o l ih =>
    intro ss h
    cases o with
    | none => cases h
    | some s =>
      have h' : (allS l).map (s :: ·) = some ss := h
      obtain ⟨t, h1, h2⟩ := Option.map_eq_some_iff.mp h'
      subst h2
      rw [ih h1]; rfl
theorem stL_stop (n : Net) : ∀ (es fs : List Ev) (lat : Str → Option Stamp) (acc ss : List Stamp), stL n es lat acc = ss.map some ++ [none] → stL n (es ++ fs) lat acc = ss.map some ++ [none]
  | [], fs, lat, acc, ss, h => by
    unfold stL at h
    have : (none : Option Stamp) ∈ acc.map some := by rw [h]; simp
    obtain ⟨a, _, ha⟩ := List.mem_map.mp this
    cases ha
  | e :: es, fs, lat, acc, ss, h => by
    rw [List.cons_append]
    unfold stL at h ⊢
    cases hs : nst n (lat e.h) (e.l.bind fun l => acc[l]?) e.r with
    | none => rw [hs] at h; exact h
    | some s =>
      rw [hs] at h
      exact stL_stop n es fs _ _ ss h
/-- one step of a law's own reckoning of the stamps -/
theorem stamps_step {n : Net} {es : List Ev} (hb : letB 0 es = true) {k : Nat} (hk : k < es.length) {acc : List Stamp} (h : stp n (es.take k) = acc.map some) :
    (nstK n ((causes es k).map fun j => acc.getD j (0, 0)) es[k].r = none → allS (stp n es) = none) ∧ ∀ s, nstK n ((causes es k).map fun j => acc.getD j (0, 0)) es[k].r = some s → stp n (es.take (k + 1)) = (acc ++ [s]).map some := by
  have e1 : es.take k ++ [es[k]] = es.take (k + 1) := (List.take_succ_eq_append_getElem hk).symm
  have tl : (es.take k).length = k := by rw [List.length_take]; omega
  have hl : ∀ l, es[k].l = some l → l < (es.take k).length := fun l hl => by
    have := letB_at hb k _ l (List.getElem?_eq_getElem hk) hl
    omega
  have h1 := stp_snoc h es[k] hl
  rw [e1, tl, ← e1, causes_take hk] at h1
  constructor
  · intro hn
    rw [hn, e1] at h1
    have h2 : stp n es = acc.map some ++ [none] := by
      have := stL_stop n (es.take (k + 1)) (es.drop (k + 1)) _ _ acc h1
      rwa [List.take_append_drop] at this
    rw [h2]
    exact allS_none acc []
  · intro s hs
    rw [hs, e1] at h1
    exact h1
end Pv
set_option Elab.async false
set_option linter.all false
set_option maxRecDepth 100000
set_option maxHeartbeats 400000
namespace Pv
open PySem PySem.Spec L2
open PyProof.Rows hiding St
end Pv
set_option Elab.async false
set_option linter.all false
set_option maxRecDepth 100000
set_option maxHeartbeats 400000
namespace Pv
open PySem PySem.Spec L2
open PyProof.Rows hiding St
def fAddM : F2 := fun x y st => match deref st x, deref st y with
  | .list a, .list b => if a.length + b.length ≤ sizeLine then .ok (Rf st.length) (st ++ [.lst (a ++ b)]) else .bad
  | _, _ => .bad
def mAddM : M → M → M := mOp2 fAddM
section
variable {X : Cx} {Wx : WX} {ea eb : Expr} {ma mb : M} {pos : Pos}
@[simp] theorem e_addM {a b : M} {sl : Sl} {st : Sto} : mAddM a b sl st = (a sl st).bind fun x st => (b sl st).bind fun y st => fAddM x y st := rfl
end
end Pv
set_option Elab.async false
set_option linter.all false
set_option maxRecDepth 100000
set_option maxHeartbeats 400000
namespace Pv
open PySem PySem.Spec L2
open PyProof.Rows hiding St signs cutD pairD
end Pv
set_option Elab.async false
set_option linter.all false
set_option maxRecDepth 100000
set_option maxHeartbeats 3200000
namespace Pv
open PySem PySem.Spec L2
open PyProof.Rows hiding St signs cutD pairD
def kofV : Value → L2.Key
  | .int i _ => .inl i
  | .str x _ => .inr x
  | _ => .inl 0
def kofE (e : Int × Value) : L2.Key := kofV e.2
theorem kof_is {k : L2.Key} {v : Value} (h : keyIs k v = true) : kofV v = k := by
  rcases keyIs_shape h with ⟨i, t, rfl, rfl⟩ | ⟨x, t, rfl, rfl⟩ <;> rfl
/-- an element as it is kept: its hash, its value -/
def MemE (w : World) (e : Int × Value) : Prop := keyIs (kofE e) e.2 = true ∧ e.1 = keyH w (kofE e)
/-- the set at a has just the members of L -/
def SetM (w : World) (h : Heap) (a : Addr) (L : List L2.Key) : Prop :=
  ∃ ob rows age tab, h.get? a = some ob ∧ ob.ExactSet ∧ ob.data = .set rows age tab ∧ (∀ e ∈ rows.toList, MemE w e) ∧ (rows.toList.map kofE).Nodup ∧ (∀ k, k ∈ rows.toList.map kofE ↔ k ∈ L) ∧
    rows.size < scanBound ∧ tab.fits rows.size = true ∧ Ris tab.place.toList ∧ (w.params.followText "set-order" = true ∨ tab.led = true)
section
variable {P : Program} {w : World} {A : Around} {E : Value → Shared → Prop} {s : Shared} {a : Addr} {L : List L2.Key} {h h' : Heap}
theorem SetM.at (R : SetM w h a L) (keep : ∀ o, h.get? a = some o → h'.get? a = some o) : SetM w h' a L := by
  obtain ⟨ob, rows, age, tab, g, r⟩ := R
  exact ⟨ob, rows, age, tab, keep ob g, r⟩
theorem mem_is {e : Int × Value} (g : MemE w e) (k : L2.Key) : (mixKind P w).is k e.2 = true ↔ kofE e = k :=
  ⟨fun q => kof_is q, fun q => by subst q; exact g.1⟩
theorem mem_map {l : List (Int × Value)} (g : ∀ e ∈ l, MemE w e) (k : L2.Key) : k ∈ l.map kofE ↔ ∃ e ∈ l, (mixKind P w).is k e.2 = true := by
  constructor
  · intro q
    obtain ⟨e, he, e1⟩ := List.mem_map.mp q
    exact ⟨e, he, (mem_is (g e he) k).mpr e1⟩
  · rintro ⟨e, he, q⟩
    exact List.mem_map.mpr ⟨e, he, (mem_is (g e he) k).mp q⟩
theorem keys_le {α : Type} [DecidableEq α] {ks : List α} : ∀ {l : List α}, ks.Nodup → (∀ k ∈ ks, k ∈ l) → ks.length ≤ l.length := by
  induction ks with
  | nil => intro l _ _; exact Nat.zero_le _
  | cons x ks ih =>
    intro l hn hs
    obtain ⟨n1, n2⟩ := List.nodup_cons.mp hn
    have hx := hs x List.mem_cons_self
    have := ih (l := l.erase x) n2 fun k hk => (List.mem_erase_of_ne (fun e => n1 (by rw [← e]; exact hk))).mpr (hs k (List.mem_cons_of_mem _ hk))
    rw [List.length_erase_of_mem hx] at this
    have hp : 0 < l.length := List.length_pos_of_mem hx
    rw [List.length_cons]
    omega
end
end Pv
set_option Elab.async false
set_option linter.all false
set_option maxRecDepth 100000
set_option maxHeartbeats 3200000
namespace Pv
open PySem PySem.Spec L2
open PyProof.Rows hiding St signs cutD pairD
structure SOrd {α : Type} (lt : α → α → Bool) : Prop where
  irr : ∀ x, lt x x = false
  tr : ∀ x y z, lt x y = true → lt y z = true → lt x z = true
  tot : ∀ x y, lt x y = false → lt y x = false → x = y
section
variable {α : Type} (lt : α → α → Bool)
def insO (x : α) : List α → List α
  | [] => [x]
  | y :: l => if lt x y = true then x :: y :: l else if lt y x = true then y :: insO x l else y :: l
def srtO : List α → List α
  | [] => []
  | x :: l => insO lt x (srtO l)
variable {lt}
theorem ascB_nodup (O : SOrd lt) {l : List α} (h : l.Pairwise (lt · · = true)) : l.Nodup := h.imp fun {a b} p e => by subst e; rw [O.irr] at p; cases p
end
/-- the order of texts -/
def ltX (x y : Str) : Bool := decide (x.cps.toList < y.cps.toList)
theorem ltX_ord : SOrd ltX := ⟨fun x => by simp [ltX, str_lt_irrefl], fun x y z p q => by
  simp only [ltX, decide_eq_true_eq] at p q ⊢
  exact List.lt_trans p q, fun x y p q => by
  simp only [ltX, decide_eq_false_iff_not] at p q
  exact Classical.byContradiction fun n => q (str_total p n)⟩
def srtT (xs : List Str) : List Str := srtO ltX xs
end Pv
set_option Elab.async false
set_option linter.all false
set_option maxRecDepth 100000
set_option maxHeartbeats 3200000
namespace Pv
open PySem PySem.Spec L2
open PyProof.Rows hiding St signs cutD pairD
end Pv
set_option Elab.async false
set_option linter.all false
set_option maxRecDepth 100000
set_option maxHeartbeats 1000000
namespace Pv
open PySem PySem.Spec L2
open PyProof.Rows hiding St signs cutD pairD
def strsOfD : List Pv.D → Option (List Str)
  | [] => some []
  | .str x :: ds => (strsOfD ds).map (x :: ·)
  | _ => none
/-- a list of whole numbers, or of texts -/
def dSrtS (d : Pv.D) : Option Pv.D :=
  match dSrtSet d with
  | some e => some e
  | none => match d with
    | .list ds => (strsOfD ds).bind fun xs => if xs.length ≤ 1000 then some (.list ((srtT xs).map .str)) else none
    | _ => none
def mSrtS : M → M := mOp1 (onD1 dSrtS)
@[simp] theorem e_srtS {a : M} {sl : Sl} {st : Sto} : mSrtS a sl st = (a sl st).bind fun x st => lift (dSrtS (deref st x)) st := rfl
end Pv
set_option Elab.async false
set_option linter.all false
set_option maxRecDepth 100000
set_option maxHeartbeats 1000000
namespace Pv
open PySem PySem.Spec L2
open PyProof.Rows hiding St signs cutD pairD
def deepD (st : Sto) (d : Pv.D) : Option Pv.D := fz (lookF 6 0 st) d
section
variable {K : PySem.W.Frag} {W : Wd} {H : Hp} {st : Sto} {v : V} {d e : Pv.D}
theorem look_all (hr : HR K W H st) : ∀ (k : Nat) (r : Nat) (a : Addr) (e : Pv.D), W.rho[r]? = some a → lookF k 0 st r = some e → rep K ⟨H, []⟩ (.ref a) e
  | 0, r, a, e, _, h => by
    unfold lookF at h
    simp at h
  | k + 1, r, a, e, ha, h => by
    unfold lookF at h
    rw [if_neg (Nat.not_lt_zero r)] at h
    simp only at h
    obtain ⟨m, hm, _, ho⟩ := hr.at ha
    rw [hm] at h
    cases m with
    | lst ds =>
      simp only at h
      obtain ⟨es, h1, h2⟩ := Option.map_eq_some_iff.mp h
      subst h2
      obtain ⟨xs, q1, q2⟩ := ho
      have both : ∀ (ds : List Pv.D) (xs : List V) (es : List Pv.D), repL K W xs ds → fzL (lookF k 0 st) ds = some es → repL K ⟨H, []⟩ xs es := by
        intro ds
        induction ds with
        | nil => intro xs es l q; cases q; exact l
        | cons d ds ih =>
          rintro xs es ⟨v, us, e1, r1, l⟩ q
          have q' : (fz (lookF k 0 st) d).bind (fun e => (fzL (lookF k 0 st) ds).map (e :: ·)) = some es := q
          obtain ⟨e, q1, q2⟩ := Option.bind_eq_some_iff.mp q'
          obtain ⟨es', q3, q4⟩ := Option.map_eq_some_iff.mp q2
          subst q4
          exact ⟨v, us, e1, fz_rep (W2 := ⟨H, []⟩) (fun r a e h1 h2 => look_all hr k r a e h1 h2) hr.sub d v e r1 q1, ih us es' l q3⟩
      exact ⟨a, xs, rfl, q1, both ds xs es q2 h1⟩
    | _ => cases h
theorem deep_rep (hr : HR K W H st) (h : rep K W v d) (q : deepD st d = some e) : rep K ⟨H, []⟩ v e :=
  fz_rep (W2 := ⟨H, []⟩) (fun r a e h1 h2 => look_all hr 6 r a e h1 h2) hr.sub d v e h q
end
def reprF (st : Sto) (d : Pv.D) : Option Pv.D := match reprD st d with
  | some r => some r
  | none => (deepD st d).bind fun e => if e.canLay0 = true ∧ e.showable = true ∧ e.depth ≤ 100 ∧ e.shown.length ≤ sizeLine then some (.str e.shown) else none
def mReprF (m : M) : M := fun sl st => (m sl st).bind fun d st => lift (reprF st d) st
@[simp] theorem e_reprF {a : M} {sl : Sl} {st : Sto} : mReprF a sl st = (a sl st).bind fun d st => lift (match reprD st d with
  | some r => some r
  | none => (deepD st d).bind fun e => if e.canLay0 = true ∧ e.showable = true ∧ e.depth ≤ 100 ∧ e.shown.length ≤ sizeLine then some (.str e.shown) else none) st := rfl
section
variable {X : Cx} {Wx : WX} {ea : Expr} {ma : M} {pos p : Pos}
theorem ge_reprF (g : Gd X) (hm : X.mg "repr" = none) (ha : GE X Wx ea ma) (hg : Gl X "repr" := by rfl)
    (he : starEach (ea :: []) X.env = (false, eval ea X.env) :: starEach [] X.env := by rfl) (hpl : (backTo pos (starEach [] X.env)).any (·.1) = false := by rfl) : GE X Wx (.Call (.Name "repr" p) [ea] [] pos) (mReprF ma) := by
  refine PE.imp (pe_callB (call_reprD g) hg hm (by decide +kernel) (pa_cons ha pa_nil he) (by decide +kernel) (by decide +kernel) he hpl) fun sh H Q ⟨W, sl, st, hr, hs, q⟩ => ?_
  refine rd_bind hr hs q fun d1 st1 W1 v1 H1 e1 x1 h1 s1 r1 p1 => ?_
  unfold reprF at p1
  cases hd : reprD st1 d1 with
  | some r =>
    rw [hd] at p1
    simp only at p1
    unfold reprD at hd
    split at hd
    · rename_i hc
      cases hd
      exact ⟨v1, _, rfl, rep_dpR h1 r1 rfl hc.1, hc.1, hc.2.1, hc.2.2.1, hc.2.2.2, p1.val h1 rfl⟩
    · cases hd
  | none =>
    rw [hd] at p1
    simp only at p1
    cases hq : deepD st1 d1 with
    | none => rw [hq] at p1; exact p1.elim
    | some e =>
      rw [hq] at p1
      simp only [Option.bind_some] at p1
      split at p1
      · rename_i hc
        exact ⟨v1, e, rfl, rep_dp (W := ⟨H1, []⟩) (fun _ _ z => z) e hc.1 (deep_rep h1 r1 hq), hc.1, hc.2.1, hc.2.2.1, hc.2.2.2, p1.val h1 rfl⟩
      · exact p1.elim
end
theorem reprF_clean {st : Sto} {d : Pv.D} {n k : Nat} (h : Ok d n k) (hn : n ≤ 2 ^ 24) (hk : k ≤ 100) : reprF st d = some (.str d.shown) := by
  unfold reprF
  rw [repr_ok h hn hk st]
end Pv
set_option Elab.async false
set_option linter.all false
set_option maxRecDepth 100000
set_option maxHeartbeats 1000000
set_option pp.maxSteps 1500
namespace Pv
open PySem PySem.Spec L2
open PyProof.Rows hiding St signs cutD pairD
/-- one to eight lowercase letters -/
def nameB (z : Str) : Bool := decide (1 ≤ z.length) && (decide (z.length ≤ 8) && z.cps.toList.all fun c => decide (97 ≤ c) && decide (c ≤ 122))
abbrev Rd3 := Str × Str × Int
def prS (r : Rd3) : Str × Str := (r.1, r.2.1)
/-- the order of pairs of texts -/
def ltP (p q : Str × Str) : Bool := ltX p.1 q.1 || (p.1 == q.1 && ltX p.2 q.2)
structure NetV (n : Net) : Prop where
  asc : (n.hosts.map (·.n)).Pairwise fun a b => ltX a b = true
  ne : n.hosts ≠ []
  nm : ∀ h ∈ n.hosts, nameB h.n = true
  cl : ∀ h ∈ n.hosts, 0 ≤ h.s ∧ 0 ≤ h.f ∧ 1 ≤ h.r
  rasc : (n.roads.map prS).Pairwise fun a b => ltP a b = true
  rd : ∀ r ∈ n.roads, hasH n r.1 = true ∧ hasH n r.2.1 = true ∧ r.1 ≠ r.2.1 ∧ 0 ≤ r.2.2
  most : ∀ k, n.most = some k → 0 ≤ k
  rule : n.rule = "more" ∨ n.rule = "wait"
  none : n.most = none → n.rule = "wait"
/-- how many hosts, how great its numbers -/
structure NetB (n : Net) (h : Nat) (b : Nat) : Prop where
  hl : n.hosts.length ≤ h
  rl : n.roads.length ≤ h * h
  hb : ∀ x ∈ n.hosts, x.s.natAbs ≤ b ∧ x.f.natAbs ≤ b ∧ x.r.natAbs ≤ b
  rb : ∀ r ∈ n.roads, r.2.2.natAbs ≤ b
  mb : ∀ k, n.most = some k → k.natAbs ≤ b
theorem name_lay {z : Str} (h : nameB z = true) : (PyData.str z).canLay0 = true ∧ z.length ≤ 8 := by
  unfold nameB at h
  simp only [Bool.and_eq_true, decide_eq_true_eq, List.all_eq_true] at h
  refine ⟨?_, h.2.1⟩
  simp only [PyData.canLay0, PyData.strOk, Array.all_eq_true', decide_eq_true_eq, Array.mem_toList_iff]
  intro c hc
  have := h.2.2 c (by simpa using hc)
  omega
theorem bdl_all {m k b : Nat} : ∀ {ds : List Pv.D}, (∀ d ∈ ds, Bd d m k b) → BdL ds ((m + 4) * ds.length) k b
  | [], _ => BdL.nil
  | d :: ds, h => (BdL.cons (h d List.mem_cons_self) (bdl_all fun x hx => h x (List.mem_cons_of_mem _ hx))).mono (by rw [List.length_cons, Nat.mul_succ]; omega) (Nat.le_refl _) (Nat.le_refl _)
theorem bd_name {z : Str} {k b : Nat} (q : nameB z = true) : Bd (.str z) 84 k b := Bd.str (name_lay q).1 (by have := (name_lay q).2; omega)
theorem bd_opt {o : Option Int} {k b : Nat} (h : ∀ i, o = some i → i.natAbs ≤ b) (hb : b < 10 ^ 62) : Bd (dOpt o) 64 k b := by
  cases o with
  | none => exact ⟨rfl, by show 8 ≤ 64; decide, Nat.zero_le _, Nat.zero_le _⟩
  | some i => exact Bd.int (h i rfl) hb
theorem rule_name {z : Str} (h : z = "more" ∨ z = "wait") : nameB z = true := by
  rcases h with rfl | rfl <;> decide +kernel
/-- a cluster's datum -/
theorem NetV.bd {n : Net} (V : NetV n) {h b : Nat} (B : NetB n h b) (hb : b < 10 ^ 62) : Bd (dNet n) (304 * h + 304 * (h * h) + 200) 3 b := by
  have hh : ∀ d ∈ n.hosts.map dHost, Bd d 300 1 b := fun d hd => by
    obtain ⟨x, hx, rfl⟩ := List.mem_map.mp hd
    obtain ⟨b1, b2, b3⟩ := B.hb x hx
    exact (Bd.tup (BdL.cons (bd_name (V.nm x hx)) (BdL.cons (Bd.int b1 hb) (BdL.cons (Bd.int b2 hb) (BdL.cons (Bd.int (k := 0) b3 hb) BdL.nil))))).mono (by decide) (Nat.le_refl _) (Nat.le_refl _)
  have nmOf : ∀ {z : Str}, hasH n z = true → nameB z = true := fun {z} q => by
    unfold hasH at q
    obtain ⟨x, hx, e⟩ := List.any_eq_true.mp q
    rw [← (beq_iff_eq.mp e)]; exact V.nm x hx
  have hr : ∀ d ∈ n.roads.map dRoad, Bd d 300 1 b := fun d hd => by
    obtain ⟨x, hx, rfl⟩ := List.mem_map.mp hd
    obtain ⟨r1, r2, _, _⟩ := V.rd x hx
    exact (Bd.tup (BdL.cons (bd_name (nmOf r1)) (BdL.cons (bd_name (nmOf r2)) (BdL.cons (Bd.int (k := 0) (B.rb x hx) hb) BdL.nil)))).mono (by decide) (Nat.le_refl _) (Nat.le_refl _)
  have l1 := Bd.tup (bdl_all hh)
  have l2 := Bd.tup (bdl_all hr)
  have e1 : 304 * n.hosts.length ≤ 304 * h := Nat.mul_le_mul_left _ B.hl
  have e2 : 304 * n.roads.length ≤ 304 * (h * h) := Nat.mul_le_mul_left _ B.rl
  rw [List.length_map] at l1 l2
  exact (Bd.tup (BdL.cons l1 (BdL.cons l2 (BdL.cons (bd_opt B.mb hb) (BdL.cons (bd_name (rule_name V.rule)) BdL.nil))))).mono (by omega) (Nat.le_refl _) (Nat.le_refl _)
end Pv
set_option Elab.async false
set_option linter.all false
set_option maxRecDepth 100000
set_option maxHeartbeats 1000000
set_option pp.maxSteps 400
namespace Pv
open PySem PySem.Spec L2 LamX
open PyProof.Rows hiding St
end Pv
set_option Elab.async false
set_option linter.all false
set_option maxRecDepth 100000
set_option maxHeartbeats 1000000
set_option pp.maxSteps 400
namespace Pv
open PySem PySem.Spec L2 LamX
open PyProof.Rows hiding St
def seqD (st : Sto) (d : D) : Option (List D) := match deref st d with | .list ds => some ds | .tuple ds => some ds | _ => none
def onO (o : Option (List D)) (f : List D → R (List D)) : R (List D) := match o with | some ds => f ds | none => .bad
def msStar (m : M) (ms : Ms) : Ms := fun sl st => (m sl st).bind fun d st1 => onO (seqD st1 d) fun ds => (ms sl st1).bind fun es st2 => .ok (ds ++ es) st2
@[simp] theorem e_star {m : M} {ms : Ms} {sl : Sl} {st : Sto} : msStar m ms sl st = (m sl st).bind fun d st1 => onO (seqD st1 d) fun ds => (ms sl st1).bind fun es st2 => .ok (ds ++ es) st2 := rfl
@[simp] theorem onO_some {ds : List D} {f : List D → R (List D)} : onO (some ds) f = f ds := rfl
@[simp] theorem seqD_list' {st : Sto} {ds : List D} : seqD st (.list ds) = some ds := rfl
@[simp] theorem seqD_tuple' {st : Sto} {ds : List D} : seqD st (.tuple ds) = some ds := rfl
section
variable {X : Cx} {Wx : WX} {p : Pos}
theorem ga_star {e : Expr} {es : List Expr} {m : M} {ms : Ms} (ha : GE X Wx e m) (hr : GA X Wx es ms) (hs : starEach (.Starred e p :: es) X.env = (true, eval e X.env) :: starEach es X.env := by rfl) : GA X Wx (.Starred e p :: es) (msStar m ms) := by
  refine (StX.pa_star ha hr hs).imp fun sh H Q ⟨W, sl, st, hr, hs, p⟩ => ?_
  refine rd_bindL hr hs p fun d1 st1 W1 v1 H1 e1 x1 h1 s1 r1 p1 => ?_
  have go : ∀ (ds : List D) (a : Addr) (xs : List V), v1 = .ref a → (SqT X.K H1 a xs ∨ SqL X.K H1 a xs) → repL X.K W1 xs ds → PostL (nv X) W1 H1 Q (fun cls dd H' => Wx cls dd sh H') ((ms sl st1).bind fun es st2 => .ok (ds ++ es) st2) →
      ∃ p xs, v1 = V.ref p ∧ (SqT X.K H1 p xs ∨ SqL X.K H1 p xs) ∧ rdL (nv X) Wx ms sh H1 fun ys H2 => Q (xs ++ ys) H2 := fun ds a xs ev sq l p2 => by
    refine ⟨a, xs, ev, sq, ?_⟩
    refine rdL_bindL h1 s1 p2 fun es st2 W2 vs H2 e2 x2 h2 s2 r2 p3 => ?_
    exact PostL.now h2 p3 (repL_append (x2.repL l) r2)
  unfold seqD at p1
  split at p1
  · rename_i ds hd
    obtain ⟨a, xs, ev, f, l⟩ := rep_dlist h1 r1 hd
    exact go ds a xs ev (.inr (.inl (.inl f))) l p1
  · rename_i ds hd
    obtain ⟨a, xs, ev, f, l⟩ := rep_dtuple h1 r1 hd
    exact go ds a xs ev (.inl f) l p1
  · exact p1.elim
end
/-- a def, to be called by BindN -/
structure DfN (P : Program) (w : World) (K : PySem.W.Frag) (mg : Str → Option Value) (base : Heap) (k : Nat) (x : Str) (f : Addr) (fd : FuncData) (ps : List Str) (F : Fn) : Prop where
  fn : FnG P w K mg base k f fd ps F
  mg : mg x = some (.ref f)
  kp : PySem.W.keepIn K (.ref f) = true
theorem DfN.mono {P : Program} {w : World} {K : PySem.W.Frag} {mg : Str → Option Value} {base : Heap} {j k : Nat} {x : Str} {f : Addr} {fd : FuncData} {ps : List Str} {F : Fn} (d : DfN P w K mg base j x f fd ps F) (h : j ≤ k) : DfN P w K mg base k x f fd ps F :=
  ⟨d.fn.mono h, d.mg, d.kp⟩
theorem Df.n {P : Program} {w : World} {K : PySem.W.Frag} {mg : Str → Option Value} {base : Heap} {k : Nat} {x : Str} {f : Addr} {fd : FuncData} {ps : List Str} {F : Fn} (d : Df P w K mg base k x f fd ps F) : DfN P w K mg base k x f fd ps F := ⟨d.fn, d.mg, d.kp⟩
/-- the arrangement -/
def arr (ix : List Nat) (l : List D) : List D := perm ix l
@[simp] theorem arr_nil {l : List D} : arr [] l = [] := rfl
@[simp] theorem arr_cons {i : Nat} {ix : List Nat} {l : List D} : arr (i :: ix) l = (match l[i]? with | some d => d :: arr ix l | none => arr ix l) := by
  unfold arr perm
  rw [List.filterMap_cons]
  cases l[i]? <;> rfl
def mCallN (F : Fn) (ix : List Nat) (cD : List D) (ms mk : Ms) : M := fun sl st => (ms sl st).bind fun ds st1 => (mk sl st1).bind fun es st2 => F (arr ix (ds ++ (es ++ cD))) st2
@[simp] theorem e_callN {F : Fn} {ix : List Nat} {cD : List D} {ms mk : Ms} {sl : Sl} {st : Sto} : mCallN F ix cD ms mk sl st = (ms sl st).bind fun ds st1 => (mk sl st1).bind fun es st2 => F (arr ix (ds ++ (es ++ cD))) st2 := rfl
end Pv
set_option Elab.async false
set_option linter.all false
set_option maxRecDepth 100000
set_option maxHeartbeats 1000000
set_option pp.maxSteps 1500
namespace Pv
open PySem PySem.Spec L2
open PyProof.Rows hiding St signs cutD pairD
theorem NetB.mono {n : Net} {h h' b : Nat} (B : NetB n h b) (hh : h ≤ h') : NetB n h' b :=
  ⟨Nat.le_trans B.hl hh, Nat.le_trans B.rl (Nat.mul_le_mul hh hh), B.hb, B.rb, B.mb⟩
theorem NetV.ok {n : Net} {b : Nat} (V : NetV n) (B : NetB n 12 b) : NetOk n := by
  have nm : ∀ {k : Str}, hasH n k = true → (PyData.str k).canLay0 = true := fun {k} hk => by
    obtain ⟨x, hx, e⟩ := List.any_eq_true.mp hk
    rw [← beq_iff_eq.mp e]
    exact (name_lay (V.nm x hx)).1
  refine ⟨Nat.le_trans B.hl (by decide), Nat.le_trans B.rl (by decide), fun x hx => ?_, fun r hr => ?_⟩
  · obtain ⟨a, c⟩ := name_lay (V.nm x hx)
    exact ⟨Nat.le_trans c (by decide), a⟩
  · obtain ⟨a, c, _⟩ := V.rd r hr
    exact ⟨nm a, nm c⟩
theorem NetV.inj {n : Net} (V : NetV n) {x y : Host} (hx : x ∈ n.hosts) (hy : y ∈ n.hosts) (e : x.n = y.n) : x = y := by
  have nd : (n.hosts.map (·.n)).Nodup := V.asc.imp fun {a b} h => fun q => by subst q; rw [ltX_ord.irr] at h; cases h
  have key : ∀ {l : List Host}, (l.map (·.n)).Nodup → x ∈ l → y ∈ l → x = y := fun {l} => by
    induction l with
    | nil => intro _ h; cases h
    | cons a l ih =>
      intro nd h1 h2
      rw [List.map_cons, List.nodup_cons] at nd
      rcases List.mem_cons.mp h1 with p | p <;> rcases List.mem_cons.mp h2 with q | q
      · rw [p, q]
      · exact absurd (List.mem_map.mpr ⟨y, q, by rw [← p, e]⟩) nd.1
      · exact absurd (List.mem_map.mpr ⟨x, p, by rw [← q, ← e]⟩) nd.1
      · exact ih nd.2 p q
  exact key nd hx hy
theorem NetV.has {n : Net} {y : Host} (hy : y ∈ n.hosts) : hasH n y.n = true := List.any_eq_true.mpr ⟨y, hy, by simp⟩
end Pv
set_option Elab.async false
set_option linter.all false
set_option maxRecDepth 100000
set_option maxHeartbeats 1000000
set_option pp.maxSteps 1500
namespace Pv
open PySem PySem.Spec L2
open PyProof.Rows hiding St signs cutD pairD
end Pv
set_option Elab.async false
set_option linter.all false
set_option maxRecDepth 100000
set_option maxHeartbeats 1600000
namespace Pv
open PySem PySem.Spec L2
open PyProof.Rows hiding St signs cutD pairD
/-- what is asked of the two iterators: I it i: it stands at i; L: what it goes over -/
structure Nx (prog : Program) (w : World) (it l : Addr) (xs : Array Value) (I : Heap → Nat → Prop) (L : Heap → Prop) : Prop where
  item : ∀ {A : Around} {E : Value → Shared → Prop} {s : Shared} {k : Nat} {x : Value} {Q : Value → Shared → Prop}, I s.heap k → L s.heap → xs[k]? = some x → (∀ h', I h' (k + 1) → Heap.SameBut it s.heap h' → Q x { s with heap := h' }) → wpAny (model prog w) A (Builtin.SmallTypes.nextOf (.ref it)) Q E s
  stop : ∀ {A : Around} {E : Value → Shared → Prop} {s : Shared} {k : Nat} {Q : Value → Shared → Prop}, A.handled = none → I s.heap k → L s.heap → xs[k]? = none → (∀ h' e, Heap.ExtBut it s.heap h' → (∃ o, h'.get? e = some o ∧ o.cls = .type "StopIteration") → E (.ref e) { s with heap := h' }) → wpAny (model prog w) A (Builtin.SmallTypes.nextOf (.ref it)) Q E s
  mv : ∀ {c : Addr} {h h' : Heap} {k : Nat}, I h k → Heap.ExtBut c h h' → it ≠ c → I h' k
  ml : ∀ {c : Addr} {h h' : Heap}, L h → Heap.ExtBut c h h' → l ≠ c → L h'
  up : ∀ {h h' : Heap} {k : Nat}, I h k → (∀ o, h.get? it = some o → h'.get? it = some o) → I h' k
end Pv
set_option Elab.async false
set_option linter.all false
set_option maxRecDepth 100000
set_option maxHeartbeats 1000000
set_option pp.maxSteps 400
namespace Pv
open PySem PySem.Spec L2
open PyProof.Rows hiding St signs cutD pairD
def whileL (t : MT) (body : MS) (fg : List Nat) : Nat → Sl → Sto → RS
  | 0, _, _ => .bad
  | n + 1, sl, st => (t sl st).thenS fun b st1 => if b = true then (match body sl st1 with
    | .nx sl2 st2 => whileL t body fg n (wipeD sl2 fg) st2
    | .ct sl2 st2 => whileL t body fg n (wipeD sl2 fg) st2
    | .bk sl2 st2 => .nx (wipeD sl2 fg) st2
    | r => r) else .nx sl st1
def sWhile (fg : List Nat) (n : Nat) (t : MT) (body : MS) : MS := fun sl st => whileL t body fg n (wipeD sl fg) st
@[simp] theorem e_while {fg : List Nat} {n : Nat} {t : MT} {body : MS} {sl : Sl} {st : Sto} : sWhile fg n t body sl st = whileL t body fg n (wipeD sl fg) st := rfl
section
variable {X : Cx} {Wx : WX}
theorem gs_while {c : Expr} {body : List Stmt} {mt : MT} {mb : MS} {pos : Pos} (fg : List Nat) (n : Nat) (hp : PassesOwn (model X.prog X.w) X.A X.env X.xe) (hc : GT X Wx c mt) (hb : GSs X Wx body mb) : GS X Wx (.While c body [] pos) (sWhile fg n mt mb) := by
  refine PS.imp (ps_while hp hc hb) fun D sh H ⟨W, sl, st, hr, hs, p⟩ => ?_
  refine ⟨fun m σ H' => σ.length = sh.length ∧ ∃ W' sl' st', HR (nv X).K W' H' st' ∧ SR (nv X).K W' σ sl' ∧ PostS (nv X) sh.length Wx W' H' D (whileL mt mb fg m sl' st'), ⟨n, rfl, W, _, st, hr, hs.wipe, p⟩, ?_⟩
  rintro m σ H1 ⟨hl, W1, sl1, st1, h1, s1, p1⟩
  cases m with
  | zero => exact p1.elim
  | succ m =>
    rw [← hl] at p1
    refine rdT_bindS h1 s1 p1 fun b st2 W2 H2 e2 x2 h2 s2 p2 => ?_
    cases b with
    | false =>
      rw [if_neg Bool.false_ne_true]
      rw [if_neg Bool.false_ne_true] at p2
      exact p2 W2 σ H2 rfl .refl h2 s2
    | true =>
      rw [if_pos rfl]
      rw [if_pos rfl] at p2
      refine ⟨fun σ' H' => σ'.length = sh.length ∧ ∃ W' sl' st', HR (nv X).K W' H' st' ∧ SR (nv X).K W' σ' sl' ∧ PostS (nv X) sh.length Wx W' H' D (whileL mt mb fg m sl' st'), fun σ' H' h => ⟨m, Nat.lt_succ_self _, h⟩, W2, sl1, st2, h2, s2, ?_⟩
      cases q : mb sl1 st2 with
      | nx sl3 st3 =>
        rw [q] at p2
        intro W3 sh3 H3 l3 x3 h3 s3
        rw [hl] at l3 p2
        exact ⟨l3, W3, _, st3, h3, s3.wipe, PostS.ext x3 p2⟩
      | ct sl3 st3 =>
        rw [q] at p2
        intro W3 sh3 H3 l3 x3 h3 s3
        rw [hl] at l3 p2
        exact ⟨l3, W3, _, st3, h3, s3.wipe, PostS.ext x3 p2⟩
      | bk sl3 st3 =>
        rw [q] at p2
        intro W3 sh3 H3 l3 x3 h3 s3
        exact p2 W3 sh3 H3 l3 x3 h3 s3.wipe
      | rt d st3 => rw [q] at p2; exact p2
      | exc a b => rw [q] at p2; exact p2
      | bad => rw [q] at p2; exact p2
end
end Pv
set_option Elab.async false
set_option linter.all false
set_option maxRecDepth 100000
set_option maxHeartbeats 1000000
set_option pp.maxSteps 400
namespace Pv
open PySem PySem.Spec L2
open PyProof.Rows hiding St signs cutD pairD
section
variable {X : Cx} {Wx : WX} {pins : List (Addr × Obj)} {σ : L2.St} {H : Hp} {s : Shared}
/-- (e, ..) laid down so -/
def mkTupZ (ds : List D) (st : Sto) : R D := if ds.length ≤ sizeLine then .ok (Gc ds) st else .bad
def mTupZ (ms : Ms) : M := fun sl st => (ms sl st).bind mkTupZ
@[simp] theorem e_tupZ {ms : Ms} {sl : Sl} {st : Sto} : mTupZ ms sl st = (ms sl st).bind mkTupZ := rfl
def isGc : D → Option (List D)
  | .dict [(.none, .tuple ds)] => some ds
  | _ => none
def mCntZ (a b : M) : M := fun sl st => (a sl st).bind fun o st => match isGc o with
  | some ds => (b sl st).bind fun d st => lift (cntD ds (deref st d)) st
  | none => .bad
@[simp] theorem e_cntZ {a b : M} {sl : Sl} {st : Sto} : mCntZ a b sl st = (a sl st).bind fun o st => match isGc o with
  | some ds => (b sl st).bind fun d st => lift (cntD ds (deref st d)) st
  | none => .bad := rfl
@[simp] theorem isGc_at {ds : List D} : isGc (Gc ds) = some ds := rfl
end
end Pv
set_option Elab.async false
set_option linter.all false
set_option maxRecDepth 100000
set_option maxHeartbeats 1000000
set_option pp.maxSteps 400
namespace Pv
open PySem PySem.Spec L2
open PyProof.Rows hiding St signs cutD pairD
def fzSl (g : Nat → Option D) : Sl → Option Sl
  | [] => some []
  | none :: r => (fzSl g r).map (none :: ·)
  | some d :: r => (fz g d).bind fun e => (fzSl g r).map (some e :: ·)
/-- slots that hold nothing of what comes behind -/
def SlC (n : Nat) (Z : Sl) : Prop := ∀ g : Nat → Option D, (∀ r, r < n → g r = some (Rf r)) → fzSl g Z = some Z
theorem SlC.nil {n : Nat} : SlC n [] := fun _ _ => rfl
theorem SlC.none {n : Nat} {Z : Sl} (h : SlC n Z) : SlC n (none :: Z) := fun g hg => by show (fzSl g Z).map _ = _; rw [h g hg]; rfl
end Pv
set_option Elab.async false
set_option linter.all false
set_option maxRecDepth 100000
set_option maxHeartbeats 1000000
set_option pp.maxSteps 400
namespace Pv
open PySem PySem.Spec L2
open PyProof.Rows hiding St signs cutD pairD
theorem SlC.str {n : Nat} {Z : Sl} {z : Str} (h : SlC n Z) : SlC n (some (.str z) :: Z) := fun g hg => by
  show (some (PyData.str z)).bind (fun e => (fzSl g Z).map (some e :: ·)) = _
  rw [h g hg]; rfl
def mSm (f : Str → F1) (a b : M) : M := fun sl st => (a sl st).bind fun o st => match o with
  | .str z => (b sl st).bind fun d st => f z d st
  | _ => .bad
def fSplit (z : Str) : F1 := fun d st => match deref st d with
  | .str b => if (b.length == 0) = false ∧ z.length + 2 ≤ sizeLine then .ok (.list ((Txt.split z b).map .str)) st else .bad
  | _ => .bad
def joinD (z : Str) (ds : List D) : Option D := match strsOfD ds with
  | some ys => if (ys.map (·.length)).sum + ys.length * z.length ≤ 16777216 then some (.str (Txt.join z ys)) else none
  | none => none
def fJoin (z : Str) : F1 := fun d st => match deref st d with
  | .list ds => lift (joinD z ds) st
  | .tuple ds => lift (joinD z ds) st
  | _ => .bad
def mSplit : M → M → M := mSm fSplit
def mJoin : M → M → M := mSm fJoin
@[simp] theorem e_sm {f : Str → F1} {a b : M} {sl : Sl} {st : Sto} : mSm f a b sl st = (a sl st).bind fun o st => match o with
  | .str z => (b sl st).bind fun d st => f z d st
  | _ => .bad := rfl
@[simp] theorem e_split {a b : M} {sl : Sl} {st : Sto} : mSplit a b sl st = (a sl st).bind fun o st => match o with
  | .str z => (b sl st).bind fun d st => fSplit z d st
  | _ => .bad := rfl
@[simp] theorem e_join {a b : M} {sl : Sl} {st : Sto} : mJoin a b sl st = (a sl st).bind fun o st => match o with
  | .str z => (b sl st).bind fun d st => fJoin z d st
  | _ => .bad := rfl
def fExt (o d : D) (st : Sto) : R D :=
  match o with
  | .dict [(.int r, .none)] => (match st[r.toNat]?, deref st d with | some (.lst ds), .list es => if ds.length + es.length ≤ sizeLine then .ok .none (st.set r.toNat (.lst (ds ++ es))) else .bad | _, _ => .bad)
  | _ => .bad
def mExt : M → M → M := mLm fExt
@[simp] theorem e_ext {a b : M} {sl : Sl} {st : Sto} : mExt a b sl st = (a sl st).bind fun o st => if isLst st o = true then (b sl st).bind fun d st => fExt o d st else .bad := rfl
def pairOfD : D → Option (Key × D)
  | .tuple [k, v] => (keyOf k).map fun c => (c, v)
  | _ => none
def pairsOfD : List D → Option (List (Key × D))
  | [] => some []
  | d :: ds => match pairOfD d, pairsOfD ds with | some p, some ps => some (p :: ps) | _, _ => none
def fDictP : F1 := fun x st => match deref st x with
  | .list ds => (match pairsOfD ds with | some ps => .ok (Rf st.length) (st ++ [.dct (mergeD [] ps)]) | none => .bad)
  | _ => .bad
def mDictP : M → M := mOp1 fDictP
@[simp] theorem e_dictP {a : M} {sl : Sl} {st : Sto} : mDictP a sl st = (a sl st).bind fun x st => fDictP x st := rfl
def fDin (neg : Bool) : F2 := fun y x st => match dlook st x y with
  | some o => .ok (.bool (o.isSome != neg)) st
  | none => .bad
def mDin (neg : Bool) : M → M → M := mOp2 (fDin neg)
@[simp] theorem e_din {neg : Bool} {a b : M} {sl : Sl} {st : Sto} : mDin neg a b sl st = (a sl st).bind fun y st => (b sl st).bind fun x st => fDin neg y x st := rfl
instance {x : Str} {n : Int} : Decidable (MulOk x n) := by unfold MulOk; infer_instance
def dMulT : D → D → Option D
  | .str a, .int n => if MulOk a n then some (.str (Txt.mul a n)) else none
  | _, _ => none
def mMulT : M → M → M := mOp2 (onD2 dMulT)
@[simp] theorem e_mulT {a b : M} {sl : Sl} {st : Sto} : mMulT a b sl st = (a sl st).bind fun x st => (b sl st).bind fun y st => onD2 dMulT x y st := rfl
end Pv
set_option Elab.async false
set_option linter.all false
set_option maxRecDepth 100000
set_option maxHeartbeats 1000000
set_option pp.maxSteps 400
namespace Pv
open PySem PySem.Spec L2
open PyProof.Rows hiding St signs cutD pairD
def tyZ (st : Sto) (d : D) : Option Ty := match isGc d with
  | some _ => some .tuple
  | none => tyD st d
def mIsiZ (T : Ty) (m : M) : M := fun sl st => (m sl st).bind fun d st => lift ((tyZ st d).map fun t => .bool (t.sub T)) st
@[simp] theorem e_isiZ {T : Ty} {m : M} {sl : Sl} {st : Sto} : mIsiZ T m sl st = (m sl st).bind fun d st => lift ((tyZ st d).map fun t => .bool (t.sub T)) st := rfl
@[simp] theorem tyZ_gc {st : Sto} {ds : List D} : tyZ st (Gc ds) = some .tuple := rfl
@[simp] theorem tyZ_none {st : Sto} : tyZ st .none = some .non := rfl
@[simp] theorem tyZ_bool {st : Sto} {b : Bool} : tyZ st (.bool b) = some .bool := rfl
@[simp] theorem tyZ_int {st : Sto} {i : Int} : tyZ st (.int i) = some .int := rfl
@[simp] theorem tyZ_str {st : Sto} {x : Str} : tyZ st (.str x) = some .str := rfl
@[simp] theorem tyZ_list {st : Sto} {ds : List D} : tyZ st (.list ds) = some .list := rfl
@[simp] theorem tyZ_tuple {st : Sto} {ds : List D} : tyZ st (.tuple ds) = some .tuple := rfl
/-- a slice of such a tuple -/
def fSlZ (lo hi : Option Int) : F1 := fun x st => match isGc x with
  | some ds => .ok (Gc (cutD ds lo hi)) st
  | none => .bad
def mSlZ (ma : M) (lo hi : MO?) : M := fun sl st => (ma sl st).bind fun x st => (lo sl st).bind fun l st => (hi sl st).bind fun h st => fSlZ l h x st
@[simp] theorem e_slZ {ma : M} {lo hi : MO?} {sl : Sl} {st : Sto} : mSlZ ma lo hi sl st = (ma sl st).bind fun x st => (lo sl st).bind fun l st => (hi sl st).bind fun h st => fSlZ l h x st := rfl
@[simp] theorem fSlZ_gc {ds : List D} {lo hi : Option Int} {st : Sto} : fSlZ lo hi (Gc ds) st = .ok (Gc (cutD ds lo hi)) st := rfl
def fRevZ : F1 := fun x st => match isGc x with
  | some ds => .ok (Gc ds.reverse) st
  | none => .bad
def mRevZ (ma : M) : M := fun sl st => (ma sl st).bind fun x st => fRevZ x st
@[simp] theorem e_revZ {ma : M} {sl : Sl} {st : Sto} : mRevZ ma sl st = (ma sl st).bind fun x st => fRevZ x st := rfl
@[simp] theorem fRevZ_gc {ds : List D} {st : Sto} : fRevZ (Gc ds) st = .ok (Gc ds.reverse) st := rfl
mutual
/-- the same with plain tuples -/
def flat : D → D
  | .none => .none
  | .bool b => .bool b
  | .int i => .int i
  | .str x => .str x
  | .list ds => .list (flatL ds)
  | .tuple ds => .tuple (flatL ds)
  | .dict [(.none, .tuple ds)] => .tuple (flatL ds)
  | .dict kvs => .dict kvs
def flatL : List D → List D
  | [] => []
  | d :: ds => flat d :: flatL ds
end
def reprZ (d : D) : Option D := if (flat d).canLay0 = true ∧ (flat d).showable = true ∧ (flat d).depth ≤ 100 ∧ (flat d).shown.length ≤ sizeLine then some (.str (flat d).shown) else none
def mReprZ (m : M) : M := fun sl st => (m sl st).bind fun d st => lift (reprZ d) st
@[simp] theorem e_reprZ {m : M} {sl : Sl} {st : Sto} : mReprZ m sl st = (m sl st).bind fun d st => lift (reprZ d) st := rfl
@[simp] theorem flat_gc (ds : List D) : flat (Gc ds) = .tuple (flatL ds) := by unfold Gc flat; rfl
@[simp] theorem src_gc {ds : List D} {st : Sto} : srcOf (Gc ds) st = .ok ⟨ds, always⟩ st := rfl
@[simp] theorem isGc_list {ds : List D} : isGc (.list ds) = none := rfl
@[simp] theorem isGc_tuple {ds : List D} : isGc (.tuple ds) = none := rfl
end Pv
set_option Elab.async false
set_option linter.all false
set_option maxRecDepth 100000
set_option maxHeartbeats 3200000
namespace Pv
open PySem PySem.Spec L2
open PyProof.Rows hiding St signs cutD pairD
/-- each slot is met early enough -/
def Meets (m : Nat) : Prop := m ≤ 127 ∧ m % 2 = 1 ∧ ∀ (z : Int) (j : Nat), j ≤ m → ∃ k, k < 10 * SetTable.turns m ∧ way m z k = j
theorem Meets.ok {m : Nat} (h : MaskOk m) : Meets m := ⟨by rcases h with e | e | e <;> omega, mask_odd h, fun z j hj => nth_meets h z hj⟩
/-- the table of the hashes hs -/
structure TabP (t : SetTable) (hs : List Int) : Prop where
  ris : Ris t.place.toList
  dm : t.dummies = #[]
  sz : t.place.size = hs.length
  met : Meets t.mask
  reach : ∀ p ∈ hs.zip t.place.toList, ∃ k, way t.mask p.1 k = p.2 ∧ ∀ k', k' < k → way t.mask p.1 k' ∈ t.place.toList
theorem zip_mem {α β : Type} : ∀ {l : List α} {m : List β} {p : α × β}, p ∈ l.zip m → ∃ i : Nat, l[i]? = some p.1 ∧ m[i]? = some p.2
  | [], _, p, h => by simp at h
  | _ :: _, [], p, h => by simp at h
  | a :: l, b :: m, p, h => by
    rw [List.zip_cons_cons] at h
    rcases List.mem_cons.mp h with e | e
    · subst e; exact ⟨0, rfl, rfl⟩
    · obtain ⟨i, h1, h2⟩ := zip_mem e
      exact ⟨i + 1, by simpa using h1, by simpa using h2⟩
theorem TabP.of {t : SetTable} {hs : List Int} (T : TabOk t hs) : TabP t hs := ⟨T.ris, T.dm, T.sz, .ok T.mok, fun p hp => by
  obtain ⟨i, h1, h2⟩ := zip_mem hp
  exact T.reach i p.1 p.2 h1 h2⟩
/-- what is asked of such elements -/
structure ElemK (P : Program) (w : World) (κ : Type) [DecidableEq κ] where
  is : Heap → κ → Addr → Prop
  hash : κ → Int
  eqs : ∀ {A : Around} {E : Value → Shared → Prop} {s : Shared} {x y : κ} {a b : Addr} {Q : Bool → Shared → Prop}, A.units < cLine → is s.heap x a → is s.heap y b → Q (decide (x = y)) s → wpAny (model P w) A (eqBool (.ref a) (.ref b)) Q E s
  quiet : ∀ {A : Around} {E : Value → Shared → Prop} {s : Shared} {k : κ} {b : Addr} {ys : List Value} {Q : Bool → Shared → Prop}, is s.heap k b → (∀ y ∈ ys, ∃ j c, y = Value.ref c ∧ is s.heap j c) → Q false s → wpAny (model P w) A (searchCouldBeSeen (.ref b) ys) Q E s
  byv : ∀ {A : Around} {E : Value → Shared → Prop} {s : Shared} {k : κ} {b : Addr} {Q : Bool → Shared → Prop}, is s.heap k b → (∀ c, Q c s) → wpAny (model P w) A (hashByValue 8 (.ref b)) Q E s
  hsh : ∀ {A : Around} {E : Value → Shared → Prop} {s : Shared} {k : κ} {b : Addr} {Q : Int → Shared → Prop}, A.units < cLine → is s.heap k b → (∀ tk, s.toks ≤ tk → Q (hash k) { s with toks := tk }) → wpAny (model P w) A (pyHash (.ref b)) Q E s
  set : ∀ {h h' : Heap} {k : κ} {a b : Addr} {o : Obj} {es : Array (Int × Value)} {ep : Nat} {t : SetTable}, is h k b → h.get? a = some o → o.data = .set es ep t → Heap.SameBut a h h' → is h' k b
  more : ∀ {h h' : Heap} {k : κ} {b : Addr}, is h k b → (∀ c o, h.get? c = some o → h'.get? c = some o) → is h' k b
section
variable {P : Program} {w : World} {κ : Type} [DecidableEq κ] (D : ElemK P w κ)
def rowE (L : List (Addr × κ)) : List (Int × Value) := L.map fun p => (D.hash p.2, Value.ref p.1)
/-- at a stands the set of the elements L, its table as it should be -/
structure SetE (h : Heap) (a : Addr) (L : List (Addr × κ)) (es : Array (Int × Value)) (ep : Nat) (t : SetTable) : Prop where
  obj : ∃ o, h.get? a = some o ∧ o.ExactSet ∧ o.data = .set es ep t
  row : es.toList = rowE D L
  tab : TabP t (L.map fun p => D.hash p.2)
  nod : (L.map (·.2)).Nodup
  els : ∀ p ∈ L, D.is h p.2 p.1
  led : w.params.followText "set-order" = true ∨ t.led = true
  gap : L.length * 5 < t.mask * 3
  few : L.length < 64
end
section
variable {P : Program} {w : World} {κ : Type} [DecidableEq κ] {D : ElemK P w κ} {A : Around} {E : Value → Shared → Prop} {s : Shared} {a : Addr} {L : List (Addr × κ)} {es : Array (Int × Value)} {ep : Nat} {t : SetTable} {h h' : Heap}
theorem rowE_len : (rowE D L).length = L.length := List.length_map _
theorem SetE.size (R : SetE D h a L es ep t) : es.size = L.length := by rw [← Array.length_toList, R.row, rowE_len]
theorem SetE.own (R : SetE D h a L es ep t) : ¬ t.gaveWay = true := by
  unfold SetTable.gaveWay
  rw [R.tab.met.2.1]; decide
end
end Pv
set_option Elab.async false
set_option linter.all false
set_option maxRecDepth 100000
set_option maxHeartbeats 3200000
namespace Pv
open PySem PySem.Spec L2
open PyProof.Rows hiding St signs cutD pairD
section
variable {P : Program} {w : World} {κ : Type} [DecidableEq κ] {D : ElemK P w κ} {A : Around} {E : Value → Shared → Prop} {s : Shared} {a : Addr} {L : List (Addr × κ)} {es : Array (Int × Value)} {ep : Nat} {t : SetTable} {h h' : Heap}
theorem SetE.at (R : SetE D h a L es ep t) (keep : ∀ o, h.get? a = some o → h'.get? a = some o) (els : ∀ p ∈ L, D.is h' p.2 p.1) : SetE D h' a L es ep t := by
  obtain ⟨o, ho, r⟩ := R.obj
  exact ⟨⟨o, keep o ho, r⟩, R.row, R.tab, R.nod, els, R.led, R.gap, R.few⟩
/-- of the elements ks, just those of the first i have come in -/
structure Came (ks : List (Addr × κ)) (i : Nat) (L : List (Addr × κ)) : Prop where
  sub : ∀ p ∈ L, p ∈ ks
  all : ∀ k, k ∈ L.map (·.2) ↔ k ∈ (ks.take i).map (·.2)
  len : L.length ≤ i
theorem Came.step {ks L L' : List (Addr × κ)} {i : Nat} {p : Addr × κ} (g : Came ks i L) (hp : ks[i]? = some p) (c1 : p.2 ∈ L.map (·.2) → L' = L) (c2 : p.2 ∉ L.map (·.2) → L'.Perm (p :: L)) : Came ks (i + 1) L' := by
  have e : (ks.take (i + 1)).map (·.2) = (ks.take i).map (·.2) ++ [p.2] := by rw [List.take_add_one, hp, List.map_append]; rfl
  by_cases c : p.2 ∈ L.map (·.2)
  · rw [c1 c]
    refine ⟨g.sub, fun k => ?_, Nat.le_succ_of_le g.len⟩
    rw [e, List.mem_append, List.mem_singleton, g.all]
    exact ⟨.inl, fun q => q.elim id fun z => by rw [z]; exact (g.all _).mp c⟩
  · have pm := c2 c
    refine ⟨fun q hq => ?_, fun k => ?_, by rw [pm.length_eq, List.length_cons]; exact Nat.succ_le_succ g.len⟩
    · rcases List.mem_cons.mp (pm.mem_iff.mp hq) with z | z
      · rw [z]; exact List.mem_of_getElem? hp
      · exact g.sub q z
    · rw [e, (pm.map (·.2)).mem_iff, List.map_cons, List.mem_cons, List.mem_append, List.mem_singleton, g.all]
      exact Or.comm
end
end Pv
set_option Elab.async false
set_option linter.all false
set_option maxRecDepth 100000
set_option maxHeartbeats 3200000
namespace Pv
open PySem PySem.Spec L2
open PyProof.Rows hiding St signs cutD pairD
end Pv
set_option Elab.async false
set_option linter.all false
set_option maxRecDepth 100000
set_option maxHeartbeats 1000000
namespace Pv
open PySem PySem.Spec L2
open PyProof.Rows hiding St signs cutD pairD
end Pv
set_option Elab.async false
set_option linter.all false
set_option maxRecDepth 100000
set_option maxHeartbeats 1000000
namespace Pv
open PySem PySem.Spec L2
open PyProof.Rows hiding St signs cutD pairD
def dKey : L2.Key → PyData
  | .inl i => .int i
  | .inr x => .str x
def encK (k : List L2.Key) : PyData := .tuple (k.map dKey)
def ltK (k j : List L2.Key) : Bool := PySem.W.dataLt (encK k) (encK j)
end Pv
set_option Elab.async false
set_option linter.all false
set_option maxRecDepth 100000
set_option maxHeartbeats 1000000
namespace Pv
open PySem PySem.Spec L2
open PyProof.Rows hiding St signs cutD pairD
def keyD : D → Option L2.Key
  | .int i => some (.inl i)
  | .str x => some (.inr x)
  | _ => none
def keysD : List D → Option (List L2.Key)
  | [] => some []
  | d :: ds => match keyD d, keysD ds with
    | some k, some ks => some (k :: ks)
    | _, _ => none
def tupK : D → Option (List L2.Key)
  | .tuple (d :: ds) => keysD (d :: ds)
  | _ => none
def tupsK : List D → Option (List (List L2.Key))
  | [] => some []
  | d :: ds => match tupK d, tupsK ds with
    | some k, some ks => some (k :: ks)
    | _, _ => none
@[simp] theorem keyD_of (k : L2.Key) : keyD (dKey k) = some k := by cases k <;> rfl
def alikeK (ks : List (List L2.Key)) : Bool := ks.all fun k => ks.all fun j => PySem.W.alike (encK k) (encK j)
def dSrtP : D → Option D
  | .list ds => (tupsK ds).bind fun ks => if ks.length < 64 ∧ alikeK ks = true then some (.list ((srtO ltK ks).map encK)) else none
  | _ => none
def mSrtP : M → M := mOp1 (onD1 dSrtP)
@[simp] theorem e_srtP {a : M} {sl : Sl} {st : Sto} : mSrtP a sl st = (a sl st).bind fun x st => lift (dSrtP (deref st x)) st := rfl
end Pv
set_option Elab.async false
set_option linter.all false
set_option maxRecDepth 100000
set_option maxHeartbeats 3200000
namespace Pv
open PySem PySem.Spec L2
open PyProof.Rows hiding St signs cutD pairD
end Pv
set_option Elab.async false
set_option linter.all false
set_option maxRecDepth 100000
set_option maxHeartbeats 3200000
namespace Pv
open PySem PySem.Spec L2
open PyProof.Rows hiding St signs cutD pairD
end Pv
set_option Elab.async false
set_option linter.all false
set_option maxRecDepth 100000
set_option maxHeartbeats 1000000
namespace Pv
open PySem PySem.Spec L2
open PyProof.Rows hiding St signs cutD pairD
section
variable {K : PySem.W.Frag} {W : Wd} {H : Hp} {st : Sto} {a : Addr} {xs : List V}
/-- a tuple that stands is one that never changes -/
theorem HR.frz (h : HR K W H st) (e : H a = some (.tup xs)) : HR K ⟨upd W.F a (.tup xs), W.rho⟩ H st ∧ Ext W H ⟨upd W.F a (.tup xs), W.rho⟩ H := by
  have hn : a ∉ W.rho := fun ha => by
    obtain ⟨r, hr⟩ := List.mem_iff_getElem?.mp ha
    obtain ⟨m, hm, _, q⟩ := h.at hr
    cases m with
    | lst ds => obtain ⟨ys, z, _⟩ := q; rw [e] at z; cases z
    | ro ds => obtain ⟨o, ys, z, _⟩ := q; rw [e] at z; cases z
    | dct ds => obtain ⟨ys, z, _⟩ := q; rw [e] at z; cases z
    | dctT ds => obtain ⟨ys, z, _⟩ := q; rw [e] at z; cases z
    | tb P q' => obtain ⟨_, ps, z⟩ := q; rw [e] at z; cases z
  have hf : ∀ b u, W.F b = some u → upd W.F a (.tup xs) b = some u := fun b u z => by
    by_cases hb : b = a
    · subst hb
      have := h.sub _ _ z
      rw [e] at this; cases this
      exact upd_same
    · rw [upd_ne hb]; exact z
  refine ⟨⟨h.len, h.nd, fun b u z => ?_, fun r b m e1 e2 => ?_, h.tab, fun b ps z => ?_⟩, ⟨hf, ⟨[], by simp, fun _ z => by cases z⟩, fun _ _ z _ _ => z, fun _ z => z, fun b u z => ?_⟩⟩
  · have z' : upd W.F a (.tup xs) b = some u := z
    by_cases hb : b = a
    · subst hb; rw [upd_same] at z'; cases z'; exact e
    · rw [upd_ne hb] at z'; exact h.sub b u z'
  · have hb : b ≠ a := fun z => hn (by rw [← z]; exact List.mem_of_getElem? e1)
    obtain ⟨p, q⟩ := h.obj r b m e1 e2
    exact ⟨by show upd W.F a (.tup xs) b = none; rw [upd_ne hb]; exact p, repO_mono (W := W) hf (fun _ _ z => z) (fun u z => z) q⟩
  · have z' : upd W.F a (.tup xs) b = some (.tbl ps) := z
    by_cases hb : b = a
    · subst hb; rw [upd_same] at z'; cases z'
    · rw [upd_ne hb] at z'; exact h.nt b ps z'
  · have z' : upd W.F a (.tup xs) b = some u := z
    by_cases hb : b = a
    · subst hb; exact .inr (.inr ⟨hn, xs, e⟩)
    · rw [upd_ne hb] at z'; exact .inl z'
end
def dSrtDT (st : Sto) (d : D) : Option D := match d with
  | .dict [(.int r, .none)] => (match st[r.toNat]? with
    | some (.dctT kvs) => if kvs.length < 64 ∧ (kvs.all fun p => !p.1.isEmpty) = true ∧ alikeK (kvs.map (·.1)) = true then some (.list ((srtO ltK (kvs.map (·.1))).map encK)) else none
    | _ => none)
  | _ => none
def mSrtDT (m : M) : M := fun sl st => (m sl st).bind fun d st => lift (dSrtDT st d) st
@[simp] theorem e_srtDT {a : M} {sl : Sl} {st : Sto} : mSrtDT a sl st = (a sl st).bind fun d st => lift (dSrtDT st d) st := rfl
end Pv
set_option Elab.async false
set_option linter.all false
set_option maxRecDepth 100000
set_option maxHeartbeats 3200000
namespace Pv
open PySem PySem.Spec L2
open PyProof.Rows hiding St signs cutD pairD
end Pv
set_option Elab.async false
set_option linter.all false
set_option maxRecDepth 100000
set_option maxHeartbeats 1000000
namespace Pv
open PySem PySem.Spec L2
open PyProof.Rows hiding St signs cutD pairD
def txtsK : List L2.Key → Option (List Str)
  | [] => some []
  | .inr x :: ks => (txtsK ks).map (x :: ·)
  | _ => none
def dSrtDK (st : Sto) (d : D) : Option D := match d with
  | .dict [(.int r, .none)] => (match st[r.toNat]? with
    | some (.dct kvs) => (txtsK (kvs.map (·.1))).bind fun xs => if xs.length < 64 then some (.list ((srtT xs).map .str)) else none
    | _ => none)
  | _ => none
def mSrtDK (m : M) : M := fun sl st => (m sl st).bind fun d st => lift (dSrtDK st d) st
@[simp] theorem e_srtDK {a : M} {sl : Sl} {st : Sto} : mSrtDK a sl st = (a sl st).bind fun d st => lift (dSrtDK st d) st := rfl
end Pv
set_option Elab.async false
set_option linter.all false
set_option maxRecDepth 100000
set_option maxHeartbeats 1000000
namespace Pv
open PySem PySem.Spec L2
open PyProof.Rows hiding St signs cutD pairD
def dLenS (d : Pv.D) : Option Pv.D :=
  match d with
  | .list ds => (strsOfD ds).bind fun xs => if xs.length ≤ 1000 then some (.int (srtT xs).length) else none
  | _ => none
def mLenS : M → M := mOp1 (onD1 dLenS)
@[simp] theorem e_lenS {a : M} {sl : Sl} {st : Sto} : mLenS a sl st = (a sl st).bind fun x st => lift (dLenS (deref st x)) st := rfl
def dLenDK (st : Sto) (d : Pv.D) : Option Pv.D :=
  match d with
  | .dict [(.int r, .none)] => (match st[r.toNat]? with | some (.dct kvs) => some (.int kvs.length) | _ => none)
  | _ => none
end Pv
set_option Elab.async false
set_option linter.all false
set_option maxRecDepth 100000
set_option maxHeartbeats 1000000
namespace Pv
open PySem PySem.Spec L2
open PyProof.Rows hiding St signs cutD pairD
def dValsD (st : Sto) (d : D) : Option D := match d with
  | .dict [(.int r, .none)] => (match st[r.toNat]? with
    | some (.dct kvs) => if kvs.length ≤ sizeLine then some (.list (kvs.map (·.2))) else none
    | _ => none)
  | _ => none
def mValsD (m : M) : M := fun sl st => (m sl st).bind fun d st => lift (dValsD st d) st
@[simp] theorem e_valsD {a : M} {sl : Sl} {st : Sto} : mValsD a sl st = (a sl st).bind fun d st => lift (dValsD st d) st := rfl
end Pv
set_option Elab.async false
set_option linter.all false
set_option maxRecDepth 100000
set_option maxHeartbeats 1000000
namespace Pv
open PySem PySem.Spec L2
open PyProof.Rows hiding St signs cutD pairD
def pairsK (kvs : List (L2.Key × D)) : List D := kvs.map fun p => .tuple [dKey p.1, p.2]
def pairsT (kvs : List (List L2.Key × D)) : List D := kvs.map fun p => .tuple [encK p.1, p.2]
/-- the dict leaves the store (nothing else knows it) -/
def itemsOf (n : Nat) (d : D) (st : Sto) : R Src :=
  match d with
  | .dict [(.int r, .none)] => if n ≤ r.toNat then (match st[r.toNat]? with
    | some (.dct kvs) => (match fzP (lookF 6 n st) kvs, fzS (lookF 6 n st) (st.take n) with | some es, some st' => .ok ⟨pairsK es, always⟩ st' | _, _ => .bad)
    | some (.dctT kvs) => (match fzP (lookF 6 n st) kvs, fzS (lookF 6 n st) (st.take n) with | some es, some st' => .ok ⟨pairsT es, always⟩ st' | _, _ => .bad)
    | _ => .bad) else .bad
  | _ => .bad
def mItems (m : M) : MI := fun sl st => (m sl st).bind fun d st1 => itemsOf st.length d st1
@[simp] theorem e_items {a : M} {sl : Sl} {st : Sto} : mItems a sl st = (a sl st).bind fun d st1 => itemsOf st.length d st1 := rfl
end Pv
set_option Elab.async false
set_option linter.all false
set_option maxRecDepth 100000
set_option maxHeartbeats 1000000
namespace Pv
open PySem PySem.Spec L2
open PyProof.Rows hiding St signs cutD pairD
def dListS : Pv.D → Option Pv.D
  | .str z => if z.cps.size ≤ sizeLine then some (.list (signs z)) else none
  | _ => none
def mListS : M → M := mOp1 (onD1 dListS)
@[simp] theorem e_listS {a : M} {sl : Sl} {st : Sto} : mListS a sl st = (a sl st).bind fun x st => lift (dListS (deref st x)) st := rfl
end Pv
set_option Elab.async false
set_option linter.all false
set_option maxRecDepth 100000
set_option maxHeartbeats 1000000
namespace Pv
open PySem PySem.Spec L2
open PyProof.Rows hiding St signs cutD pairD
def pairOfT : D → Option (List Key × D)
  | .tuple [.tuple ks, v] => (keysOf ks).map fun c => (c, v)
  | _ => none
def pairsOfT : List D → Option (List (List Key × D))
  | [] => some []
  | d :: ds => match pairOfT d, pairsOfT ds with | some p, some ps => some (p :: ps) | _, _ => none
def mergeT (ps : List (List Key × D)) : List (List Key × D) := ps.foldl (fun acc kv => putD acc kv.1 kv.2) []
def fDictPT : F1 := fun x st => match deref st x with
  | .list ds => (match pairsOfT ds with | some ps => .ok (Rf st.length) (st ++ [.dctT (mergeT ps)]) | none => .bad)
  | _ => .bad
def mDictPT : M → M := mOp1 fDictPT
@[simp] theorem e_dictPT {a : M} {sl : Sl} {st : Sto} : mDictPT a sl st = (a sl st).bind fun x st => fDictPT x st := rfl
end Pv
set_option Elab.async false
set_option linter.all false
set_option maxRecDepth 100000
set_option maxHeartbeats 1000000
namespace PySem
open PySem.Spec
end PySem
namespace L2
open PySem PySem.Spec
end L2
namespace Pv
open PySem PySem.Spec L2
open PyProof.Rows hiding St signs cutD pairD
def fMrgI (r0 : Nat) (x : D) (st : Sto) : Option Sto := match x with
  | .dict [(.int r, .none)] => if r.toNat = r0 then none else (match st[r0]?, st[r.toNat]? with
    | some (.dct k0), some (.dct ls) => if k0.length + ls.length ≤ sizeLine then some (st.set r0 (.dct (mergeD k0 ls))) else none
    | _, _ => none)
  | _ => none
def mMrg (ma mb : M) : M := fun sl st => (ma sl (st ++ [.dct []])).bind fun x st1 => match fMrgI st.length x st1 with
  | some st2 => (mb sl st2).bind fun y st3 => (match fMrgI st.length y st3 with
    | some st4 => .ok (Rf st.length) st4
    | none => .bad)
  | none => .bad
@[simp] theorem e_mrg {a b : M} {sl : Sl} {st : Sto} : mMrg a b sl st = (a sl (st ++ [.dct []])).bind fun x st1 => match fMrgI st.length x st1 with
  | some st2 => (b sl st2).bind fun y st3 => (match fMrgI st.length y st3 with
    | some st4 => .ok (Rf st.length) st4
    | none => .bad)
  | none => .bad := rfl
end Pv
set_option Elab.async false
set_option linter.all false
set_option maxRecDepth 100000
set_option maxHeartbeats 1000000
set_option pp.maxSteps 1500
namespace Pv
open PySem PySem.Spec L2
open PyProof.Rows hiding St signs cutD pairD
def namesN (n : Net) : List Str := n.hosts.map (·.n)
section
variable {n : Net} {f : Str → Str}
theorem NetV.nd (V : NetV n) : (namesN n).Nodup := ascB_nodup ltX_ord V.asc
end
end Pv
set_option Elab.async false
set_option linter.all false
set_option maxRecDepth 100000
set_option maxHeartbeats 1000000
namespace Pv
open PySem PySem.Spec L2
open PyProof.Rows hiding St signs cutD pairD
def fLenDK : F1 := fun x st => match dLenDK st x with | some d => .ok d st | none => .bad
def mLenDK : M → M := mOp1 fLenDK
@[simp] theorem e_lenDK {a : M} {sl : Sl} {st : Sto} : mLenDK a sl st = (a sl st).bind fun x st => fLenDK x st := rfl
end Pv
set_option Elab.async false
set_option linter.all false
set_option maxRecDepth 100000
set_option maxHeartbeats 1000000
namespace Pv
open PySem PySem.Spec L2
open PyProof.Rows hiding St signs cutD pairD
end Pv
set_option Elab.async false
set_option linter.all false
set_option maxRecDepth 100000
set_option maxHeartbeats 1600000
namespace Pv
open PySem PySem.Spec L2
open PyProof.Rows hiding St signs cutD pairD
def z3 (as : List Addr) (xs ys : List V) : List (Addr × V × V) := List.zip as (List.zip xs ys)
end Pv
set_option Elab.async false
set_option linter.all false
set_option maxRecDepth 100000
set_option maxHeartbeats 1600000
namespace Pv
open PySem PySem.Spec L2
open PyProof.Rows hiding St signs cutD pairD
def fListZ : F2 := fun x y st => match x, y with
  | .tuple xs, .tuple ys => .ok (.list (List.zipWith pairD xs ys)) st
  | x, y => match deref st x, deref st y with
    | .list xs, .list ys => .ok (.list (List.zipWith pairD xs ys)) st
    | _, _ => .bad
def mListZ (a b : M) : M := fun sl st => (a sl st).bind fun x st => (b sl st).bind fun y st => fListZ x y st
@[simp] theorem e_listZ {a b : M} {sl : Sl} {st : Sto} : mListZ a b sl st = (a sl st).bind fun x st => (b sl st).bind fun y st => fListZ x y st := rfl
@[simp] theorem listZ_tt {xs ys : List Pv.D} {st : Sto} : fListZ (.tuple xs) (.tuple ys) st = .ok (.list (List.zipWith pairD xs ys)) st := rfl
end Pv
set_option Elab.async false
set_option linter.all false
set_option maxRecDepth 100000
set_option maxHeartbeats 1600000
namespace Pv
open PySem PySem.Spec L2
open PyProof.Rows hiding St signs cutD pairD
def dListDT (st : Sto) (d : D) : Option D := match d with
  | .dict [(.int r, .none)] => (match st[r.toNat]? with
    | some (.dctT kvs) => some (.list (kvs.map fun p => encK p.1))
    | _ => none)
  | _ => none
def mListDT (m : M) : M := fun sl st => (m sl st).bind fun d st => lift (dListDT st d) st
@[simp] theorem e_listDT {a : M} {sl : Sl} {st : Sto} : mListDT a sl st = (a sl st).bind fun d st => lift (dListDT st d) st := rfl
end Pv
set_option Elab.async false
set_option linter.all false
set_option maxRecDepth 100000
set_option maxHeartbeats 1600000
namespace Pv
open PySem PySem.Spec L2
open PyProof.Rows hiding St signs cutD pairD
def dMax2 : D → D → Option D
  | .int i, .int j => some (.int (if j > i then j else i))
  | _, _ => none
def mMax2 : M → M → M := mOp2 (onD2 dMax2)
@[simp] theorem e_max2 {a b : M} {sl : Sl} {st : Sto} : mMax2 a b sl st = (a sl st).bind fun x st => (b sl st).bind fun y st => onD2 dMax2 x y st := rfl
def fListR : F1 := fun x st => match x with
  | .int n => if decide (-(2 ^ 62) ≤ n ∧ n ≤ 16777216) = true then .ok (.list (rngD 0 n.toNat)) st else .bad
  | _ => .bad
def mListR (a : M) : M := fun sl st => (a sl st).bind fListR
@[simp] theorem e_listR {a : M} {sl : Sl} {st : Sto} : mListR a sl st = (a sl st).bind fListR := rfl
theorem listR_n {n : Nat} {st : Sto} (h : n ≤ 16777216) : fListR (.int (n : Int)) st = .ok (.list ((List.range n).map fun (j : Nat) => PyData.int (j : Int))) st := by
  show (if decide (-(2 ^ 62) ≤ (n : Int) ∧ (n : Int) ≤ 16777216) = true then R.ok (PyData.list (rngD 0 (n : Int).toNat)) st else .bad) = _
  rw [if_pos (by rw [decide_eq_true_eq]; omega), Int.toNat_natCast, rngD_eq]
section
variable {X : Cx} {Wx : WX} {ea eb : Expr} {ma mb : M} {pos pos0 apos p p0 : Pos}
theorem repL_ints {K : PySem.W.Frag} {W : Wd} (f : Nat → Int) : ∀ l : List Nat, repL K W (l.map fun i => V.int (f i)) (l.map fun i => PyData.int (f i))
  | [] => rfl
  | i :: l => ⟨.int (f i), _, rfl, rfl, repL_ints f l⟩
theorem ge_listR (g : Gd X) (hm0 : X.mg "list" = none) (hm : X.mg "range" = none) (ha : GE X Wx ea ma) (hg0 : Gl X "list" := by rfl) (hg : Gl X "range" := by rfl)
    (na : starEach [.Call (.Name "range" p) [ea] [] pos] X.env = (false, eval (.Call (.Name "range" p) [ea] [] pos) X.env) :: starEach [] X.env := by rfl)
    (nb : starEach [ea] X.env = (false, eval ea X.env) :: starEach [] X.env := by rfl) (hpl : (backTo pos (starEach [] X.env)).any (·.1) = false := by rfl) :
    GE X Wx (.Call (.Name "list" p0) [.Call (.Name "range" p) [ea] [] pos] [] pos0) (mListR ma) := by
  refine PE.imp (pe_listRg g.calm hg0 hm0 (prg_1 hg hm ha nb) na) fun sh H R ⟨W, sl, st, hr, hsl, q⟩ => ?_
  refine rd_bind hr hsl q fun d1 st1 W1 v1 H1 e1 x1 h1 s1 r1 p1 => ?_
  unfold fListR at p1
  split at p1
  · rename_i n
    split at p1
    · rename_i hn
      rw [decide_eq_true_eq] at hn
      cases r1
      refine ⟨n, rfl, ⟨by omega, by omega, by omega, by omega, by omega⟩, fun q hq => ?_⟩
      obtain ⟨h4, x4⟩ := h1.new (o := .lst (rgV 0 n)) hq
      refine p1 _ (.ref q) _ x4 h4 ⟨q, rgV 0 n, rfl, upd_same, ?_⟩
      unfold rgV rngD
      rw [show (n - 0).toNat = n.toNat by omega]
      exact repL_ints (fun i => 0 + (i : Int)) _
    · exact p1.elim
  · exact p1.elim
end
def fIdx (x y : D) (st : Sto) : R D :=
  match deref st x with
  | .list ds => if SeqAt.shaped (.list ds) = true ∧ SeqAt.shaped (deref st y) = true then (match ds.findIdx? fun d => PyData.eqv d (deref st y) with | some j => .ok (.int (j : Int)) st | none => .bad) else .bad
  | _ => .bad
def mIdx (a b : M) : M := fun sl st => (a sl st).bind fun o st => if isLstD st o = true then (b sl st).bind fun d st => fIdx o d st else .bad
@[simp] theorem e_idx {a b : M} {sl : Sl} {st : Sto} : mIdx a b sl st = (a sl st).bind fun o st => if isLstD st o = true then (b sl st).bind fun d st => fIdx o d st else .bad := rfl
end Pv
set_option Elab.async false
set_option linter.all false
set_option maxRecDepth 100000
set_option maxHeartbeats 1600000
namespace Pv
abbrev Mat := Int → Int → Option Int
/-- no entry shrinks -/
def leM (f g : Mat) : Prop := ∀ j k a, f j k = some a → ∃ b, g j k = some b ∧ a ≤ b
theorem leM.refl (f : Mat) : leM f f := fun _ _ a h => ⟨a, h, Int.le_refl _⟩
theorem leM.trans {f g h : Mat} (x : leM f g) (y : leM g h) : leM f h := fun j k a e => by
  obtain ⟨b, e1, l1⟩ := x j k a e
  obtain ⟨c, e2, l2⟩ := y j k b e1
  exact ⟨c, e2, Int.le_trans l1 l2⟩
theorem leM.some {f g : Mat} (x : leM f g) {j k : Int} (h : (f j k).isSome = true) : (g j k).isSome = true := by
  obtain ⟨a, e⟩ := Option.isSome_iff_exists.mp h
  obtain ⟨b, e1, _⟩ := x j k a e
  rw [e1]; rfl
structure Ph (f : Mat) (mid : Int) (h : Mat) : Prop where
  le : leM f h
  up : ∀ j k c, h j k = some c → f j k = some c ∨ ∃ a b, f j mid = some a ∧ f mid k = some b ∧ c = a + b
  col : ∀ j, h j mid = f j mid
  row : ∀ k, h mid k = f mid k
theorem Ph.refl (f : Mat) (mid : Int) : Ph f mid f := ⟨leM.refl f, fun _ _ _ e => .inl e, fun _ => rfl, fun _ => rfl⟩
end Pv
set_option Elab.async false
set_option linter.all false
set_option maxRecDepth 100000
set_option maxHeartbeats 1600000
namespace Pv
open PySem PySem.Spec L2
open PyProof.Rows hiding St signs cutD pairD
inductive All2 {α β : Type} (R : α → β → Prop) : List α → List β → Prop
  | nil : All2 R [] []
  | cons {x y xs ys} : R x y → All2 R xs ys → All2 R (x :: xs) (y :: ys)
theorem All2.len {α β : Type} {R : α → β → Prop} {xs : List α} {ys : List β} (h : All2 R xs ys) : ys.length = xs.length := by
  induction h with
  | nil => rfl
  | cons _ _ ih => rw [List.length_cons, List.length_cons, ih]
theorem All2.mem {α β : Type} {R : α → β → Prop} {xs : List α} {ys : List β} (h : All2 R xs ys) : ∀ y ∈ ys, ∃ x ∈ xs, R x y := by
  induction h with
  | nil => exact fun _ h => nomatch h
  | cons r _ ih =>
    intro z hz
    rcases List.mem_cons.mp hz with rfl | hz
    · exact ⟨_, List.mem_cons_self, r⟩
    · obtain ⟨x, hx, q⟩ := ih z hz
      exact ⟨x, List.mem_cons_of_mem _ hx, q⟩
theorem All2.map {α β γ : Type} {R : α → β → Prop} {xs : List α} {ys : List β} (h : All2 R xs ys) {f : α → γ} {g : β → γ} (e : ∀ x y, R x y → g y = f x) : ys.map g = xs.map f := by
  induction h with
  | nil => rfl
  | cons r _ ih => rw [List.map_cons, List.map_cons, e _ _ r, ih]
end Pv
set_option Elab.async false
set_option linter.all false
set_option maxRecDepth 100000
set_option maxHeartbeats 1600000
namespace Pv
def entB (f : Mat) (j k : Int) (A : Nat) : Prop := ∀ a, f j k = some a → a.natAbs ≤ A
def rowB (f : Mat) (j : Int) (A : Nat) : Prop := ∀ k, entB f j k A
theorem entB.mono {f : Mat} {j k : Int} {A B : Nat} (h : entB f j k A) (l : A ≤ B) : entB f j k B := fun a e => Nat.le_trans (h a e) l
theorem rowB.mono {f : Mat} {j : Int} {A B : Nat} (h : rowB f j A) (l : A ≤ B) : rowB f j B := fun k => (h k).mono l
end Pv
set_option Elab.async false
set_option linter.all false
set_option maxRecDepth 100000
set_option maxHeartbeats 1600000
namespace Pv
open PySem PySem.Spec L2
open PyProof.Rows hiding St signs cutD pairD
end Pv
set_option Elab.async false
set_option linter.all false
set_option maxRecDepth 100000
set_option maxHeartbeats 1600000
namespace Pv
open PySem PySem.Spec L2
open PyProof.Rows hiding St signs cutD pairD
def tgUnl (n : Nat) (t : MGs) : MG := fun d sl st => match deref st d with | .list ds => if ds.length = n then t ds sl st else .bad | _ => .bad
@[simp] theorem e_tgUnl {n : Nat} {g : MGs} {ds : List Pv.D} {sl : Sl} {st : Sto} : tgUnl n g (.list ds) sl st = if ds.length = n then g ds sl st else .bad := rfl
end Pv
set_option Elab.async false
set_option linter.all false
set_option maxRecDepth 100000
set_option maxHeartbeats 1600000
namespace Pv
open PySem PySem.Spec L2
open PyProof.Rows hiding St signs cutD pairD
mutual
def fan : D → Nat
  | .tuple ds => max ds.length (fanL ds)
  | .list ds => max ds.length (fanL ds)
  | _ => 0
def fanL : List D → Nat
  | [] => 0
  | d :: ds => max (fan d) (fanL ds)
end
/-- size, depth, numbers, lengths -/
structure Bw (d : D) (n k b l : Nat) : Prop where
  bd : Bd d n k b
  fn : fan d ≤ l
theorem Bw.mono {d : D} {n k b l n' k' b' l' : Nat} (h : Bw d n k b l) (hn : n ≤ n') (hk : k ≤ k') (hb : b ≤ b') (hl : l ≤ l') : Bw d n' k' b' l' := ⟨h.bd.mono hn hk hb, Nat.le_trans h.fn hl⟩
theorem Bw.int {i : Int} {b k l : Nat} (h : i.natAbs ≤ b) (hb : b < 10 ^ 62) : Bw (.int i) 64 k b l := ⟨.int h hb, Nat.zero_le _⟩
theorem Bw.str {z : Str} {n b k l : Nat} (h : (PyData.str z).canLay0 = true) (hz : 10 * z.length + 4 ≤ n) : Bw (.str z) n k b l := ⟨.str h hz, Nat.zero_le _⟩
end Pv
set_option Elab.async false
set_option linter.all false
set_option maxRecDepth 100000
set_option maxHeartbeats 1600000
namespace Pv
open PySem PySem.Spec L2
open PyProof.Rows hiding St signs cutD pairD
def pairOk : D → Bool
  | .tuple [.int _, .int _] => true
  | _ => false
def dMaxT : D → Option D
  | .list (d :: ds) => if (d :: ds).all pairOk = true then some (PySem.W.maxD d ds) else none
  | _ => none
def mMaxT : M → M := mOp1 (onD1 dMaxT)
@[simp] theorem e_maxT {a : M} {sl : Sl} {st : Sto} : mMaxT a sl st = (a sl st).bind fun x st => onD1 dMaxT x st := rfl
end Pv
set_option Elab.async false
set_option linter.all false
set_option maxRecDepth 100000
set_option maxHeartbeats 1600000
namespace Pv
abbrev Bnds := Int × Int → Option Int
end Pv
set_option Elab.async false
set_option linter.all false
set_option maxRecDepth 100000
set_option maxHeartbeats 1000000
set_option pp.maxSteps 400
namespace Pv
open PySem PySem.Spec L2 LamX
open PyProof.Rows hiding St
def Kp (h h' : Heap) : Prop := ∀ b o, h.get? b = some o → h'.get? b = some o
theorem Kp.refl (h : Heap) : Kp h h := fun _ _ e => e
theorem Kp.trans {a b c : Heap} (x : Kp a b) (y : Kp b c) : Kp a c := fun d o e => y d o (x d o e)
section
variable {prog : Program} {w : World} {A : Around} {env : Env} {h₁ : Heap}
/-- e's value is told by R, whatever was laid behind h₁ -/
def Pu (prog : Program) (w : World) (A : Around) (env : Env) (h₁ : Heap) (e : Expr) (R : Heap → Value → Prop) : Prop :=
  ∀ (s : Shared) (Q : Value → Shared → Prop) (E : Value → Shared → Prop), Kp h₁ s.heap → (∀ v h' tk, Kp s.heap h' → R h' v → Q v { s with heap := h', toks := tk }) → wpAny (model prog w) A (eval e env) Q E s
/-- a value that reads as d, without lists -/
def RdD (d : PyData) : Heap → Value → Prop := fun h v => Reads h v d []
theorem Pu.mono {e : Expr} {R R' : Heap → Value → Prop} (p : Pu prog w A env h₁ e R) (h : ∀ g v, Kp h₁ g → R g v → R' g v) : Pu prog w A env h₁ e R' := fun s Q E k q => p s Q E k fun v h' tk k' r => q v h' tk k' (h h' v (k.trans k') r)
theorem pu_loc {x : Str} {p : Pos} {m : Str → Option Value} {u : Value} (hk : env.scope.kind = .function) (hl : env.kindOf x = some .local) (hn : h₁.Ns env.locals m) (hm : m x = some u) (hd : (x == ("__debug__" : Str)) = false) : Pu prog w A env h₁ (.Name x p) (fun _ v => v = u) :=
  fun s Q E k q => wpAny_Name (wpAny_loadName_local hk hl (hn.keeps k) hm (q u s.heap s.toks (Kp.refl _) rfl)) hd
theorem pu_free {x : Str} {p : Pos} {c : Addr} {u : Value} (hk : env.scope.kind = .function) (hl : env.kindOf x = some .free) (hc : env.cells.lookup x = some c) (hv : h₁.IsCell c (some u)) (hd : (x == ("__debug__" : Str)) = false) (hcd : (x == ("__classdict__" : Str)) = false) : Pu prog w A env h₁ (.Name x p) (fun _ v => v = u) :=
  fun s Q E k q => by
    obtain ⟨o, ho, hd'⟩ := hv
    exact wpAny_Name (wpAny_loadName_free hk hl hc ⟨o, k _ _ ho, hd'⟩ (q u s.heap s.toks (Kp.refl _) rfl) hcd) hd
theorem pu_int {i : Int} {j : Nat} {p : Pos} : Pu prog w A env h₁ (.Constant (.int i) j p) (RdD (.int i)) := fun s Q E k q => wpAny_Constant_int (q _ s.heap _ (Kp.refl _) (.int i _))
theorem rd_int {h : Heap} {v : Value} {i : Int} (r : RdD (.int i) h v) : ∃ t, v = .int i t := by
  obtain ⟨t, e, _⟩ := PyProof.Rows.reads_int_inv r
  exact ⟨t, e⟩
/-- l[i], l a list -/
theorem pu_ixL {ea eb : Expr} {p : Pos} {l : Addr} {its : Array Value} {i : Int} {x : Value} (h1 : Pu prog w A env h₁ ea (fun _ v => v = .ref l)) (h2 : Pu prog w A env h₁ eb (RdD (.int i))) (hl : h₁.IsList l its) (h0 : 0 ≤ i) (hf : i < 2 ^ 63) (hx : its[i.toNat]? = some x) (hs : PlainIx eb := by exact fun _ _ => rfl) :
    Pu prog w A env h₁ (.Subscript ea eb p) (fun _ v => v = x) := fun s Q E k q => by
  refine Subscript_ (h1 s _ E k fun v1 g1 t1 k1 r1 => h2 _ _ E (k.trans k1) fun v2 g2 t2 k2 r2 => ?_)
  obtain ⟨t, rfl⟩ := rd_int r2
  subst r1
  obtain ⟨o, ho, hr⟩ := hl
  exact item_listR (l := l) (items := its) ⟨o, (k.trans (k1.trans k2)) _ _ ho, hr⟩ h0 hf hx (q x g2 t2 (k1.trans k2) rfl) (hs _ _)
end
end Pv
set_option Elab.async false
set_option linter.all false
set_option maxRecDepth 100000
set_option maxHeartbeats 1000000
set_option pp.maxSteps 400
namespace Pv
open PySem PySem.Spec L2 LamX
open PyProof.Rows hiding St
structure LamS1 (sc scope : Scope) (p : Str) : Prop where
  kind : scope.kind = .function
  co : scope.isCoroutine = false
  gen : scope.isGenerator = false
  par : scope.names.lookup p = some .local
  nocell : ∀ y ∈ scope.names, y.2 ≠ .cell
  free : ∀ y ∈ scope.names, y.2 = .free → sc.names.lookup y.1 = some .cell ∨ sc.names.lookup y.1 = some .free
def lamS1B (sc scope : Scope) (p : Str) : Bool :=
  decide (scope.kind = .function) && (!scope.isCoroutine && (!scope.isGenerator && (decide (scope.names.lookup p = some .local) && scope.names.all fun y => !decide (y.2 = .cell) && (!decide (y.2 = .free) || (decide (sc.names.lookup y.1 = some .cell) || decide (sc.names.lookup y.1 = some .free))))))
theorem lamS1_by {sc scope : Scope} {p : Str} (h : lamS1B sc scope p = true) : LamS1 sc scope p := by
  unfold lamS1B at h
  simp only [Bool.and_eq_true, Bool.or_eq_true, Bool.not_eq_true', decide_eq_true_eq, decide_eq_false_iff_not, List.all_eq_true] at h
  obtain ⟨h1, h2, h3, h5, h4⟩ := h
  refine ⟨h1, h2, h3, h5, fun y hy => (h4 y hy).1, fun y hy e => ?_⟩
  rcases (h4 y hy).2 with z | z
  · exact absurd e z
  · exact z
theorem LamS1.has {X : Cx} {scope : Scope} {p : Str} (L : LamS1 X.env.scope scope p) (ok : X.Ok) : ∀ y ∈ scope.names, y.2 = .free → ∃ c, X.env.cells.lookup y.1 = some c := fun y hy e => by
  rcases L.free y hy e with k | k
  · exact ok.has _ (.inl k)
  · exact ok.has _ (.inr k)
section
variable {X : Cx} {pins : List (Addr × Obj)} {σ : L2.St} {H : Hp} {s : Shared}
theorem lam1_pure {A : Around} {scope : Scope} {p : Str} {f c' : Addr} {params : Arguments} {body : Expr} {pm ctv u : Value} {h : Heap} {tk : Nat} {k : PyData} (I : L2.Inv X pins σ H s) (L : LamS1 X.env.scope scope p)
    (hf : s.heap.get? f = some (PySem.W.kla_obj "<lambda>" (X.env.qual ++ "<lambda>") params body scope (cloFrom X.env.cells scope.names []) pm c' ctv)) (hco : H c' = some (CodeO c' (X.env.qual ++ "<lambda>")))
    (hb : bindArgs (PySem.W.kla_fn "<lambda>" (X.env.qual ++ "<lambda>") params body scope (cloFrom X.env.cells scope.names []) pm (.ref c') ctv) ⟨[u], []⟩ = pure [(p, u)]) (hd : A.depth < recursionLimit) (kp : Kp s.heap h)
    (hbody : ∀ (Lf : Addr) (h₁ : Heap), Kp h h₁ → h₁.Ns Lf (fun y => [(p, u)].reverse.lookup y) → Pu X.prog X.w (A.deeper (lamEnv X scope Lf f c')) (lamEnv X scope Lf f c') h₁ body (RdD k)) :
    wpAny (model X.prog X.w) A (call (.ref f) [u]) (PySem.W.KeyPure k { s with heap := h, toks := tk }) (fun _ _ => False) { s with heap := h, toks := tk } := by
  obtain ⟨⟨oc, vs, t, g1, g2, g3⟩, _, _⟩ := I.hok c' _ hco
  have deep : codeAny (model X.prog X.w) A (.call (.ref f) ⟨[u], []⟩) (fun r s' => match r with | .ok (.ret v) => PySem.W.KeyPure k { s with heap := h, toks := tk } v s' | _ => False) { s with heap := h, toks := tk } := by
    refine PySem.W.kla_callFunE hd (kp _ _ hf) rfl L.co L.gen rfl ⟨c', oc, vs, t, rfl, kp _ _ g1, g2, g3⟩ ?_
    rw [hb]
    apply wpAny_pure
    apply wpAny_newFunctionEnv L.nocell (fun y hy => by rw [List.mem_singleton.mp hy]; exact L.par) (hk := L.kind)
    intro h₁ ns1 same
    refine ⟨(I.nolimit.keeps kp).fresh _ same, ?_⟩
    have old : Kp h h₁ := fun b o e => same.extBut b o (Nat.ne_of_lt (Heap.lt_size e)) (Heap.get?_push_of_some _ e)
    apply PySem.W.kla_codeExpr
    exact hbody h.objs.size h₁ old ns1 _ _ _ (Kp.refl _) fun v h' tk' k' r => ⟨h', tk', rfl, fun b o e => k' _ _ (old b o e), r⟩
  refine wpAny_call (codeAny_mono deep ?_)
  rintro (_ | (_ | _ | _ | _)) s2 z
  all_goals first | exact z.elim | exact z
end
abbrev KF := Sl → Sto → D → Option D
/-- the body's value for an item d is kf's -/
def KeyP (X : Cx) (scope : Scope) (p : Str) (body : Expr) (kf : KF) : Prop :=
  ∀ (pins : List (Addr × Obj)) (σ : L2.St) (H : Hp) (s : Shared) (W : Wd) (sl : Sl) (st : Sto) (A : Around) (f c' Lf : Addr) (h₁ : Heap) (v : V) (u : Value) (d k : D), L2.Inv X pins σ H s → HR (nv X).K W H st → SR (nv X).K W σ sl → rep (nv X).K W v d → RelV v u → kf sl st d = some k →
    Kp s.heap h₁ → h₁.Ns Lf (fun y => [(p, u)].reverse.lookup y) → Pu X.prog X.w A (lamEnv X scope Lf f c') h₁ body (RdD k)
def pairK (kf : KF) (sl : Sl) (st : Sto) : List D → Option (List (D × D))
  | [] => some []
  | d :: ds => match kf sl st d, pairK kf sl st ds with
    | some k, some r => some ((d, k) :: r)
    | _, _ => none
theorem pairK_map {kf : KF} {sl : Sl} {st : Sto} : ∀ {ds : List D} {ps : List (D × D)}, pairK kf sl st ds = some ps → ps.map (·.1) = ds ∧ ∀ p ∈ ps, kf sl st p.1 = some p.2
  | [], ps, h => by cases h; exact ⟨rfl, fun _ h => nomatch h⟩
  | d :: ds, ps, h => by
    unfold pairK at h
    split at h
    · rename_i k r e1 e2
      cases h
      obtain ⟨a, b⟩ := pairK_map e2
      refine ⟨by rw [List.map_cons, a], fun p hp => ?_⟩
      rcases List.mem_cons.mp hp with rfl | hp
      · exact e1
      · exact b p hp
    · cases h
/-- sorted(xs, key=lambda ..) -/
def dSortK (kf : KF) (sl : Sl) (st : Sto) : D → Option D
  | .list ds => match pairK kf sl st ds with
    | some ps => if srtOk (ps.map (·.2)) = true then some (.list ((ps.mergeSort (PySem.W.dataLe false Prod.snd)).map (·.1))) else none
    | none => none
  | _ => none
def mSortK (P : Addr) (q : Str) (kf : KF) (m : M) : M := fun sl st => (m sl st).bind fun x st' => if tbOk st' P q = true then lift (dSortK kf sl st' (deref st' x)) st' else .bad
end Pv
set_option Elab.async false
set_option linter.all false
set_option maxRecDepth 100000
set_option maxHeartbeats 1000000
set_option pp.maxSteps 800
namespace Pv
open PySem PySem.Spec L2 LamX
open PyProof.Rows hiding St
end Pv
set_option Elab.async false
set_option linter.all false
set_option maxRecDepth 100000
set_option maxHeartbeats 1000000
set_option pp.maxSteps 800
namespace Pv
open PySem PySem.Spec L2 LamX
open PyProof.Rows hiding St
theorem repL_at {K : PySem.W.Frag} {W : Wd} : ∀ {vs : List V} {ds : List D} {j : Nat} {d : D}, repL K W vs ds → ds[j]? = some d → ∃ v, vs[j]? = some v ∧ rep K W v d
  | _, d :: ds, 0, e, ⟨v, us, q, r, l⟩, h => by subst q; cases h; exact ⟨v, rfl, r⟩
  | _, d :: ds, j + 1, e, ⟨v, us, q, r, l⟩, h => by
    subst q
    exact repL_at (j := j) l (by simpa using h)
section
variable {X : Cx} {scope : Scope} {p : Str}
theorem lam_cell {pins : List (Addr × Obj)} {σ : L2.St} {H : Hp} {s : Shared} {x : Str} {i : Nat} {v : V} {f c' Lf : Addr} (I : L2.Inv X pins σ H s) (L : LamS1 X.env.scope scope p) (hN : X.N[i]? = some x) (hx : scope.names.lookup x = some .free) (hv : σ[i]? = some (some v)) :
    ∃ u c, RelV v u ∧ (lamEnv X scope Lf f c').cells.lookup x = some c ∧ s.heap.IsCell c (some u) := by
  have hmem : (x, NameKind.free) ∈ scope.names := PySem.mem_of_lookup hx
  have hvis : Vis X.env.scope x := (L.free _ hmem rfl).elim (fun k => .inr (.inl k)) (fun k => .inr (.inr k))
  obtain ⟨m, hn, hl⟩ := I.loc
  obtain ⟨u, r, q⟩ := hl i x v hN hv hvis
  obtain ⟨c2, h2⟩ := mem_lookup (cloFrom_has (cells := X.env.cells) (acc := []) hmem)
  have c1 : X.env.cells.lookup x = some c2 := by
    rcases cloFrom_mem (PySem.mem_of_lookup h2) with hm | ⟨h1, h3⟩
    · cases hm
    · obtain ⟨c4, hc⟩ := L.has I.ok _ h1 rfl
      have hc : X.env.cells.lookup x = some c4 := hc
      have e2 : c2 = c4 := by
        rw [h3, hc] <;> rfl
      rw [e2]
      exact hc
  refine ⟨u, c2, r, h2, ?_⟩
  rcases q with ⟨k', _⟩ | ⟨_, c3, e', z⟩
  · have k' : X.env.scope.names.lookup x = some .local := k'
    rcases L.free _ hmem rfl with k2 | k2 <;> rw [show X.env.scope.names.lookup x = _ from k2] at k' <;> cases k'
  · rw [c1] at e'
    cases e'
    exact z
end
end Pv
set_option Elab.async false
set_option linter.all false
set_option maxRecDepth 100000
set_option maxHeartbeats 1000000
set_option pp.maxSteps 800
namespace Pv
open PySem PySem.Spec L2
open PyProof.Rows hiding St
def rngN (i : Int) (n : Nat) : List Pv.D := (List.range n).map fun (k : Nat) => PyData.int (i + (k : Int) * (-1))
def fRngN (c d e : Pv.D) (st : Sto) : R Src := match c with
  | .int i => (match d with
    | .int j => (match e with
      | .int k => if k = -1 ∧ inR62 i = true ∧ inR62 j = true then .ok ⟨rngN i (i - j).toNat, always⟩ st else .bad
      | _ => .bad)
    | _ => .bad)
  | _ => .bad
def mRng3 (a b c : M) : MI := fun sl st => (a sl st).bind fun x st => (b sl st).bind fun y st => (c sl st).bind fun z st => fRngN x y z st
@[simp] theorem e_rng3 {a b c : M} {sl : Sl} {st : Sto} : mRng3 a b c sl st = (a sl st).bind fun x st => (b sl st).bind fun y st => (c sl st).bind fun z st => fRngN x y z st := rfl
@[simp] theorem e_sortK {P : Addr} {q : Str} {kf : KF} {m : M} {sl : Sl} {st : Sto} : mSortK P q kf m sl st = (m sl st).bind fun x st' => if tbOk st' P q = true then lift (dSortK kf sl st' (deref st' x)) st' else .bad := rfl
end Pv
set_option Elab.async false
set_option linter.all false
set_option maxRecDepth 100000
set_option maxHeartbeats 1000000
set_option pp.maxSteps 800
namespace Pv
open PySem PySem.Spec L2
open PyProof.Rows hiding St
def dSortedQ : Pv.D → Option Pv.D
  | .list ds => if srtOk ds = true then some (.list (sortD ds)) else if ds.length ≤ 1 then some (.list ds) else none
  | _ => none
def mSortedQ : M → M := mOp1 (onD1 dSortedQ)
@[simp] theorem e_sortedQ {a : M} {sl : Sl} {st : Sto} : mSortedQ a sl st = (a sl st).bind fun x st => lift (dSortedQ (deref st x)) st := rfl
end Pv
set_option Elab.async false
set_option linter.all false
set_option maxRecDepth 100000
set_option maxHeartbeats 1000000
set_option pp.maxSteps 800
namespace Pv
open PySem PySem.Spec L2
open PyProof.Rows hiding St
section
variable {X : Cx} {Wx : WX} {ea : Expr} {ma : M} {pos p p2 q : Pos}
def dSrtQ : Pv.D → Option Pv.D
  | .list [.tuple []] => some (.list [.tuple []])
  | d => dSrtP d
def mSrtQ : M → M := mOp1 (onD1 dSrtQ)
@[simp] theorem e_srtQ {a : M} {sl : Sl} {st : Sto} : mSrtQ a sl st = (a sl st).bind fun x st => lift (dSrtQ (deref st x)) st := rfl
end
end Pv
set_option Elab.async false
set_option linter.all false
set_option maxRecDepth 100000
set_option maxHeartbeats 1000000
set_option pp.maxSteps 800
namespace Pv
open PySem PySem.Spec L2
open PyProof.Rows hiding St signs cutD pairD
def dMaxU : D → Option D
  | .tuple [.int a, .int b] => some (.int (max a b))
  | _ => none
def mMaxU : M → M := mOp1 (onD1 dMaxU)
@[simp] theorem e_maxU {a : M} {sl : Sl} {st : Sto} : mMaxU a sl st = (a sl st).bind fun x st => lift (dMaxU (deref st x)) st := rfl
end Pv
set_option Elab.async false
set_option linter.all false
set_option maxRecDepth 100000
set_option maxHeartbeats 1000000
set_option pp.maxSteps 800
namespace Pv
open PySem PySem.Spec L2
open PyProof.Rows hiding St
def fListM : F1 := fun x st => match deref st x with
  | .list ds => .ok (Rf st.length) (st ++ [.lst ds])
  | .tuple ds => .ok (Rf st.length) (st ++ [.lst ds])
  | _ => .bad
def mListM : M → M := mOp1 fListM
@[simp] theorem e_listM {a : M} {sl : Sl} {st : Sto} : mListM a sl st = (a sl st).bind fun x st => fListM x st := rfl
end Pv
set_option Elab.async false
set_option linter.all false
set_option maxRecDepth 100000
set_option maxHeartbeats 1000000
set_option pp.maxSteps 800
namespace Pv
end Pv
set_option Elab.async false
set_option linter.all false
set_option maxRecDepth 100000
set_option maxHeartbeats 3200000
namespace Pv
open PySem PySem.Spec L2
open PyProof.Rows hiding St signs cutD pairD
def dSrtSetT : Pv.D → Option Pv.D
  | .tuple ds => (intsOfD ds).bind fun ns => if ns.length ≤ 1000 ∧ (srtU ns).length < 64 then some (.list ((srtU ns).map .int)) else none
  | _ => none
def mSrtSetT : M → M := mOp1 (onD1 dSrtSetT)
@[simp] theorem e_srtSetT {a : M} {sl : Sl} {st : Sto} : mSrtSetT a sl st = (a sl st).bind fun x st => lift (dSrtSetT (deref st x)) st := rfl
end Pv
set_option Elab.async false
set_option linter.all false
set_option maxRecDepth 100000
set_option maxHeartbeats 1000000
set_option pp.maxSteps 800
namespace Pv
open PySem PySem.Spec L2
open PyProof.Rows hiding St signs cutD pairD
def laterC (bd : Bnds) (m k : Nat) (L : Nat → Int) : List Int := (List.range' (k + 1) (m - (k + 1))).filterMap fun (j : Nat) => (bd ((k : Int), (j : Int))).map fun v => L j - v
def latS (bd : Bnds) (m k : Nat) (L : Nat → Int) : Nat → Int := fun i => if i = k then (laterC bd m k L).foldl min (L k) else L i
def latF (bd : Bnds) (m : Nat) : Nat → (Nat → Int)
  | 0 => fun k => -((bd ((k : Int), -1)).getD 0)
  | d + 1 => latS bd m (m - 1 - d) (latF bd m d)
def lat (bd : Bnds) (m : Nat) : Nat → Int := latF bd m m
end Pv
set_option Elab.async false
set_option linter.all false
set_option maxRecDepth 100000
set_option maxHeartbeats 1000000
set_option pp.maxSteps 800
namespace Pv
open PySem PySem.Spec L2 LamX
open PyProof.Rows hiding St signs cutD pairD
def firstMax (ks : List Int) : Nat := argBest (fun i j => decide (ks.getD i 0 > ks.getD j 0)) (ks.length - 1)
def dMaxK (kf : KF) (sl : Sl) (st : Sto) : D → Option D
  | .list ds => match pairK kf sl st ds with
    | some ps => (match intsOfD (ps.map (·.2)) with
      | some ks => if ds.length ≤ 1000 then ds[firstMax ks]? else none
      | none => none)
    | none => none
  | _ => none
def mMaxK (P : Addr) (q : Str) (kf : KF) (m : M) : M := fun sl st => (m sl st).bind fun x st' => if tbOk st' P q = true then lift (dMaxK kf sl st' (deref st' x)) st' else .bad
theorem ints_at {ds : List D} {ks : List Int} (h : intsOfD ds = some ks) : ds = ks.map .int := ints_of_D h
theorem argBest_le (bt : Nat → Nat → Bool) : ∀ k, argBest bt k ≤ k
  | 0 => Nat.le_refl _
  | k + 1 => by
    unfold argBest
    split
    · exact Nat.le_refl _
    · exact Nat.le_succ_of_le (argBest_le bt k)
section
variable {X : Cx} {Wx : WX} {ea : Expr} {m : M}
theorem ge_maxK {q : Str} {P : Addr} {kf : KF} {params : Arguments} {body : Expr} {scope : Scope} {p : Str} {p0 lpos kpos pos : Pos} (room : Room 0 X.A) (g : Gd X) (tb : ∃ c, TabB X.base X.mg c P ∧ X.env.code = .ref c) (hm : X.mg "max" = none)
    (ha : GE X Wx ea m) (hkey : KeyP X scope p body kf) (L : LamS1 X.env.scope scope p) (hg : Gl X "max" := by rfl) (hq : X.env.qual ++ "<lambda>" = q := by rfl) (hdef : defaultsOf params X.env = ([], []) := by rfl)
    (hbind : ∀ (q : Str) (cl : List (Str × Addr)) (pm cv ctv u : Value), bindArgs (PySem.W.kla_fn "<lambda>" q params body scope cl pm cv ctv) ⟨[u], []⟩ = pure [(p, u)] := by intros; rfl)
    (he : backTo pos (starEach [ea] X.env) = [(false, eval ea X.env)] := by rfl) :
    GE X Wx (.Call (.Name "max" p0) [ea] [⟨some "key", .Lambda params body scope lpos, kpos⟩] pos) (mMaxK P q kf m) := by
  subst hq
  obtain ⟨c, TB, hcode⟩ := tb
  constructor
  rintro pins s σ H Q I ⟨W, sl, st, hr, hs, hp⟩
  refine wpAny_Call_Name_kw (ld_blt (u := .builtin "max") I hg hm (by decide +kernel) ?_ (by decide +kernel) (by decide +kernel))
  refine PyProof.Rows.callWith_kw (M := model X.prog X.w) (E := X.xe) ?_ he (by rw [he]; rfl) (by rfl) (by rfl)
  rw [he]
  let Q' : VK := fun v H1 => ∃ d st1 W1, m sl st = .ok d st1 ∧ Ext W H W1 H1 ∧ HR (nv X).K W1 H1 st1 ∧ rep (nv X).K W1 v d
  have post' : Post (nv X) W H Q' (fun cls dd H' => Wx cls dd σ H') (m sl st) := by
    unfold mMaxK at hp
    cases hms : m sl st with
    | ok d st1 => exact fun W1 v H1 e1 h1 r1 => ⟨d, st1, W1, hms, e1, h1, r1⟩
    | exc x st1 => rw [hms] at hp; exact hp
    | bad => rw [hms] at hp; exact hp
  refine Calls.spliced_cons (thn (ha.run pins s σ H Q' I ⟨W, sl, st, hr, hs, post'⟩) fun u s1 ⟨x, H1, I1, r1, d, st1, W1, hms, x1, h1, rr⟩ => Calls.spliced_nil ?_)
  unfold mMaxK at hp
  rw [hms] at hp
  simp only [R.bind_ok] at hp
  split at hp
  rotate_left
  · exact hp.elim
  rename_i hok
  unfold tbOk at hok
  rw [Bool.and_eq_true, decide_eq_true_eq, List.all_eq_true] at hok
  obtain ⟨hmem, huniq⟩ := hok
  show wpAny _ _ (evalAll [do let v ← eval (.Lambda params body scope lpos) X.env; standAt pos; pure v]) _ _ _
  refine wpAny_evalAll_cons (wpAny_bind (lam_make2 I1 TB hcode hmem (fun p hm hP => ?_) h1.tab hdef (L.has I1.ok) fun f c' pm ctv H2 s2 I2 eN T2 hf hfn hfr hco => wpAny_bind (wpAny_standAt (wpAny_pure (wpAny_evalAll_nil ?_)))))
  · have z := huniq p hm
    simpa [hP] using z
  obtain ⟨h2, x2⟩ := h1.extN eN T2
  cases hx : deref st1 d with
  | list ds =>
    rw [hx] at hp
    unfold dMaxK at hp
    simp only at hp
    cases hpk : pairK kf sl st1 ds with
    | none => rw [hpk] at hp; exact hp.elim
    | some ps =>
      rw [hpk] at hp
      simp only at hp
      cases hik : intsOfD (ps.map (·.2)) with
      | none => rw [hik] at hp; exact hp.elim
      | some ks =>
        rw [hik] at hp
        simp only at hp
        split at hp
        rotate_left
        · exact hp.elim
        rename_i hz5
        cases hat : ds[firstMax ks]? with
        | none => rw [hat] at hp; exact hp.elim
        | some dm =>
          rw [hat] at hp
          obtain ⟨e1, e2⟩ := pairK_map hpk
          have e3 := ints_at hik
          obtain ⟨a, xs, q1, q2, l⟩ := rep_dlist h2 rr hx
          subst q1
          obtain rfl : u = Value.ref a := r1
          obtain ⟨its, rv, hl, hz⟩ := I2.list (X := X) (a := a) (xs := xs) (.inl (.inl q2))
          have hs1 := SR.ext x1 hs
          have pp := Post.ext (x1.trans x2) hp
          have lk : ks.length = ds.length := by
            have h1 := congrArg List.length e1
            have h2 := congrArg List.length e3
            rw [List.length_map] at h1 h2
            rw [List.length_map] at h2
            omega
          have li : its.toArray.size = ds.length := by rw [List.size_toArray, ← rv.length, repL_length l]
          have npos : 0 < ds.length := Nat.lt_of_le_of_lt (Nat.zero_le _) (List.getElem?_eq_some_iff.mp hat).1
          -- the i-th item, its key
          have item : ∀ (i : Nat) (v : Value), its.toArray[i]? = some v → ∃ x d, xs[i]? = some x ∧ RelV x v ∧ ds[i]? = some d ∧ rep (nv X).K W1 x d ∧ kf sl st1 d = some (.int (ks.getD i 0)) := fun i v hv => by
            have hv : its[i]? = some v := by simpa using hv
            have hi : i < ds.length := by
              have := (List.getElem?_eq_some_iff.mp hv).1
              rw [← li, List.size_toArray]; exact this
            have hd := List.getElem?_eq_getElem hi
            obtain ⟨x, w1, w2⟩ := repL_at l hd
            obtain ⟨u', u1, u2⟩ := rv.get w1
            rw [hv] at u1
            cases u1
            refine ⟨x, ds[i], w1, u2, hd, w2, ?_⟩
            have hp0 : ps[i]? = some (ds[i], .int (ks.getD i 0)) := by
              have h1 : (ps.map (·.1))[i]? = some ds[i] := by rw [e1]; exact hd
              have h2 : (ps.map (·.2))[i]? = some (.int (ks.getD i 0)) := by
                rw [e3, List.getElem?_map, List.getD_eq_getElem?_getD, List.getElem?_eq_getElem (by omega)]; rfl
              rw [List.getElem?_map] at h1 h2
              obtain ⟨pr, p1, p2⟩ := Option.map_eq_some_iff.mp h1
              rw [p1] at h2
              have h2 := Option.some.inj h2
              rw [p1, ← p2, ← h2]
            exact e2 _ (List.mem_of_getElem? hp0)
          show wpAny _ _ (call (.builtin "max") [.ref a] [(Str.ofString "key", .ref f)]) _ _ _
          refine call_max_walkK (PySem.W.iter_listW (I2.ok.hd g.calm) hl.isList fun s₂ e Wk hst hfp hw hk => ?_)
          refine ⟨_, _, _, _, _, _, _, fun s' => ∃ h tk, s' = { s2 with heap := h, toks := tk } ∧ Kp s2.heap h, fun i k _ => ∃ t, k = Value.int (ks.getD i 0) t, fun i j => decide (ks.getD i 0 > ks.getD j 0), rfl, Wk, hst, hfp, by rw [li]; exact npos, ?_, ⟨s₂.heap, s2.toks, by rw [e], fun b o eb => hk b o eb⟩, ?_⟩
          · have hS : s₂.heap.objs.size = s2.heap.objs.size + 1 := by rw [e]; exact Heap.size_push _ _
            refine ⟨?_, fun i k s s' h _ => h, ?_, ?_⟩
            · rintro s s' ⟨h, tk, rfl, kp⟩ mv
              refine ⟨s'.heap, s'.toks, ?_, fun b o eb => mv.heap b o (fun hb => ?_) (kp b o eb)⟩
              · obtain ⟨hp', g', d', tk', os'⟩ := s'
                have h1 : g' = s2.gens := mv.gens
                have h2 : d' = s2.drawn := mv.drawn
                have h3 : os' = s2.os := mv.os
                subst h1; subst h2; subst h3
                rfl
              · have := Heap.lt_size eb
                rcases List.mem_cons.mp hb with hb | hb
                · rw [hb, hS] at this
                  exact absurd (Nat.lt_of_succ_lt this) (Nat.lt_irrefl _)
                · rw [List.mem_singleton.mp hb] at this
                  exact Nat.lt_irrefl _ this
            · rintro i v s o Q E hi hv ⟨h, tk, rfl, kp⟩ hst' hSo hQ
              obtain ⟨x, d', w1, w2, w3, w4, w5⟩ := item i v hv
              refine wpAny_mono (lam1_pure I2 L hf hco (hbind _ _ _ _ _ _) room.depth kp fun Lf h₁ k₁ ns => hkey pins σ H2 s2 W1 sl st1 _ f c' Lf h₁ x v d' _ I2 h2 hs1 w4 w2 w5 (Kp.trans (a := s2.heap) kp k₁) ns) (fun k s'' hk'' => ?_) fun _ _ hF => hF.elim
              obtain ⟨h', tk', rfl, kp', rd⟩ := hk''
              obtain ⟨t, rfl⟩ := rd_int rd
              refine hQ _ _ ⟨h', tk', rfl, Kp.trans kp kp'⟩ ?_ (kp' _ _ hSo) ⟨t, rfl⟩ fun _ _ h => h
              exact ⟨by
                obtain ⟨⟨o1, g1, g2, g3⟩, _⟩ := hst'
                exact ⟨o1, kp' _ _ g1, g2, g3⟩, by
                obtain ⟨_, o2, g1, g2⟩ := hst'
                exact ⟨o2, kp' _ _ g1, g2⟩⟩
            · rintro i j ki kj s Q E _ hi hj hQ
              exact CmpOf.ints_gt (P := fun i v => ∃ t, v = Value.int (ks.getD i 0) t) (fun i => ks.getD i 0) (fun _ _ h => h) i j ki kj s Q E hi hj hQ
          · rintro v s' hv ⟨h, tk, rfl, kp⟩
            have ei : argBest (fun i j => decide (ks.getD i 0 > ks.getD j 0)) (its.toArray.size - 1) = firstMax ks := by unfold firstMax; rw [li, lk]
            rw [ei] at hv
            obtain ⟨x, d', w1, w2, w3, w4, w5⟩ := item _ v hv
            rw [hat] at w3
            cases w3
            exact ⟨x, H2, I2.kept kp, w2, pp W1 x H2 Ext.refl h2 w4⟩
  | _ => rw [hx] at hp; exact hp.elim
end
end Pv
set_option Elab.async false
set_option linter.all false
set_option maxRecDepth 100000
set_option maxHeartbeats 1000000
set_option pp.maxSteps 800
namespace Pv
open PySem PySem.Spec L2 LamX
open PyProof.Rows hiding St
section
variable {prog : Program} {w : World} {A : Around} {env : Env} {h₁ : Heap}
/-- t[i], t a tuple -/
theorem pu_ixT {ea eb : Expr} {p : Pos} {l : Addr} {its : Array Value} {i : Int} {x : Value} (h1 : Pu prog w A env h₁ ea (fun _ v => v = .ref l)) (h2 : Pu prog w A env h₁ eb (RdD (.int i))) (hl : IsTup h₁ l its) (h0 : 0 ≤ i) (hf : i < 2 ^ 63) (hx : its[i.toNat]? = some x) (hs : PlainIx eb := by exact fun _ _ => rfl) :
    Pu prog w A env h₁ (.Subscript ea eb p) (fun _ v => v = x) := fun s Q E k q => by
  refine Subscript_ (h1 s _ E k fun v1 g1 t1 k1 r1 => h2 _ _ E (k.trans k1) fun v2 g2 t2 k2 r2 => ?_)
  obtain ⟨t, rfl⟩ := rd_int r2
  subst r1
  obtain ⟨o, ho, hr⟩ := hl
  have lt : i.toNat < its.size := by
    by_cases c : i.toNat < its.size
    · exact c
    · rw [Array.getElem?_eq_none (by omega)] at hx; cases hx
  refine subscriptTail_builtinR (IsTup.typeIs (items := its) ⟨o, (k.trans (k1.trans k2)) _ _ ho, hr⟩) slot_tuple_getitem.lookup (PyProof.Rows.getItem_tuple (items := its) (Q := fun r s' => r = x ∧ Q r s') ⟨o, (k.trans (k1.trans k2)) _ _ ho, hr⟩ (by omega) hf (PySem.StrLaws.seqIndex_nonneg h0 (by omega)) hx ⟨rfl, q x g2 t2 (k1.trans k2) rfl⟩) (hs _ _)
end
/-- x[p][c], x a name around the lambda -/
def kfIx2 (i c : Nat) : KF := fun sl st d => match d, sl[i]? with
  | .int k, some (some td) => match deref st td with
    | .list ds => if 0 ≤ k ∧ k < 1000000 ∧ c < 1000 then (match ds[k.toNat]? with
      | some (.tuple es) => (match es[c]? with
        | some (.int t) => some (.int t)
        | _ => none)
      | _ => none) else none
    | _ => none
  | _, _ => none
section
variable {X : Cx} {scope : Scope} {p : Str}
theorem keyp_ix2 {x : Str} {i c : Nat} {p1 p2 p3 p4 p5 : Pos} {j : Nat} (L : LamS1 X.env.scope scope p) (hd : (p == ("__debug__" : Str)) = false) (hN : X.N[i]? = some x) (hx : scope.names.lookup x = some .free) (hxd : (x == ("__debug__" : Str)) = false) (hxc : (x == ("__classdict__" : Str)) = false) :
    KeyP X scope p (.Subscript (.Subscript (.Name x p1) (.Name p p2) p3) (.Constant (.int (c : Int)) j p4) p5) (kfIx2 i c) := by
  intro pins σ H s W sl st A f c' Lf h₁ v u d k I hr hs rr ru hk kp ns
  unfold kfIx2 at hk
  split at hk
  · rename_i n td hsl
    cases hdr : deref st td with
    | list ds =>
      rw [hdr] at hk
      simp only at hk
      split at hk
      · rename_i hb
        split at hk
        · rename_i es hat
          split at hk
          · rename_i t hct
            cases hk
            obtain ⟨vt, e1, e2⟩ := hs.at_ i td hsl
            obtain ⟨a, xs, q1, q2, l⟩ := rep_dlist hr e2 hdr
            subst q1
            obtain ⟨uc, cc, ru2, hc, hcell⟩ := lam_cell (f := f) (c' := c') (Lf := Lf) I L hN hx e1
            obtain rfl : uc = Value.ref a := ru2
            obtain ⟨its, rv, pl, hz⟩ := I.list (X := X) (a := a) (xs := xs) (.inl (.inl q2))
            obtain ⟨w, w1, w2⟩ := repL_at l hat
            obtain ⟨b, ys, f1, f2, f3⟩ := w2
            subst f1
            obtain ⟨uw, u1, u2⟩ := rv.get w1
            obtain rfl : uw = Value.ref b := u2
            obtain ⟨jts, rv2, pl2, hz2⟩ := I.tuple (X := X) (a := b) (xs := ys) (.inl (.inl (hr.sub _ _ f2)))
            obtain ⟨z, z1, z2⟩ := repL_at f3 hct
            obtain rfl : z = V.int t := z2
            obtain ⟨uz, y1, y2⟩ := rv2.get z1
            obtain ⟨tk, rfl⟩ := y2
            obtain rfl : v = V.int n := rr
            obtain ⟨tn, rfl⟩ := ru
            obtain ⟨o, ho, hrest⟩ := hcell
            obtain ⟨o2, ho2, hrest2⟩ := pl.isList
            obtain ⟨o3, ho3, hrest3⟩ := pl2
            have g1 : Pu X.prog X.w A (lamEnv X scope Lf f c') h₁ (.Name x p1) (fun _ v => v = .ref a) := pu_free L.kind hx hc ⟨o, kp _ _ ho, hrest⟩ hxd hxc
            have g2 : Pu X.prog X.w A (lamEnv X scope Lf f c') h₁ (.Name p p2) (RdD (.int n)) := by
              have h0 : Pu X.prog X.w A (lamEnv X scope Lf f c') h₁ (.Name p p2) (fun _ v => v = .int n tn) := pu_loc L.kind L.par ns (by simp) hd
              exact h0.mono fun g v _ e => by rw [e]; exact .int n tn
            have g3 := pu_ixL (p := p3) (i := n) g1 g2 ⟨o2, kp _ _ ho2, hrest2⟩ hb.1 (by omega) (x := .ref b) (by simpa using u1)
            exact (pu_ixT (p := p5) (i := (c : Int)) g3 (pu_int (j := j) (p := p4)) ⟨o3, kp _ _ ho3, hrest3⟩ (by omega) (by omega) (x := .int t tk) (by simpa using y1)).mono fun g v _ e => by rw [e]; exact .int t tk
          · cases hk
        · cases hk
      · cases hk
    | _ => rw [hdr] at hk; cases hk
  · cases hk
end
end Pv
set_option Elab.async false
set_option linter.all false
set_option maxRecDepth 100000
set_option maxHeartbeats 4000000
namespace Gstampahead_k28_whole_longest_chains
open PySem PySem.Spec L2 Pv LamX
open PyProof.Rows hiding St
def b__law_feed : MS := sRet (mDct ((mC (.str "cells"), mList (mSl (mVar 0) (moNone) (moSome (mC (.int 63))))) :: (mC (.str "place"), mC (.int 0)) :: (mC (.str "left"), mC (.int 0)) :: (mC (.str "drawn"), mC (.int 0)) :: []))
def F__law_feed : Fn := fnK 1 b__law_feed
def b__law_draw : MS := sSeq (sAsg (mAdd (mIx (mVar 0) (mC (.str "drawn"))) (mC (.int 1))) (tgSub (mVar 0) (mC (.str "drawn")))) (sSeq (sIf (mTb (mCmp .Gt (mIx (mVar 0) (mC (.str "left"))) (mC (.int 0)))) (sSeq (sAsg (mMod (mInt (mIx (mVar 0) (mC (.str "left")))) (mVar 1)) (tgName 2)) (sSeq (sAsg (mFdiv (mIx (mVar 0) (mC (.str "left"))) (mVar 1)) (tgSub (mVar 0) (mC (.str "left")))) (sRet (mVar 2)))) (sNil)) (sSeq (sPar2 3 4 (msCons (mIx (mVar 0) (mC (.str "cells"))) (msCons (mIx (mVar 0) (mC (.str "place"))) (msNil)))) (sSeq (sAsg (mAdd (mVar 4) (mC (.int 1))) (tgSub (mVar 0) (mC (.str "place")))) (sSeq (sAsg (mIf (mTb (mCmp .NotEq (mVar 3) (mLst (msNil)))) (mIx (mVar 3) (mMod (mInt (mVar 4)) (mLen (mVar 3)))) (mC (.int 5335))) (tgName 5)) (sSeq (sIf (mAndT (mTb (mCmp .GtE (mVar 5) (mPow (mC (.int 10)) (mC (.int 18))))) (mTb (mCmp .Lt (mVar 4) (mLen (mVar 3))))) (sSeq (sAsg (mFdiv (mVar 5) (mVar 1)) (tgSub (mVar 0) (mC (.str "left")))) (sRet (mMod (mInt (mVar 5)) (mVar 1)))) (sNil)) (sSeq (sAsg (mMod (mInt (mAdd (mAdd (mMod (mInt (mVar 5)) (mC (.int 1000016165))) (mMulS (mC (.int 102527)) (mIx (mVar 0) (mC (.str "drawn"))))) (mC (.int 1015)))) (mC (.int 2147483237))) (tgName 6)) (sSeq (sAsg (mMod (mInt (mAdd (mAdd (mMulS (mVar 6) (mVar 6)) (mMulS (mC (.int 6463721)) (mIx (mVar 0) (mC (.str "drawn"))))) (mC (.int 469)))) (mC (.int 2147483563))) (tgName 6)) (sRet (mMod (mInt (mFdiv (mMod (mInt (mAdd (mMulS (mVar 6) (mVar 6)) (mMulS (mC (.int 623)) (mVar 6)))) (mC (.int 2147483477))) (mC (.int 16)))) (mVar 1))))))))))
def F__law_draw : Fn := fnP 7 b__law_draw
def b__law_any : MS := sRet (mIx (mVar 1) (mCall F__law_draw (msCons (mVar 0) (msCons (mLen (mVar 1)) (msNil)))))
def F__law_any : Fn := fnP 2 b__law_any
def l0__law_net : MS := sIf (mAndT (mTb (mCmp .NotEq (mVar 11) (mVar 8))) (mTb (mCmp .Gt (mCall F__law_draw (msCons (mVar 0) (msCons (mC (.int 3)) (msNil)))) (mC (.int 0))))) (sExpr (mApp (mVar 6) (mTup (msCons (mVar 8) (msCons (mVar 11) (msCons (mCall F__law_any (msCons (mVar 0) (msCons (mLst (msCons (mC (.int 0)) (msCons (mC (.int 0)) (msCons (mC (.int 1)) (msCons (mCall F__law_draw (msCons (mVar 0) (msCons (mMulS (mC (.int 3)) (mVar 1)) (msNil)))) (msNil)))))) (msNil)))) (msNil))))))) (sNil)
def l1__law_net : MS := sSeq (sPar2 9 10 (msCons (mCall F__law_draw (msCons (mVar 0) (msCons (mAdd (mMulS (mC (.int 3)) (mVar 1)) (mC (.int 1))) (msNil)))) (msCons (mCall F__law_draw (msCons (mVar 0) (msCons (mAdd (mMulS (mC (.int 3)) (mVar 1)) (mC (.int 1))) (msNil)))) (msNil)))) (sSeq (sExpr (mApp (mVar 5) (mTup (msCons (mVar 8) (msCons (mVar 9) (msCons (mVar 10) (msCons (mCall F__law_any (msCons (mVar 0) (msCons (mLst (msCons (mC (.int 1)) (msCons (mC (.int 1)) (msCons (mC (.int 2)) (msCons (mC (.int 2)) (msCons (mC (.int 3)) (msCons (mC (.int 4)) (msNil)))))))) (msNil)))) (msNil)))))))) (sFor [11] (mIter (mVar 7)) (tgName 11) (l0__law_net)))
def b__law_net : MS := sSeq (sAsg (mCall F__law_any (msCons (mVar 0) (msCons (mLst (msCons (mC (.int 1)) (msCons (mC (.int 1)) (msCons (mC (.int 1)) (msCons (mC (.int 1)) (msCons (mC (.int 6)) (msCons (mC (.int 20)) (msNil)))))))) (msNil)))) (tgName 1)) (sSeq (sAsg (mLst (msCons (mLst (msCons (mC (.str "a")) (msCons (mC (.str "b")) (msCons (mC (.str "c")) (msCons (mC (.str "d")) (msNil)))))) (msCons (mLst (msCons (mC (.str "amy")) (msCons (mC (.str "bob")) (msCons (mC (.str "cid")) (msCons (mC (.str "dan")) (msNil)))))) (msCons (mLst (msCons (mC (.str "x")) (msCons (mC (.str "xx")) (msCons (mC (.str "y")) (msCons (mC (.str "yx")) (msNil)))))) (msNil))))) (tgName 2)) (sSeq (sAsg (mCall F__law_any (msCons (mVar 0) (msCons (mAdd (mVar 2) (mLst (msCons (mLst (msCons (mC (.str "host")) (msCons (mC (.str "most")) (msCons (mC (.str "road")) (msCons (mC (.str "rule")) (msNil)))))) (msNil)))) (msNil)))) (tgName 3)) (sSeq (sPar3 4 5 6 (msCons (mLc (mIter (mVar 3)) (.nm 8) (mTb (mCmp .Gt (mCall F__law_draw (msCons (mVar 0) (msCons (mC (.int 4)) (msNil)))) (mC (.int 0)))) (mVar 8) [8]) (msCons (mLstM (msNil)) (msCons (mLstM (msNil)) (msNil))))) (sSeq (sAsg (mIf (mTb (mCmp .NotEq (mVar 4) (mLst (msNil)))) (mVar 4) (mLst (msCons (mIx (mVar 3) (mC (.int 0))) (msNil)))) (tgName 7)) (sSeq (sFor [8, 9, 10, 11] (mIter (mVar 7)) (tgName 8) (l1__law_net)) (sSeq (sAsg (mCall F__law_any (msCons (mVar 0) (msCons (mLst (msCons (mC .none) (msCons (mC (.int 0)) (msCons (mC (.int 1)) (msCons (mC (.int 1)) (msCons (mC (.int 2)) (msCons (mC (.int 3)) (msCons (mC (.int 5)) (msCons (mC (.int 2000)) (msNil)))))))))) (msNil)))) (tgName 12)) (sSeq (sAsg (mIf (mTb (mIsN (mVar 12))) (mC (.str "wait")) (mCall F__law_any (msCons (mVar 0) (msCons (mLst (msCons (mC (.str "more")) (msCons (mC (.str "more")) (msCons (mC (.str "wait")) (msNil))))) (msNil))))) (tgName 13)) (sRet (mTup (msCons (mTuple (mVar 5)) (msCons (mTuple (mVar 6)) (msCons (mVar 12) (msCons (mVar 13) (msNil))))))))))))))
def F__law_net : Fn := fnP 14 b__law_net
def l0__law_letters : MS := sSeq (sAsg (mLc (mIter (mIx (mVar 0) (mC (.int 1)))) (.nm 7) (mAndT (mTb (mCmp .Eq (mIx (mVar 7) (mC (.int 0))) (mIx (mIx (mVar 1) (mVar 5)) (mC (.int 0))))) (mTb (mCmp .Eq (mIx (mVar 7) (mC (.int 1))) (mVar 2)))) (mIx (mVar 7) (mC (.int 2))) [7]) (tgName 6)) (sIf (mAndT (mTb (mCmp .NotEq (mVar 6) (mLst (msNil)))) (mTb (mCmp .GtE (mSub (mVar 3) (mIx (mIx (mVar 1) (mVar 5)) (mC (.int 1)))) (mIx (mVar 6) (mC (.int 0)))))) (sExpr (mApp (mVar 4) (mVar 5))) (sNil))
def b__law_letters : MS := sSeq (sAsg (mLstM (msNil)) (tgName 4)) (sSeq (sFor [5, 6] (mRng1 (mLen (mVar 1))) (tgName 5) (l0__law_letters)) (sRet (mVar 4)))
def F__law_letters : Fn := fnP 8 b__law_letters
def b__law_before : MS := sSeq (sAsg (mLc (mRng1 (mVar 1)) (.nm 3) (mTb (mCmp .Eq (mIx (mIx (mVar 0) (mVar 3)) (mC (.int 0))) (mIx (mIx (mVar 0) (mVar 1)) (mC (.int 0))))) (mVar 3) [3]) (tgName 2)) (sRet (mIf (mTb (mCmp .NotEq (mVar 2) (mLst (msNil)))) (mIx (mVar 2) (mNeg (mC (.int 1)))) (mC .none)))
def F__law_before : Fn := fnP 4 b__law_before
def b__law_steps : MS := sRet (mLc (mIter (mTup (msCons (mCall F__law_before (msCons (mVar 0) (msCons (mVar 1) (msNil)))) (msCons (mIx (mIx (mVar 0) (mVar 1)) (mC (.int 3))) (msNil))))) (.nm 2) (mTb (mNotN (mVar 2))) (mVar 2) [2])
def F__law_steps : Fn := fnP 3 b__law_steps
def b__law_stamp : MS := sSeq (sAsg (mLc (mIter (mVar 1)) (.nm 6) (tYesM) (mIx (mVar 6) (mC (.int 0))) [6]) (tgName 3)) (sSeq (sIf (mOrT (mTb (mCmp .Eq (mVar 3) (mLst (msNil)))) (mTb (mCmp .Gt (mVar 2) (mMax1 (mVar 3))))) (sRet (mTup (msCons (mVar 2) (msCons (mC (.int 0)) (msNil))))) (sNil)) (sSeq (sAsg (mMax1 (mVar 3)) (tgName 4)) (sSeq (sAsg (mAdd (mC (.int 1)) (mMax1 (mLc (mIter (mVar 1)) (.nm 6) (mTb (mCmp .Eq (mIx (mVar 6) (mC (.int 0))) (mVar 4))) (mIx (mVar 6) (mC (.int 1))) [6]))) (tgName 5)) (sSeq (sIf (mOrT (mTb (mIsN (mIx (mVar 0) (mC (.int 2))))) (mTb (mCmp .LtE (mVar 5) (mIx (mVar 0) (mC (.int 2)))))) (sRet (mTup (msCons (mVar 4) (msCons (mVar 5) (msNil))))) (sNil)) (sRet (mIf (mTb (mCmp .Eq (mIx (mVar 0) (mC (.int 3))) (mC (.str "more")))) (mTup (msCons (mAdd (mVar 4) (mC (.int 1))) (msCons (mC (.int 0)) (msNil)))) (mC .none)))))))
def F__law_stamp : Fn := fnP 7 b__law_stamp
def l0__law_lot : MS := sSeq (sAsg (mAdd (mVar 3) (mCall F__law_any (msCons (mVar 0) (msCons (mLst (msCons (mC (.int 0)) (msCons (mC (.int 0)) (msCons (mC (.int 0)) (msCons (mC (.int 0)) (msCons (mC (.int 1)) (msCons (mC (.int 1)) (msCons (mC (.int 2)) (msCons (mCall F__law_draw (msCons (mVar 0) (msCons (mC (.int 9)) (msNil)))) (msNil)))))))))) (msNil))))) (tgName 3)) (sSeq (sAsg (mCall F__law_any (msCons (mVar 0) (msCons (mIx (mVar 1) (mC (.int 0))) (msNil)))) (tgTup 4 (tgCons (tgName 7) (tgCons (tgName 8) (tgCons (tgName 9) (tgCons (tgName 10) (tgNil))))))) (sSeq (sAsg (mSub (mCall F__law_draw (msCons (mVar 0) (msCons (mAdd (mAdd (mVar 8) (mVar 9)) (mC (.int 1))) (msNil)))) (mVar 8)) (tgName 11)) (sSeq (sAsg (mAdd (mVar 3) (mCall F__law_any (msCons (mVar 0) (msCons (mLst (msCons (mNeg (mVar 8)) (msCons (mNeg (mVar 8)) (msCons (mVar 9) (msCons (mVar 11) (msNil)))))) (msNil))))) (tgName 12)) (sSeq (sAsg (mCall F__law_letters (msCons (mVar 1) (msCons (mVar 4) (msCons (mVar 7) (msCons (mVar 3) (msNil)))))) (tgName 13)) (sSeq (sAsg (mC .none) (tgName 14)) (sSeq (sIf (mTb (mCmp .NotEq (mVar 13) (mLst (msNil)))) (sAsg (mCall F__law_any (msCons (mVar 0) (msCons (mLst (msCons (mC .none) (msCons (mIx (mVar 13) (mNeg (mC (.int 1)))) (msCons (mIx (mVar 13) (mNeg (mC (.int 1)))) (msCons (mCall F__law_any (msCons (mVar 0) (msCons (mVar 13) (msNil)))) (msNil)))))) (msNil)))) (tgName 14)) (sNil)) (sSeq (sAsg (mAdd (mVar 4) (mTup (msCons (mTup (msCons (mVar 7) (msCons (mVar 3) (msCons (mVar 12) (msCons (mVar 14) (msNil)))))) (msNil)))) (tgName 15)) (sSeq (sAsg (mLc (mIter (mVar 4)) (.nm 19) (mAndT (mTb (mCmp .Eq (mIx (mVar 19) (mC (.int 0))) (mVar 7))) (mTb (mCmp .Eq (mIx (mVar 19) (mC (.int 1))) (mVar 3)))) (mVar 19) [19]) (tgName 16)) (sSeq (sAsg (mLc (mIter (mCall F__law_steps (msCons (mVar 15) (msCons (mLen (mVar 4)) (msNil))))) (.nm 20) (tYesM) (mIx (mVar 5) (mVar 20)) [20]) (tgName 17)) (sSeq (sAsg (mCall F__law_stamp (msCons (mVar 1) (msCons (mVar 17) (msCons (mVar 12) (msNil))))) (tgName 18)) (sIf (mAndT (mTb (mCmp .Lt (mLen (mVar 16)) (mVar 10))) (mTb (mNotN (mVar 18)))) (sSeq (sAsg (mVar 15) (tgName 4)) (sExpr (mApp (mVar 5) (mVar 18)))) (sNil))))))))))))
def b__law_lot : MS := sSeq (sAsg (mTup (msCons (mSub (mCall F__law_draw (msCons (mVar 0) (msCons (mC (.int 2001)) (msNil)))) (mC (.int 1000))) (msCons (mTup (msNil)) (msCons (mLstM (msNil)) (msNil))))) (tgTup 3 (tgCons (tgName 3) (tgCons (tgName 4) (tgCons (tgName 5) (tgNil)))))) (sSeq (sFor [6, 7, 8, 9, 10, 11, 12, 13, 14, 15, 16, 17, 18] (mRng1 (mVar 2)) (tgName 6) (l0__law_lot)) (sRet (mVar 4)))
def F__law_lot : Fn := fnP 21 b__law_lot
def l0__law_stamps : MS := sSeq (sAsg (mCall F__law_stamp (msCons (mVar 0) (msCons (mLc (mIter (mCall F__law_steps (msCons (mVar 1) (msCons (mVar 3) (msNil))))) (.nm 5) (tYesM) (mIx (mVar 2) (mVar 5)) [5]) (msCons (mIx (mIx (mVar 1) (mVar 3)) (mC (.int 2))) (msNil))))) (tgName 4)) (sSeq (sIf (mTb (mIsN (mVar 4))) (sRet (mC .none)) (sNil)) (sExpr (mApp (mVar 2) (mVar 4))))
def b__law_stamps : MS := sSeq (sAsg (mLstM (msNil)) (tgName 2)) (sSeq (sFor [3, 4] (mRng1 (mLen (mVar 1))) (tgName 3) (l0__law_stamps)) (sRet (mVar 2)))
def F__law_stamps : Fn := fnP 6 b__law_stamps
def l0__law_lengths : MS := sSeq (sAsg (mLc (mIter (mCall F__law_steps (msCons (mVar 0) (msCons (mVar 3) (msNil))))) (.nm 5) (mTb (mCmp .Eq (mIx (mIx (mVar 1) (mVar 5)) (mC (.int 0))) (mIx (mIx (mVar 1) (mVar 3)) (mC (.int 0))))) (mIx (mVar 2) (mVar 5)) [5]) (tgName 4)) (sExpr (mApp (mVar 2) (mAdd (mC (.int 1)) (mMax1 (mAdd (mVar 4) (mLst (msCons (mC (.int 0)) (msNil))))))))
def b__law_lengths : MS := sSeq (sAsg (mLstM (msNil)) (tgName 2)) (sSeq (sFor [3, 4] (mRng1 (mLen (mVar 0))) (tgName 3) (l0__law_lengths)) (sRet (mVar 2)))
def F__law_lengths : Fn := fnP 6 b__law_lengths
def b_want : MS := sIf (mNotT (mTru (mVar 0))) (sRaise "NotUsable" ["word", "at"] (msCons (mVar 1) (msCons (mNeg (mC (.int 1))) (msNil)))) (sNil)
def F_want : Fn := fnP 2 b_want
def b_is_integer : MS := sRet (mAnd (mIsi .int (mVar 0)) (mNot (mIsi .bool (mVar 0))))
def F_is_integer : Fn := fnP 1 b_is_integer
def b_is_number : MS := sRet (mAnd (mCall F_is_integer (msCons (mVar 0) (msNil))) (mCmp .GtE (mVar 0) (mC (.int 0))))
def F_is_number : Fn := fnP 1 b_is_number
def b_is_index : MS := sRet (mAnd (mCall F_is_number (msCons (mVar 1) (msNil))) (mCmp .Lt (mVar 1) (mLen (mVar 0))))
def F_is_index : Fn := fnP 2 b_is_index
def b_next_stamp : MS := sSeq (sAsg (mLc (mIter (mTup (msCons (mVar 1) (msCons (mVar 2) (msNil))))) (.nm 9) (mTb (mNotN (mVar 9))) (mVar 9) [9]) (tgName 4)) (sSeq (sAsg (mMaxDf (mLc (mIter (mVar 4)) (.nm 9) (tYesM) (mIx (mVar 9) (mC (.int 0))) [9]) (mSub (mVar 3) (mC (.int 1)))) (tgName 5)) (sSeq (sIf (mTb (mCmp .Gt (mVar 3) (mVar 5))) (sRet (mTup (msCons (mVar 3) (msCons (mC (.int 0)) (msNil))))) (sNil)) (sSeq (sAsg (mAdd (mC (.int 1)) (mMax1 (mLc (mIter (mVar 4)) (.nm 9) (mTb (mCmp .Eq (mIx (mVar 9) (mC (.int 0))) (mVar 5))) (mIx (mVar 9) (mC (.int 1))) [9]))) (tgName 6)) (sSeq (sAsg (mSl (mVar 0) (moSome (mC (.int 2))) (moNone)) (tgTup 2 (tgCons (tgName 7) (tgCons (tgName 8) (tgNil))))) (sSeq (sIf (mOrT (mTb (mIsN (mVar 7))) (mTb (mCmp .LtE (mVar 6) (mVar 7)))) (sRet (mTup (msCons (mVar 5) (msCons (mVar 6) (msNil))))) (sNil)) (sRet (mIf (mTb (mCmp .Eq (mVar 8) (mC (.str "more")))) (mTup (msCons (mAdd (mVar 5) (mC (.int 1))) (msCons (mC (.int 0)) (msNil)))) (mC .none))))))))
def F_next_stamp : Fn := fnP 10 b_next_stamp
def l0_stamps_by : MS := sSeq (sAsg (mIf (mTb (mIsN (mVar 7))) (mC .none) (mIx (mVar 3) (mVar 7))) (tgName 8)) (sSeq (sAsg (mCall F_next_stamp (msCons (mVar 0) (msCons (mGet2 (mVar 2) (mVar 4) (mC .none)) (msCons (mVar 8) (msCons (mVar 6) (msNil)))))) (tgName 9)) (sSeq (sAsg (mVar 9) (tgSub (mVar 2) (mVar 4))) (sSeq (sExpr (mApp (mVar 3) (mVar 9))) (sIf (mTb (mIsN (mVar 9))) (sRet (mVar 3)) (sNil)))))
def b_stamps_by : MS := sSeq (sAsg (mNewK) (tgName 2)) (sSeq (sAsg (mLstM (msNil)) (tgName 3)) (sSeq (sFor [4, 5, 6, 7, 8, 9] (mIter (mVar 1)) (tgTup 4 (tgCons (tgName 4) (tgCons (tgName 5) (tgCons (tgName 6) (tgCons (tgName 7) (tgNil)))))) (l0_stamps_by)) (sRet (mVar 3))))
def F_stamps_by : Fn := fnP 10 b_stamps_by
def b_last_by : MS := sSeq (sAsg (mLc (mRng1 (mVar 1)) (.nm 3) (mTb (mCmp .Eq (mIx (mIx (mVar 0) (mVar 3)) (mC (.int 0))) (mIx (mIx (mVar 0) (mVar 1)) (mC (.int 0))))) (mVar 3) [3]) (tgName 2)) (sRet (mIf (mTb (mCmp .Gt (mLen (mVar 2)) (mC (.int 0)))) (mIx (mVar 2) (mNeg (mC (.int 1)))) (mC .none)))
def F_last_by : Fn := fnP 4 b_last_by
def b_causes_of : MS := sRet (mLc (mIter (mTup (msCons (mCall F_last_by (msCons (mVar 0) (msCons (mVar 1) (msNil)))) (msCons (mIx (mIx (mVar 0) (mVar 1)) (mC (.int 3))) (msNil))))) (.nm 2) (mTb (mNotN (mVar 2))) (mVar 2) [2])
def F_causes_of : Fn := fnP 3 b_causes_of
def l0_longest_chain (tb : Nat → Addr) : MS := sSeq (sAsg (mLc (mIter (mCall F_causes_of (msCons (mVar 1) (msCons (mIx (mVar 4) (mC (.int 0))) (msNil))))) (.nm 6) (mTb (mCmp .Eq (mIx (mIx (mVar 3) (mVar 6)) (mC (.int 0))) (mIx (mIx (mVar 3) (mVar 2)) (mC (.int 0))))) (mVar 6) [6]) (tgName 5)) (sIf (mTb (mCmp .Gt (mLen (mVar 5)) (mC (.int 0)))) (sAsg (mLst (msCons (mMaxK (tb 0) "longest_chain.<locals>.<lambda>" (kfIx2 3 1) (mVar 5)) (msStar (mVar 4) (msNil)))) (tgName 4)) (sNil))
def b_longest_chain (tb : Nat → Addr) : MS := sSeq (sExpr (mCall F_want (msCons (mCall F_is_index (msCons (mVar 1) (msCons (mVar 2) (msNil)))) (msCons (mC (.str "k")) (msNil))))) (sSeq (sAsg (mCall F_stamps_by (msCons (mVar 0) (msCons (mVar 1) (msNil)))) (tgName 3)) (sSeq (sAsg (mLst (msCons (mVar 2) (msNil))) (tgName 4)) (sSeq (sAsg (mLst (msCons (mVar 2) (msNil))) (tgName 5)) (sSeq (sWhile [] 100000 (mTb (mCmp .Gt (mLen (mVar 5)) (mC (.int 0)))) ((l0_longest_chain tb))) (sRet (mTuple (mVar 4)))))))
def F_longest_chain (tb : Nat → Addr) : Fn := fnP 7 (b_longest_chain tb)
def l0__law_is_one : MS := sSeq (sIf (mOrT (mNotT (mTru (mIsi .int (mVar 4)))) (mTru (mIsi .bool (mVar 4)))) (sRet (mC (.bool false))) (sNil)) (sIf (mNotT (mTb (mChain .LtE .Lt (mC (.int 0)) (mVar 4) (mLen (mVar 0))))) (sRet (mC (.bool false))) (sNil))
def l1__law_is_one : MS := sIf (mTb (mCmp .NotIn (mIx (mVar 2) (mSub (mVar 5) (mC (.int 1)))) (mCall F__law_steps (msCons (mVar 0) (msCons (mIx (mVar 2) (mVar 5)) (msNil)))))) (sRet (mC (.bool false))) (sNil)
def b__law_is_one : MS := sSeq (sIf (mOrT (mNotT (mTru (mIsi .tuple (mVar 2)))) (mTb (mCmp .Eq (mVar 2) (mTup (msNil))))) (sRet (mC (.bool false))) (sNil)) (sSeq (sFor [4] (mIter (mVar 2)) (tgName 4) (l0__law_is_one)) (sSeq (sIf (mTb (mCmp .NotEq (mIx (mVar 2) (mNeg (mC (.int 1)))) (mVar 3))) (sRet (mC (.bool false))) (sNil)) (sSeq (sIf (mTb (mCmp .NotEq (mLc (mIter (mVar 2)) (.nm 4) (mTb (mCmp .NotEq (mIx (mIx (mVar 1) (mVar 4)) (mC (.int 0))) (mIx (mIx (mVar 1) (mVar 3)) (mC (.int 0))))) (mVar 4) [4]) (mLst (msNil)))) (sRet (mC (.bool false))) (sNil)) (sSeq (sFor [5] (mRng2 (mC (.int 1)) (mLen (mVar 2))) (tgName 5) (l1__law_is_one)) (sRet (mC (.bool true)))))))
def F__law_is_one : Fn := fnP 6 b__law_is_one
abbrev cs__law_said : List Str := ["NotUsable"]
def b__law_said (a dd : Nat) (c : Str) : MS := sSeq (sAsg (mLstM (msCons (mIsE a dd c ([].contains c) (mVar 1)) (msCons (mIsE a dd c ([("NotUsable" : Str)].contains c) (mVar 1)) (msCons (mIsE a dd c ([].contains c) (mVar 1)) (msNil))))) (tgName 2)) (sSeq (sExpr (mApp (mVar 2) (mIsE a dd c ([].contains c) (mVar 1)))) (sSeq (sIf (mOrT (mTb (mCmp .NotEq (mCnt (mVar 2) (mC (.bool true))) (mC (.int 1)))) (mNotT (mTru (mIsE a dd c ([("NotUsable" : Str)].contains c) (mVar 1))))) (sRet (mTup (msCons (mC (.str "odd")) (msNil)))) (sNil)) (sSeq (sIf (mAndT (mTru (mIx (mVar 2) (mC (.int 0)))) (mTru (mIsE a dd c ([].contains c) (mVar 1)))) (sRet (mTup (msCons (mC (.str "paper")) (msCons (mFld a dd c "word" (mVar 1)) (msCons (mFld a dd c "at" (mVar 1)) (msNil)))))) (sNil)) (sSeq (sIf (mAndT (mTru (mIx (mVar 2) (mC (.int 1)))) (mAndT (mTru (mIsE a dd c ([("NotUsable" : Str)].contains c) (mVar 1))) (mAndT (mNotT (mTru (mIsE a dd c ([].contains c) (mVar 1)))) (mNotT (mTru (mIsE a dd c ([].contains c) (mVar 1))))))) (sRet (mTup (msCons (mC (.str "use")) (msCons (mFld a dd c "word" (mVar 1)) (msCons (mFld a dd c "at" (mVar 1)) (msNil)))))) (sNil)) (sRet (mTup (msCons (mC (.str "odd")) (msNil))))))))
def sF__law_said : R Pv.D → R Pv.D := saidR "told" cs__law_said 3 1 b__law_said
theorem ind__law_said : ∀ (a dd : Nat) (x : XV) (st : Sto), x.1 ∈ cs__law_said → handR 3 1 b__law_said a dd x st = handR 3 1 b__law_said 0 0 x st := by
  intro a dd x st hx
  obtain ⟨c, fs⟩ := x
  simp only [List.mem_cons, List.not_mem_nil, or_false] at hx
  rcases hx with rfl
  all_goals (cases h0 : List.lookup ("at" : Str) ((nmD (fs.map fun p => .str p.1)).zip (fs.map (·.2))) <;> cases h1 : List.lookup ("word" : Str) ((nmD (fs.map fun p => .str p.1)).zip (fs.map (·.2))) <;> (unfold handR b__law_said; simp -implicitDefEqProofs [slE, exD, mkLst, mkLstM, isLst, fApp, isLstD, fCnt, cntD, mkTup, deref, sz_le, sz_lt, PyData.canLayAll0, PyData.canLay0, PyData.depthAll, PyData.depth, PyData.eqv, fIx, dlook, dIx, atI, ixN, dAddT, h0, h1]))
def b__law_same : MS := sRet (mCmp .Eq (mReprF (mVar 0)) (mReprF (mVar 1)))
def F__law_same : Fn := fnP 2 b__law_same
def l0__law_is_right (tb : Nat → Addr) : MS := sSeq (sIf (mNotT (mTru (mCall F__law_is_one (msCons (mVar 1) (msCons (mVar 2) (msCons (mVar 6) (msCons (mVar 4) (msNil)))))))) (sRet (mC (.bool false))) (sNil)) (sSeq (sIf (mTb (mCmp .NotEq (mLen (mVar 6)) (mIx (mVar 3) (mVar 4)))) (sRet (mC (.bool false))) (sNil)) (sIf (mTb (mCmp .NotEq (mLc (mIter (mVar 6)) (.nm 8) (tYesM) (mIx (mIx (mVar 2) (mVar 8)) (mC (.int 1))) [8]) (mListR (mLen (mVar 6))))) (sRet (mC (.bool false))) (sNil)))
def l1__law_is_right (tb : Nat → Addr) : MS := sSeq (sAsg (mLst (msCons (mCall (F_longest_chain tb) (msCons (mVar 0) (msCons (mVar 1) (msCons (mVar 4) (msNil))))) (msCons (mCall (fun ds => (F_longest_chain tb) (perm [2, 1, 0] ds)) (msCons (mVar 4) (msCons (mVar 1) (msCons (mVar 0) (msNil))))) (msNil)))) (tgName 5)) (sFor [6] (mIter (mVar 5)) (tgName 6) ((l0__law_is_right tb)))
def l2__law_is_right (tb : Nat → Addr) : MS := sSeq (sAsg (mLstM (msCons (mSaid (tb 1) "_law_is_right.<locals>.<lambda>" sF__law_said (mCall (F_longest_chain tb) (msCons (mVar 0) (msCons (mVar 1) (msCons (mVar 7) (msNil)))))) (msNil))) (tgName 6)) (sSeq (sExpr (mApp (mVar 6) (mSaid (tb 1) "_law_is_right.<locals>.<lambda>" sF__law_said (mCall (fun ds => (F_longest_chain tb) (perm [2, 1, 0] ds)) (msCons (mVar 7) (msCons (mVar 1) (msCons (mVar 0) (msNil)))))))) (sIf (mNotT (mTru (mCall F__law_same (msCons (mVar 6) (msCons (mMulS (mLst (msCons (mTup (msCons (mC (.str "use")) (msCons (mC (.str "k")) (msCons (mNeg (mC (.int 1))) (msNil))))) (msNil))) (mC (.int 2))) (msNil)))))) (sRet (mC (.bool false))) (sNil)))
def b__law_is_right (tb : Nat → Addr) : MS := sSeq (sAsg (mCall F__law_stamps (msCons (mVar 0) (msCons (mVar 1) (msNil)))) (tgName 2)) (sSeq (sAsg (mCall F__law_lengths (msCons (mVar 1) (msCons (mVar 2) (msNil)))) (tgName 3)) (sSeq (sFor [4, 5, 6] (mRng1 (mLen (mVar 1))) (tgName 4) ((l1__law_is_right tb))) (sSeq (sFor [6, 7] (mIter (mLst (msCons (mC .none) (msCons (mC (.bool true)) (msCons (mC (.bool false)) (msCons (mNeg (mC (.int 1))) (msCons (mLen (mVar 1)) (msCons (mAdd (mLen (mVar 1)) (mC (.int 9))) (msCons (mPow (mC (.int 10)) (mC (.int 59))) (msCons (mC (.str "0")) (msCons (mTup (msCons (mC (.int 0)) (msNil))) (msCons (mLst (msCons (mC (.int 0)) (msNil))) (msNil))))))))))))) (tgName 7) ((l2__law_is_right tb))) (sRet (mC (.bool true))))))
def F__law_is_right (tb : Nat → Addr) : Fn := fnP 9 (b__law_is_right tb)
def l0_law (tb : Nat → Addr) : MS := sSeq (sAsg (mAdd (mSl (mVar 3) (moNone) (moSome (mC (.int 2)))) (mVar 6)) (tgName 7)) (sIf (mAndT (mTb (mNotN (mCall F__law_stamps (msCons (mVar 7) (msCons (mVar 4) (msNil)))))) (mNotT (mTru (mCall (F__law_is_right tb) (msCons (mVar 7) (msCons (mVar 4) (msNil))))))) (sRet (mC (.bool false))) (sNil))
def l1_law (tb : Nat → Addr) : MS := sSeq (sAsg (mCall F__law_net (msCons (mVar 1) (msNil))) (tgName 3)) (sSeq (sAsg (mCall F__law_lot (msCons (mVar 1) (msCons (mVar 3) (msCons (mIf (mTb (mCmp .Gt (mCall F__law_draw (msCons (mVar 1) (msCons (mC (.int 12)) (msNil)))) (mC (.int 0)))) (mCall F__law_draw (msCons (mVar 1) (msCons (mC (.int 17)) (msNil)))) (mC (.int 40))) (msNil))))) (tgName 4)) (sSeq (sAsg (mReprF (mLst (msCons (mVar 3) (msCons (mVar 4) (msNil))))) (tgName 5)) (sSeq (sFor [6, 7] (mIter (mLst (msCons (mSl (mVar 3) (moSome (mC (.int 2))) (moNone)) (msCons (mTup (msCons (mC (.int 0)) (msCons (mC (.str "more")) (msNil)))) (msCons (mTup (msCons (mC (.int 1)) (msCons (mC (.str "more")) (msNil)))) (msCons (mTup (msCons (mC (.int 3)) (msCons (mC (.str "more")) (msNil)))) (msCons (mTup (msCons (mC .none) (msCons (mC (.str "wait")) (msNil)))) (msNil)))))))) (tgName 6) ((l0_law tb))) (sIf (mTb (mCmp .NotEq (mReprF (mLst (msCons (mVar 3) (msCons (mVar 4) (msNil))))) (mVar 5))) (sRet (mC (.bool false))) (sNil)))))
def b_law (tb : Nat → Addr) : MS := sSeq (sAsg (mCall F__law_feed (msCons (mVar 0) (msNil))) (tgName 1)) (sSeq (sFor [2, 3, 4, 5, 6, 7] (mRng1 (mC (.int 4))) (tgName 2) ((l1_law tb))) (sRet (mC (.bool true))))
def F_law (tb : Nat → Addr) : Fn := fnP 8 (b_law tb)
end Gstampahead_k28_whole_longest_chains
set_option Elab.async false
set_option linter.all false
set_option maxRecDepth 100000
set_option maxHeartbeats 4000000
namespace Gstampahead_k28_whole_longest_chains
open PySem PySem.Spec Pv
open L2 hiding keyOf
open PyProof.Rows hiding St signs
def fd (cs : List Pv.D) (sp lf dr : Int) : MO := .dct [(.inr "cells", .list cs), (.inr "place", .int sp), (.inr "left", .int lf), (.inr "drawn", .int dr)]
section
variable {cs : List Pv.D} {sp lf dr v m : Int} {st pre : Sto}
theorem pre_at (pre st : Sto) (m : MO) : (pre ++ m :: st)[pre.length]? = some m := by simp
theorem fd_cells : fIx (Rf pre.length) (.str "cells") (pre ++ fd cs sp lf dr :: st) = .ok (.list cs) (pre ++ fd cs sp lf dr :: st) := by
  unfold fIx dlook; simp [keyOf, lookD, pre_at, fd]
theorem fd_spot : fIx (Rf pre.length) (.str "place") (pre ++ fd cs sp lf dr :: st) = .ok (.int sp) (pre ++ fd cs sp lf dr :: st) := by
  unfold fIx dlook; simp [keyOf, lookD, pre_at, fd]
theorem fd_left : fIx (Rf pre.length) (.str "left") (pre ++ fd cs sp lf dr :: st) = .ok (.int lf) (pre ++ fd cs sp lf dr :: st) := by
  unfold fIx dlook; simp [keyOf, lookD, pre_at, fd]
theorem fd_drawn : fIx (Rf pre.length) (.str "drawn") (pre ++ fd cs sp lf dr :: st) = .ok (.int dr) (pre ++ fd cs sp lf dr :: st) := by
  unfold fIx dlook; simp [keyOf, lookD, pre_at, fd]
theorem set_spot : setO (pre ++ fd cs sp lf dr :: st) (Rf pre.length) (.str "place") (.int v) = some (pre ++ fd cs v lf dr :: st) := by
  unfold setO; simp [keyOf, putD, sizeLine_eq, pre_at, fd]
theorem set_left : setO (pre ++ fd cs sp lf dr :: st) (Rf pre.length) (.str "left") (.int v) = some (pre ++ fd cs sp v dr :: st) := by
  unfold setO; simp [keyOf, putD, sizeLine_eq, pre_at, fd]
theorem set_drawn : setO (pre ++ fd cs sp lf dr :: st) (Rf pre.length) (.str "drawn") (.int v) = some (pre ++ fd cs sp lf v :: st) := by
  unfold setO; simp [keyOf, putD, sizeLine_eq, pre_at, fd]
theorem fd_ok {g : Nat → Option Pv.D} (h : IntsD cs) : fzO g (fd cs sp lf dr) = some (fd cs sp lf dr) := by
  have e := fzL_clean (g := g) cs (ints_lay h)
  unfold fd
  show (fzP g _).map MO.dct = _
  simp [fzP, e, fz]
def mixA (c d : Int) : Int := (c % 1000016165 + 102527 * d + 1015) % 2147483237
def mixB (a d : Int) : Int := (a * a + 6463721 * d + 469) % 2147483563
def mixC (b : Int) : Int := (b * b + 623 * b) % 2147483477 / 16
theorem q_draw (hcs : IntsD cs) (hl : cs.length ≤ 63) (h0 : 0 < m) (h1 : m < 1073741824) :
    ∃ r sp' lf' dr', F__law_draw [Rf pre.length, .int m] (pre ++ fd cs sp lf dr :: st) = .ok (.int r) (pre ++ fd cs sp' lf' dr' :: st) ∧ 0 ≤ r ∧ r < m := by
  have bd : ∀ x : Int, 0 ≤ x % m ∧ x % m < m := fun x => ⟨Int.emod_nonneg _ (by omega), Int.emod_lt_of_pos _ h0⟩
  have m1 : ∀ x : Int, -18446744073709551616 < x % 2147483237 := fun x => by omega
  have m2 : ∀ x : Int, x % 2147483237 < 18446744073709551616 := fun x => by omega
  have m3 : ∀ x : Int, -18446744073709551616 < x % 2147483563 := fun x => by omega
  have m4 : ∀ x : Int, x % 2147483563 < 18446744073709551616 := fun x => by omega
  have fin : ∀ (d : Pv.D) (sp lf dr : Int), finR (pre.length + (st.length + 1)) (.ok d (pre ++ fd cs sp lf dr :: st)) = .ok d (pre ++ fd cs sp lf dr :: st) := fun d sp lf dr => fin_same (by simp)
  unfold F__law_draw b__law_draw
  simp only [fnP_e]
  by_cases hlf : 0 < lf
  · refine ⟨lf % m, sp, lf / m, dr + 1, ?_, bd _⟩
    simp [startD, fd_drawn, set_drawn, fd_left, dInt, dInt2, hlf, h0, h1, set_left, fin]
  · by_cases hc : cs = []
    · subst hc
      refine ⟨mixC (mixB (mixA 5335 (dr + 1)) (dr + 1)) % m, sp + 1, lf, dr + 1, ?_, bd _⟩
      simp [startD, fd_drawn, set_drawn, fd_left, dInt, dInt2, hlf, h0, h1, fd_spot, fd_cells, set2, set_spot, mkLst, dMulS, m1, m2, m3, m4, mixA, mixB, mixC, fin]
    · obtain ⟨c, hc2⟩ := at_mod (st := pre ++ fd cs (sp + 1) lf (dr + 1) :: st) (j := sp) hcs hc
      have hp : 0 < cs.length := Nat.pos_of_ne_zero fun z => hc (List.length_eq_zero_iff.mp z)
      have hne : cs.isEmpty = false := by cases cs with | nil => exact absurd rfl hc | cons _ _ => rfl
      have e1 : dCmp .NotEq (.list cs) (.list []) = some (.bool true) := by rw [cmp_ne_nilL (ints_lay hcs), hne]; rfl
      by_cases hb : 1000000000000000000 ≤ c
      · by_cases hs : sp < (cs.length : Int)
        · refine ⟨c % m, sp + 1, c / m, dr + 1, ?_, bd _⟩
          simp [startD, fd_drawn, set_drawn, fd_left, dInt, dInt2, hlf, h0, h1, fd_spot, fd_cells, set2, set_spot, mkLst, e1, dLen, hp, hc2, hb, hs, set_left, fin]
        · refine ⟨mixC (mixB (mixA c (dr + 1)) (dr + 1)) % m, sp + 1, lf, dr + 1, ?_, bd _⟩
          simp [startD, fd_drawn, set_drawn, fd_left, dInt, dInt2, hlf, h0, h1, fd_spot, fd_cells, set2, set_spot, mkLst, e1, dLen, hp, hc2, hb, hs, dMulS, m1, m2, m3, m4, mixA, mixB, mixC, fin]
      · refine ⟨mixC (mixB (mixA c (dr + 1)) (dr + 1)) % m, sp + 1, lf, dr + 1, ?_, bd _⟩
        simp [startD, fd_drawn, set_drawn, fd_left, dInt, dInt2, hlf, h0, h1, fd_spot, fd_cells, set2, set_spot, mkLst, e1, dLen, hp, hc2, hb, dMulS, m1, m2, m3, m4, mixA, mixB, mixC, fin]
theorem q_feed {ns : List Int} (hn : ns.length ≤ 63) (st : Sto) : F__law_feed [Gs (ns.map .int)] st = .ok (Rf st.length) (st ++ [fd (ns.map .int) 0 0 0]) := by
  unfold F__law_feed b__law_feed
  rw [fnK_e]
  have cut : cutD (ns.map PyData.int) none (some 63) = ns.map .int := by
    rw [show (some (63 : Int)) = some (((63 : Nat)) : Int) from rfl, cut_to, List.take_of_length_le (by rw [List.length_map]; exact hn)]
  simp [startD, mDct, pairsM, keyOf, mergeD, putD, fd, fSl, dList, cut]
theorem ints_ns (ns : List Int) : IntsD (ns.map PyData.int) := fun c hc => by
  obtain ⟨i, _, e⟩ := List.mem_map.mp hc
  exact ⟨i, e.symm⟩
theorem q_any {xs : List Pv.D} (hcs : IntsD cs) (hl : cs.length ≤ 63) (hne : xs ≠ []) (hx : xs.length ≤ 1000000) :
    ∃ x sp' lf' dr', F__law_any [Rf pre.length, .list xs] (pre ++ fd cs sp lf dr :: st) = .ok x (pre ++ fd cs sp' lf' dr' :: st) ∧ x ∈ xs := by
  have hp : 0 < xs.length := Nat.pos_of_ne_zero fun z => hne (List.length_eq_zero_iff.mp z)
  obtain ⟨r, sp', lf', dr', e, h0, h1⟩ := q_draw (pre := pre) (sp := sp) (lf := lf) (dr := dr) (st := st) (m := (xs.length : Int)) hcs hl (by omega) (by omega)
  obtain ⟨j, hj⟩ : ∃ j : Nat, r = (j : Int) := ⟨_, (Int.toNat_of_nonneg h0).symm⟩
  subst hj
  have hlt : j < xs.length := by omega
  have fin : ∀ (d : Pv.D) (sp lf dr : Int), finR (pre.length + (st.length + 1)) (.ok d (pre ++ fd cs sp lf dr :: st)) = .ok d (pre ++ fd cs sp lf dr :: st) := fun d sp lf dr => fin_same (by simp)
  refine ⟨xs[j], sp', lf', dr', ?_, List.getElem_mem hlt⟩
  unfold F__law_any b__law_any
  rw [fnP_e]
  simp [startD, e, ix_l (List.getElem?_eq_getElem hlt), fin]
theorem q_anyT {xs : List Pv.D} (hcs : IntsD cs) (hl : cs.length ≤ 63) (hne : xs ≠ []) (hx : xs.length ≤ 1000000) :
    ∃ x sp' lf' dr', F__law_any [Rf pre.length, .tuple xs] (pre ++ fd cs sp lf dr :: st) = .ok x (pre ++ fd cs sp' lf' dr' :: st) ∧ x ∈ xs := by
  have hp : 0 < xs.length := Nat.pos_of_ne_zero fun z => hne (List.length_eq_zero_iff.mp z)
  obtain ⟨r, sp', lf', dr', e, h0, h1⟩ := q_draw (pre := pre) (sp := sp) (lf := lf) (dr := dr) (st := st) (m := (xs.length : Int)) hcs hl (by omega) (by omega)
  obtain ⟨j, hj⟩ : ∃ j : Nat, r = (j : Int) := ⟨_, (Int.toNat_of_nonneg h0).symm⟩
  subst hj
  have hlt : j < xs.length := by omega
  have fin : ∀ (d : Pv.D) (sp lf dr : Int), finR (pre.length + (st.length + 1)) (.ok d (pre ++ fd cs sp lf dr :: st)) = .ok d (pre ++ fd cs sp lf dr :: st) := fun d sp lf dr => fin_same (by simp)
  refine ⟨xs[j], sp', lf', dr', ?_, List.getElem_mem hlt⟩
  unfold F__law_any b__law_any
  rw [fnP_e]
  simp [startD, e, ix_t (List.getElem?_eq_getElem hlt), fin]
end
end Gstampahead_k28_whole_longest_chains
set_option Elab.async false
set_option linter.all false
set_option maxRecDepth 100000
set_option maxHeartbeats 1000000
set_option pp.maxSteps 1500
namespace Gstampahead_k28_whole_longest_chains
open PySem PySem.Spec Pv
open L2 hiding keyOf
open PyProof.Rows hiding St signs cutD pairD
section
variable {st : Sto} {x : Pv.D}
theorem q_int (h : Cl x) : F_is_integer [x] st = .ok (.bool (isIntD x)) st := by
  unfold F_is_integer b_is_integer
  rw [fnP_e]
  cases x with
  | dict k => exact h.nodict.elim
  | _ => simp [startD, Ty.sub, isIntD]
theorem q_num (h : Cl x) : F_is_number [x] st = .ok (.bool (isNumD x)) st := by
  unfold F_is_number b_is_number
  rw [fnP_e]
  cases x with
  | dict k => exact h.nodict.elim
  | _ => simp [startD, isIntD, isNumD, q_int h]
end
section
variable {st : Sto} {x : Pv.D} {n : Net}
theorem q_known (a b : Option Stamp) (s0 s3 s4 s5 s6 s7 s8 s9 : Option Pv.D) :
    mLc (mIter (mTup (msCons (mVar 1) (msCons (mVar 2) msNil)))) (.nm 9) (mTb (mNotN (mVar 9))) (mVar 9) [9] [s0, some (dStampO a), some (dStampO b), s3, s4, s5, s6, s7, s8, s9] st = .ok (.list ((known a b).map dStamp)) st := by
  have := mLc_map (mi := mIter (mTup (msCons (mVar 1) (msCons (mVar 2) msNil)))) (t := .nm 9) (tt := mTb (mNotN (mVar 9))) (te := mVar 9) (vs := [9]) (sl := [s0, some (dStampO a), some (dStampO b), s3, s4, s5, s6, s7, s8, s9]) (st := st) (keep := always) (ds := [dStampO a, dStampO b]) id (fun d => !isNone d)
    (by simp [mkTup, sz_le]) trivial (sz_le (by simp)) fun d hd => ⟨_, rfl, by simp [wipeD], fun _ => by simp [wipeD]⟩
  rw [this]
  cases a <;> cases b <;> rfl
theorem q_marks (ks : List Stamp) (hk : ks.length ≤ 2) (s0 s1 s2 s3 s5 s6 s7 s8 s9 : Option Pv.D) :
    mLc (mIter (mVar 4)) (.nm 9) tYesM (mIx (mVar 9) (mC (.int 0))) [9] [s0, s1, s2, s3, some (.list (ks.map dStamp)), s5, s6, s7, s8, s9] st = .ok (.list (ks.map fun s => .int s.1)) st := by
  have := mLc_all (mi := mIter (mVar 4)) (t := .nm 9) (te := mIx (mVar 9) (mC (.int 0))) (vs := [9]) (sl := [s0, s1, s2, s3, some (.list (ks.map dStamp)), s5, s6, s7, s8, s9]) (st := st) (keep := always) (ds := ks.map dStamp) (fun d => match d with | .tuple (y :: _) => y | d => d)
    (by simp) trivial (by rw [List.length_map]; exact sz_le (by omega)) fun d hd => by
      obtain ⟨y, hy, rfl⟩ := List.mem_map.mp hd
      exact ⟨_, rfl, by simp [wipeD, dStamp]⟩
  rw [this, List.map_map]; rfl
theorem q_counts (ks : List Stamp) (hk : ks.length ≤ 2) (m : Int) (s0 s1 s2 s3 s6 s7 s8 s9 : Option Pv.D) :
    mLc (mIter (mVar 4)) (.nm 9) (mTb (mCmp .Eq (mIx (mVar 9) (mC (.int 0))) (mVar 5))) (mIx (mVar 9) (mC (.int 1))) [9] [s0, s1, s2, s3, some (.list (ks.map dStamp)), some (.int m), s6, s7, s8, s9] st = .ok (.list ((ks.filter fun s => decide (s.1 = m)).map fun s => .int s.2)) st := by
  have := mLc_map (mi := mIter (mVar 4)) (t := .nm 9) (tt := mTb (mCmp .Eq (mIx (mVar 9) (mC (.int 0))) (mVar 5))) (te := mIx (mVar 9) (mC (.int 1))) (vs := [9]) (sl := [s0, s1, s2, s3, some (.list (ks.map dStamp)), some (.int m), s6, s7, s8, s9]) (st := st) (keep := always) (ds := ks.map dStamp)
    (fun d => match d with | .tuple [_, y] => y | d => d) (fun d => match d with | .tuple (.int y :: _) => decide (y = m) | _ => false)
    (by simp) trivial (by rw [List.length_map]; exact sz_le (by omega)) fun d hd => by
      obtain ⟨y, hy, rfl⟩ := List.mem_map.mp hd
      exact ⟨_, rfl, by simp [wipeD, dStamp], fun _ => by simp [wipeD, dStamp]⟩
  rw [this, List.filter_map, List.map_map]; rfl
theorem q_next (a b : Option Stamp) (rd : Int) : F_next_stamp [dNet n, dStampO a, dStampO b, .int rd] st = .ok (dStampO (nst n a b rd)) st := by
  unfold F_next_stamp b_next_stamp nst
  rw [fnP_e]
  dsimp only
  have hk := known_len a b
  have k1 := fun s0 s3 s4 s5 s6 s7 s8 s9 => q_known (st := st) a b s0 s3 s4 s5 s6 s7 s8 s9
  generalize known a b = ks at hk k1
  have k2 := fun s0 s1 s2 s3 s5 s6 s7 s8 s9 => q_marks (st := st) ks hk s0 s1 s2 s3 s5 s6 s7 s8 s9
  have k3 := fun m s0 s1 s2 s3 s6 s7 s8 s9 => q_counts (st := st) ks hk m s0 s1 s2 s3 s6 s7 s8 s9
  have km : fMaxDf (.list (ks.map fun s => .int s.1)) (.int (rd - 1)) st = .ok (.int (mark ks rd)) st := by
    unfold fMaxDf
    rw [show deref st (.list (ks.map fun s => PyData.int s.1)) = .list (ks.map fun s => PyData.int s.1) from rfl]
    simp only [ints_stD ks (·.1), mark]
    cases maxI (ks.map (·.1)) <;> rfl
  by_cases h1 : mark ks rd < rd
  · simp [startD, k1, k2, km, dInt2, h1, mkTup, sz_le, dSO, dSN]
  · have hne : ∃ c, maxI ((ks.filter fun s => decide (s.1 = mark ks rd)).map (·.2)) = some c := by
      cases hm : maxI (ks.map (·.1)) with
      | none => exfalso; apply h1; unfold mark; rw [hm]; simp; omega
      | some m =>
        have e : mark ks rd = m := by unfold mark; rw [hm]; rfl
        obtain ⟨s, hs, e2⟩ := List.mem_map.mp (maxI_some hm)
        have : s ∈ ks.filter fun s => decide (s.1 = mark ks rd) := List.mem_filter.mpr ⟨hs, by rw [e, ← e2]; simp⟩
        cases hf : ks.filter fun s => decide (s.1 = mark ks rd) with
        | nil => rw [hf] at this; cases this
        | cons y l => exact ⟨_, rfl⟩
    obtain ⟨c, hc⟩ := hne
    have kx : dMax1 (.list ((ks.filter fun s => decide (s.1 = mark ks rd)).map fun s => .int s.2)) = some (.int c) := by
      show (intsOfD _).bind _ = _
      rw [ints_stD _ (·.2)]
      simp only [Option.bind_some, hc]; rfl
    have cut : fSl (some 2) none (dNet n) st = .ok (.tuple [dOpt n.most, .str n.rule]) st := rfl
    rw [hc]
    cases hmost : n.most with
    | none => simp [startD, k1, k2, k3, km, kx, dInt2, h1, mkTup, sz_le, dSO, dSN, cut, hmost, dOpt, hc]
    | some k =>
      by_cases h2 : 1 + c ≤ k
      · simp [startD, k1, k2, k3, km, kx, dInt2, h1, mkTup, sz_le, dSO, dSN, cut, hmost, dOpt, hc, h2]
      · by_cases h3 : n.rule = "more"
        · simp [startD, k1, k2, k3, km, kx, dInt2, h1, mkTup, sz_le, dSO, dSN, cut, hmost, dOpt, hc, h2, h3]
        · simp [startD, k1, k2, k3, km, kx, dInt2, h1, mkTup, sz_le, dSO, dSN, cut, hmost, dOpt, hc, h2, h3]
end
section
variable {st : Sto} {n : Net}
def slS (n : Net) (all : List Pv.D) (st : Sto) : Sl := [some (dNet n), some (.tuple all), some (Rf st.length), some (Rf (st.length + 1)), none, none, none, none, none, none]
theorem q_stbyL (hs : StC st) (all : List Pv.D) : ∀ (es : List Ev) (latF : Str → Option Stamp) (sts : List Stamp) (lat : List (Key × Pv.D)), (∀ h, lookD lat (.inr h) = (latF h).map dStamp) → lat.length ≤ sts.length → sts.length + es.length ≤ 1000 → letB sts.length es = true →
    ∃ lat', forL always (tgTup 4 (tgCons (tgName 4) (tgCons (tgName 5) (tgCons (tgName 6) (tgCons (tgName 7) tgNil))))) l0_stamps_by [4, 5, 6, 7, 8, 9] (es.map dEv) (slS n all st) (rS st lat sts) =
      (if none ∈ stL n es latF sts then .rt (Rf (st.length + 1)) ((st ++ [.dct lat']) ++ [.lst ((stL n es latF sts).map dStampO)]) else .nx (slS n all st) ((st ++ [.dct lat']) ++ [.lst ((stL n es latF sts).map dStampO)]))
  | [], latF, sts, lat, hl, hz, hm, hb => by
    refine ⟨lat, ?_⟩
    unfold stL
    rw [if_neg (by simp), List.map_nil, forL_nil]
    unfold rS
    rw [List.map_map]; rfl
  | e :: es, latF, sts, lat, hl, hz, hm, hb => by
    have hm' : sts.length + (es.length + 1) ≤ 1000 := hm
    have hz1 : lat.length < sizeLine := sz_lt (by omega)
    have hz2 : sts.length < sizeLine := sz_lt (by omega)
    unfold letB at hb
    rw [Bool.and_eq_true] at hb
    obtain ⟨hb1, hb2⟩ := hb
    have look : (lookD lat (.inr e.h)).getD .none = dStampO (latF e.h) := by rw [hl]; cases latF e.h <;> rfl
    have heard : ∀ s8 s9 : Option Pv.D, mIf (mTb (mIsN (mVar 7))) (mC .none) (mIx (mVar 3) (mVar 7)) [some (dNet n), some (.tuple all), some (Rf st.length), some (Rf (st.length + 1)), some (.str e.h), some (.int e.t), some (.int e.r), some (dLet e.l), s8, s9] (rS st lat sts) =
        .ok (dStampO (e.l.bind fun l => sts[l]?)) (rS st lat sts) := by
      intro s8 s9
      cases hlt : e.l with
      | none => simp [dLet]; rfl
      | some l =>
        rw [hlt] at hb1
        have hlt2 : l < sts.length := by simpa using hb1
        have g : sts[l]? = some sts[l] := List.getElem?_eq_getElem hlt2
        simp [dLet, rS_ix lat sts g, g]
        rfl
    have qn := q_next (n := n) (st := rS st lat sts) (latF e.h) (e.l.bind fun l => sts[l]?) e.r
    unfold stL
    rw [List.map_cons, forL_cons]
    cases h3 : nst n (latF e.h) (e.l.bind fun l => sts[l]?) e.r with
    | none =>
      rw [h3] at qn
      have put : setO (rS st lat sts) (Rf st.length) (.str e.h) .none = _ := rS_put (st := st) lat sts e.h .none hz1
      have ap := rS_appD (st := st) (putD lat (.inr e.h) .none) sts .none hz2
      refine ⟨putD lat (.inr e.h) .none, ?_⟩
      have body : (tgTup 4 (tgCons (tgName 4) (tgCons (tgName 5) (tgCons (tgName 6) (tgCons (tgName 7) tgNil)))) (dEv e) (slS n all st) (rS st lat sts)).thenS l0_stamps_by = .rt (Rf (st.length + 1)) ((st ++ [.dct (putD lat (.inr e.h) .none)]) ++ [.lst (sts.map dStamp ++ [.none])]) := by
        unfold l0_stamps_by
        simp [-e_if, slS, dEv, heard, rS_isD, rS_get, look, qn, dSN, put, rS_isL, ap]
      rw [body]
      simp only
      rw [if_pos (by simp), List.map_append, List.map_map]
      rfl
    | some s =>
      rw [h3] at qn
      have put := rS_put (st := st) lat sts e.h (dStamp s) hz1
      have ap := rS_app (st := st) (putD lat (.inr e.h) (dStamp s)) sts s hz2
      have nn : isNone (dStamp s) = false := rfl
      obtain ⟨lat', ih⟩ := q_stbyL hs all es (fun x => if x = e.h then some s else latF x) (sts ++ [s]) (putD lat (.inr e.h) (dStamp s)) (fun h => by
        rw [lookD_put]
        by_cases hx : h = e.h
        · subst hx; simp
        · have : ¬ ((.inr e.h : Key) = .inr h) := fun z => hx (Sum.inr.inj z).symm
          rw [if_neg this, if_neg hx, hl]) (by
        have : (putD lat (.inr e.h) (dStamp s)).length ≤ lat.length + 1 := by
          unfold putD; split
          · rw [List.length_map]; exact Nat.le_succ _
          · simp
        simp only [List.length_append, List.length_cons, List.length_nil]
        omega) (by simp only [List.length_append, List.length_cons, List.length_nil]; omega) (by simpa using hb2)
      refine ⟨lat', ?_⟩
      have body : ∃ sl2, (tgTup 4 (tgCons (tgName 4) (tgCons (tgName 5) (tgCons (tgName 6) (tgCons (tgName 7) tgNil)))) (dEv e) (slS n all st) (rS st lat sts)).thenS l0_stamps_by = .nx sl2 (rS st (putD lat (.inr e.h) (dStamp s)) (sts ++ [s])) ∧ wipeD sl2 [4, 5, 6, 7, 8, 9] = slS n all st := by
        refine ⟨[some (dNet n), some (.tuple all), some (Rf st.length), some (Rf (st.length + 1)), some (.str e.h), some (.int e.t), some (.int e.r), some (dLet e.l), some (dStampO (e.l.bind fun l => sts[l]?)), some (dStamp s)], ?_, rfl⟩
        unfold l0_stamps_by
        rw [show dStampO (some s) = dStamp s from rfl] at qn
        simp [-e_if, slS, dEv, heard, rS_isD, rS_get, look, qn, put, rS_isL, ap, nn]
      obtain ⟨sl2, b1, b2⟩ := body
      rw [b1]
      simp only [b2]
      exact ih
theorem q_stby (hs : StC st) {es : List Ev} (hm : es.length ≤ 1000) (hb : letB 0 es = true) : F_stamps_by [dNet n, .tuple (es.map dEv)] st = .ok (.list ((stp n es).map dStampO)) st := by
  unfold F_stamps_by b_stamps_by
  rw [fnP_e]
  obtain ⟨lat', e⟩ := q_stbyL (n := n) hs (es.map dEv) es (fun _ => none) [] [] (fun h => rfl) (Nat.le_refl _) (by simpa using hm) hb
  have e' : forL always (tgTup 4 (tgCons (tgName 4) (tgCons (tgName 5) (tgCons (tgName 6) (tgCons (tgName 7) tgNil))))) l0_stamps_by [4, 5, 6, 7, 8, 9] (es.map dEv) [some (dNet n), some (.tuple (es.map dEv)), some (Rf st.length), some (Rf (st.length + 1)), none, none, none, none, none, none] ((st ++ [.dct []]) ++ [.lst []]) = _ := e
  have ml : ∀ st, mkLstM [] st = .ok (Rf st.length) (st ++ [.lst []]) := fun st => by unfold mkLstM; rw [if_pos (show ([] : List Pv.D).length ≤ sizeLine from Nat.zero_le _)]
  have hf : finR st.length (.ok (Rf (st.length + 1)) ((st ++ [.dct lat']) ++ [.lst ((stp n es).map dStampO)])) = .ok (.list ((stp n es).map dStampO)) st := by
    rw [List.append_assoc]
    exact fin_list hs (Nat.le_succ _) (by rw [List.getElem?_append_right (by omega)]; simp) (stOs_lay _)
  simp [startD, e_newK, wipeD, ml]
  rw [show st ++ [MO.dct [], MO.lst []] = (st ++ [.dct []]) ++ [.lst []] by simp, e']
  split
  · exact hf
  · exact hf
end
section
variable {st : Sto} {n : Net}
theorem run_at {es : List Ev} {j : Nat} (hj : j < es.length) (st : Sto) : fIx (.tuple (es.map dEv)) (.int (j : Int)) st = .ok (dEv es[j]) st := ix_t (by rw [List.getElem?_map, List.getElem?_eq_getElem hj]; rfl)
theorem ev_0 (e : Ev) (st : Sto) : fIx (dEv e) (.int 0) st = .ok (.str e.h) st := rfl
theorem ev_3 (e : Ev) (st : Sto) : fIx (dEv e) (.int 3) st = .ok (dLet e.l) st := rfl
theorem q_lastby {es : List Ev} (hl : es.length ≤ 1000) {k : Nat} (hk : k < es.length) : F_last_by [.tuple (es.map dEv), .int (k : Int)] st = .ok (dLet (lastBy es k)) st := by
  unfold F_last_by b_last_by
  rw [fnP_e]
  have lc : ∀ s2 : Option Pv.D, mLc (mRng1 (mVar 1)) (.nm 3) (mTb (mCmp .Eq (mIx (mIx (mVar 0) (mVar 3)) (mC (.int 0))) (mIx (mIx (mVar 0) (mVar 1)) (mC (.int 0))))) (mVar 3) [3] [some (.tuple (es.map dEv)), some (.int (k : Int)), s2, none] st = .ok (.list (((List.range k).filter fun j => sameH es j k).map fun (j : Nat) => PyData.int (j : Int))) st := by
    intro s2
    refine mLc_if (keep := always) (List.range k) (fun (j : Nat) => PyData.int (j : Int)) _ _ (rng1_at (by simp) (by omega)) trivial (by rw [List.length_range]; omega) fun j hj => ?_
    have hj' : j < k := List.mem_range.mp hj
    have e1 : es[j]? = some es[j] := List.getElem?_eq_getElem (by omega)
    have e2 : es[k]? = some es[k] := List.getElem?_eq_getElem hk
    exact ⟨_, rfl, by simp [wipeD, run_at (show j < es.length by omega), run_at hk, ev_0, sameH, e1, e2], fun _ => by simp [wipeD]⟩
  cases hg : ((List.range k).filter fun j => sameH es j k).getLast? with
  | none =>
    have hn := List.getLast?_eq_none_iff.mp hg
    rw [hn] at lc
    simp -implicitDefEqProofs [startD, lc, lastBy, hn, dLet]
  | some j =>
    have hne : ((List.range k).filter fun j => sameH es j k) ≠ [] := fun z => by rw [z] at hg; cases hg
    have hp : 0 < ((List.range k).filter fun j => sameH es j k).length := List.length_pos_iff.mpr hne
    have il := fun st => ix_lastL (ds := ((List.range k).filter fun j => sameH es j k).map fun (j : Nat) => PyData.int (j : Int)) (st := st) (d := .int (j : Int)) (by rw [List.getLast?_map, hg]; rfl)
    simp -implicitDefEqProofs [startD, lc, lastBy, hg, dLet, dNeg, il, hp]
theorem q_causes {es : List Ev} (hl : es.length ≤ 1000) {k : Nat} (hk : k < es.length) : F_causes_of [.tuple (es.map dEv), .int (k : Int)] st = .ok (.list ((causes es k).map fun (j : Nat) => PyData.int (j : Int))) st := by
  unfold F_causes_of b_causes_of
  rw [fnP_e]
  have e2 : es[k]? = some es[k] := List.getElem?_eq_getElem hk
  have lc := mLc_if (keep := always) (st := st) (mi := mIter (mTup (msCons (mCall F_last_by (msCons (mVar 0) (msCons (mVar 1) msNil))) (msCons (mIx (mIx (mVar 0) (mVar 1)) (mC (.int 3))) msNil)))) (t := .nm 2) (tt := mTb (mNotN (mVar 2))) (te := mVar 2) (vs := [2]) (sl := [some (.tuple (es.map dEv)), some (.int (k : Int)), none]) [dLet (lastBy es k), dLet es[k].l] id id (fun d => !isNone d)
    (by simp -implicitDefEqProofs [q_lastby hl hk, run_at hk, ev_3, mkTup, sz_le]) trivial (by simp) fun x hx => ⟨_, rfl, by simp -implicitDefEqProofs [wipeD], fun _ => by simp -implicitDefEqProofs [wipeD]⟩
  simp -implicitDefEqProofs [startD, lc]
  have ec : causes es k = (lastBy es k).toList ++ es[k].l.toList := by unfold causes; rw [e2]
  rw [ec]
  generalize lastBy es k = a
  generalize es[k].l = b
  cases a <;> cases b <;> rfl
end
section
variable {st : Sto} {n : Net}
theorem q_want (hs : StC st) (b : Bool) {w : Str} (hw : (PyData.str w).canLay0 = true) : F_want [.bool b, .str w] st = if b = true then .ok .none st else .exc ("NotUsable", [("at", .int (-1)), ("word", .str w)]) st := by
  unfold F_want b_want
  rw [fnP_e]
  cases b with
  | true => simp [startD]
  | false =>
    simp [startD, dNeg, excOf]
end
section
variable {st : Sto} {n : Net}
theorem q_isidx {es : List Ev} {x : Pv.D} (hx : Cl x) : F_is_index [.tuple (es.map dEv), x] st = .ok (.bool (isIdx es.length x)) st := by
  unfold F_is_index b_is_index
  rw [fnP_e]
  cases x with
  | dict k => exact hx.nodict.elim
  | int i =>
    have q := fun st => q_num (st := st) hx
    by_cases hi : 0 ≤ i
    · simp [startD, q, isNumD, isIdx, hi]
    · simp [startD, q, isNumD, isIdx, hi]
  | _ => simp [startD, q_num hx, isNumD, isIdx]
theorem idx_nat {n k : Nat} (h : k < n) : isIdx n (.int (k : Int)) = true := by
  unfold isIdx
  rw [Bool.and_eq_true, decide_eq_true_eq, decide_eq_true_eq]
  omega
theorem cl_nat {k : Nat} (h : k ≤ 100000) : Cl (.int (k : Int)) := cl_int (by omega)
end
section
variable {st : Sto}
theorem q_same {xs : List Pv.D} {k : Nat} (ho : Ok (.list xs) (2 ^ 20) k) (hk : k ≤ 100) : F__law_same [Rf st.length, .list xs] (st ++ [.lst xs]) = .ok (.bool true) (st ++ [.lst xs]) := by
  unfold F__law_same b__law_same
  rw [fnP_e]
  have h1 : ∀ st, reprD st (.list xs) = some (.str (PyData.list xs).shown) := fun st => repr_ok ho (by decide) hk st
  have f : ∀ d, finR (st.length + 1) (.ok d (st ++ [.lst xs])) = .ok d (st ++ [.lst xs]) := fun d => fin_same (by simp)
  simp [startD, repr_last, h1, f]
end
section
variable {cs : List Pv.D} {sp lf dr : Int} {pre : Sto}
/-- the store: pre, the feed, more -/
def Fs (pre : Sto) (cs : List Pv.D) (st : Sto) (S : Sto) : Prop := ∃ sp lf dr, S = pre ++ fd cs sp lf dr :: st
def nS (spots : List Host) (lanes : List Road) : Sto := [.lst (spots.map dHost), .lst (lanes.map dRoad)]
theorem nS_app0 {S : Sto} {spots : List Host} {lanes : List Road} (h : Host) (hl : spots.length ≤ 900) {fm : MO} : fApp (Rf (pre.length + 1)) (dHost h) (pre ++ fm :: nS spots lanes) = .ok .none (pre ++ fm :: nS (spots ++ [h]) lanes) := by
  have e : (pre ++ fm :: nS spots lanes)[pre.length + 1]? = some (.lst (spots.map dHost)) := by
    rw [List.getElem?_append_right (by omega)]; simp [nS]
  unfold fApp
  simp only [show ((pre.length + 1 : Nat) : Int).toNat = pre.length + 1 from Int.toNat_natCast _, e]
  rw [if_pos (sz_lt (by rw [List.length_map]; omega)), List.set_append_right _ _ (by omega)]
  simp [nS]
theorem nS_app1 {spots : List Host} {lanes : List Road} (r : Road) (hl : lanes.length ≤ 900) {fm : MO} : fApp (Rf (pre.length + 2)) (dRoad r) (pre ++ fm :: nS spots lanes) = .ok .none (pre ++ fm :: nS spots (lanes ++ [r])) := by
  have e : (pre ++ fm :: nS spots lanes)[pre.length + 2]? = some (.lst (lanes.map dRoad)) := by
    rw [List.getElem?_append_right (by omega)]; simp [nS]
  unfold fApp
  simp only [show ((pre.length + 2 : Nat) : Int).toNat = pre.length + 2 from Int.toNat_natCast _, e]
  rw [if_pos (sz_lt (by rw [List.length_map]; omega)), List.set_append_right _ _ (by omega)]
  simp [nS]
theorem nS_is0 {spots : List Host} {lanes : List Road} {fm : MO} : isLst (pre ++ fm :: nS spots lanes) (Rf (pre.length + 1)) = true := by
  unfold isLst
  simp only [show ((pre.length + 1 : Nat) : Int).toNat = pre.length + 1 from Int.toNat_natCast _]
  rw [List.getElem?_append_right (by omega)]; simp [nS]
theorem nS_is1 {spots : List Host} {lanes : List Road} {fm : MO} : isLst (pre ++ fm :: nS spots lanes) (Rf (pre.length + 2)) = true := by
  unfold isLst
  simp only [show ((pre.length + 2 : Nat) : Int).toNat = pre.length + 2 from Int.toNat_natCast _]
  rw [List.getElem?_append_right (by omega)]; simp [nS]
theorem nS_de0 {spots : List Host} {lanes : List Road} {fm : MO} : deref (pre ++ fm :: nS spots lanes) (Rf (pre.length + 1)) = .list (spots.map dHost) := by
  rw [deref_ref, List.getElem?_append_right (by omega)]; simp [nS]
theorem nS_de1 {spots : List Host} {lanes : List Road} {fm : MO} : deref (pre ++ fm :: nS spots lanes) (Rf (pre.length + 2)) = .list (lanes.map dRoad) := by
  rw [deref_ref, List.getElem?_append_right (by omega)]; simp [nS]
def netZ (pre : Sto) (scale : Int) (a2 a3 a4 : Option Pv.D) (ts : List Str) (a8 a9 a10 : Option Pv.D) : Sl := [some (Rf pre.length), some (.int scale), a2, a3, a4, some (Rf (pre.length + 1)), some (Rf (pre.length + 2)), some (.list (ts.map .str)), a8, a9, a10, none, none, none]
/-- one more road, perhaps -/
theorem q_lane (hcs : IntsD cs) (hl : cs.length ≤ 63) {scale : Int} (hsc : 1 ≤ scale ∧ scale ≤ 20) (a2 a3 a4 a9 a10 : Option Pv.D) (ts : List Str) {title other : Str} {spots : List Host} {lanes : List Road} (hlen : lanes.length ≤ 800) (sp lf dr : Int) :
    ∃ sl' lanes' sp' lf' dr', (tgName 11 (.str other) (netZ pre scale a2 a3 a4 ts (some (.str title)) a9 a10) (pre ++ fd cs sp lf dr :: nS spots lanes)).thenS l0__law_net = .nx sl' (pre ++ fd cs sp' lf' dr' :: nS spots lanes') ∧
      wipeD sl' [11] = netZ pre scale a2 a3 a4 ts (some (.str title)) a9 a10 ∧ (lanes' = lanes ∨ ∃ k, other ≠ title ∧ 0 ≤ k ∧ k ≤ 60 ∧ lanes' = lanes ++ [(title, other, k)]) := by
  refine ⟨(netZ pre scale a2 a3 a4 ts (some (.str title)) a9 a10).set 11 (some (.str other)), ?_⟩
  by_cases hne : other = title
  · refine ⟨lanes, sp, lf, dr, ?_, rfl, .inl rfl⟩
    unfold l0__law_net netZ
    simp [hne]
  · obtain ⟨r, sp1, lf1, dr1, hd, r0, r1⟩ := q_draw (pre := pre) (st := nS spots lanes) (sp := sp) (lf := lf) (dr := dr) (m := 3) hcs hl (by decide) (by decide)
    by_cases hr : 0 < r
    · obtain ⟨s, sp2, lf2, dr2, hd2, s0, s1⟩ := q_draw (pre := pre) (st := nS spots lanes) (sp := sp1) (lf := lf1) (dr := dr1) (m := 3 * scale) hcs hl (by omega) (by omega)
      obtain ⟨x, sp3, lf3, dr3, hd3, hx⟩ := q_any (pre := pre) (st := nS spots lanes) (sp := sp2) (lf := lf2) (dr := dr2) (xs := [.int 0, .int 0, .int 1, .int s]) hcs hl (by simp) (by simp)
      have hk : ∃ k, x = .int k ∧ 0 ≤ k ∧ k ≤ 60 := by
        simp only [List.mem_cons, List.not_mem_nil, or_false] at hx
        rcases hx with rfl | rfl | rfl | rfl
        · exact ⟨0, rfl, by decide, by decide⟩
        · exact ⟨0, rfl, by decide, by decide⟩
        · exact ⟨1, rfl, by decide, by decide⟩
        · exact ⟨s, rfl, s0, by omega⟩
      obtain ⟨k, rfl, k0, k1⟩ := hk
      have mu : dMulS (.int 3) (.int scale) = some (.int (3 * scale)) := mul_kr (by omega)
      have ap := nS_app1 (pre := pre) (spots := spots) (lanes := lanes) (title, other, k) (by omega) (fm := fd cs sp3 lf3 dr3)
      refine ⟨lanes ++ [(title, other, k)], sp3, lf3, dr3, ?_, rfl, .inr ⟨k, hne, k0, k1, rfl⟩⟩
      have is1 := nS_is1 (pre := pre) (spots := spots) (lanes := lanes) (fm := fd cs sp1 lf1 dr1)
      have ap' : fApp (Rf (pre.length + 2)) (.tuple [.str title, .str other, .int k]) (pre ++ fd cs sp3 lf3 dr3 :: nS spots lanes) = _ := ap
      unfold l0__law_net netZ
      simp [hne, hd, hr, mu, hd2, mkLst, sz_le, hd3, is1, mkTup, ap']
    · refine ⟨lanes, sp1, lf1, dr1, ?_, rfl, .inl rfl⟩
      unfold l0__law_net netZ
      simp [hne, hd, hr]
/-- the roads of one host -/
theorem q_lanes (hcs : IntsD cs) (hl : cs.length ≤ 63) {scale : Int} (hsc : 1 ≤ scale ∧ scale ≤ 20) (a2 a3 a4 a9 a10 : Option Pv.D) (ts : List Str) (hnd : ts.Nodup) (ht4 : ts.length ≤ 4) {k : Nat} {title : Str} (hk : ts[k]? = some title) {spots : List Host} {lanes : List Road} (hR : RoadsD ts k lanes) (sp lf dr : Int) :
    ∃ sl' lanes' sp' lf' dr', forL always (tgName 11) l0__law_net [11] (ts.map .str) (netZ pre scale a2 a3 a4 ts (some (.str title)) a9 a10) (pre ++ fd cs sp lf dr :: nS spots lanes) = .nx sl' (pre ++ fd cs sp' lf' dr' :: nS spots lanes') ∧
      sl' = netZ pre scale a2 a3 a4 ts (some (.str title)) a9 a10 ∧ RoadsD ts (k + 1) lanes' := by
  have hkl : k < ts.length := (List.getElem?_eq_some_iff.mp hk).1
  have htk : ts[k] = title := (List.getElem?_eq_some_iff.mp hk).2
  have hnot : title ∉ ts.take k := fun hm => by
    obtain ⟨j, hj⟩ := List.mem_iff_getElem?.mp hm
    have hjl := (List.getElem?_eq_some_iff.mp hj).1
    rw [List.length_take] at hjl
    have e : ts[j]? = some title := by
      rw [List.getElem?_take] at hj
      split at hj
      · exact hj
      · cases hj
    have := (List.getElem?_inj (by omega) hnd).mp (e.trans hk.symm)
    omega
  obtain ⟨sl', st', e, h1, sp', lf', dr', new, h2, h3, h4, h5⟩ := forL_invK (keep := always) (tg := tgName 11) (body := l0__law_net) (fg := [11]) (fun j sl st => sl = netZ pre scale a2 a3 a4 ts (some (.str title)) a9 a10 ∧ ∃ sp lf dr new, st = pre ++ fd cs sp lf dr :: nS spots (lanes ++ new) ∧ (∀ r ∈ new, r.1 = title ∧ r.2.1 ∈ ts.take j ∧ r.2.1 ≠ title ∧ 0 ≤ r.2.2 ∧ r.2.2 ≤ 60) ∧ (new.map (·.2.1)).Nodup ∧ new.length ≤ j) (fun _ => trivial)
    (ds := ts.map .str) (k := 0) (sl := netZ pre scale a2 a3 a4 ts (some (.str title)) a9 a10) (st := pre ++ fd cs sp lf dr :: nS spots lanes) ⟨rfl, sp, lf, dr, [], by simp, by simp, by simp, Nat.le_refl _⟩ (by
      rintro j d sl st hd ⟨rfl, sp, lf, dr, new, rfl, n1, n2, n3⟩
      rw [Nat.zero_add] at *
      rw [List.getElem?_map] at hd
      obtain ⟨other, ho, rfl⟩ := Option.map_eq_some_iff.mp hd
      have hjl : j < ts.length := (List.getElem?_eq_some_iff.mp ho).1
      have hR1 := hR.len
      obtain ⟨sl', lanes', sp', lf', dr', q1, q2, q3⟩ := q_lane (pre := pre) (spots := spots) hcs hl hsc a2 a3 a4 a9 a10 ts (title := title) (other := other) (lanes := lanes ++ new) (by rw [List.length_append]; omega) sp lf dr
      have tk : ts.take (j + 1) = ts.take j ++ [other] := by rw [List.take_add_one, ho]; rfl
      rcases q3 with rfl | ⟨v, hne, v0, v1, rfl⟩
      · refine ⟨sl', _, q1, q2, sp', lf', dr', new, rfl, fun r hr => ?_, n2, by omega⟩
        obtain ⟨a, b, c⟩ := n1 r hr
        exact ⟨a, by rw [tk]; exact List.mem_append_left _ b, c⟩
      · refine ⟨sl', _, q1, q2, sp', lf', dr', new ++ [(title, other, v)], by rw [List.append_assoc], fun r hr => ?_, ?_, by simp only [List.length_append, List.length_cons, List.length_nil]; omega⟩
        · rcases List.mem_append.mp hr with h | h
          · obtain ⟨a, b, c⟩ := n1 r h
            exact ⟨a, by rw [tk]; exact List.mem_append_left _ b, c⟩
          · have : r = (title, other, v) := by simpa using h
            subst this
            exact ⟨rfl, by rw [tk]; simp, hne, v0, v1⟩
        · rw [List.map_append, List.nodup_append]
          refine ⟨n2, by simp, fun a ha b hb => ?_⟩
          have hb' : b = other := by simpa using hb
          subst hb'
          obtain ⟨r, hr, rfl⟩ := List.mem_map.mp ha
          intro he
          obtain ⟨_, hm, _⟩ := n1 r hr
          rw [he] at hm
          obtain ⟨i, hi⟩ := List.mem_iff_getElem?.mp hm
          have hil := (List.getElem?_eq_some_iff.mp hi).1
          rw [List.length_take] at hil
          have e : ts[i]? = some b := by
            rw [List.getElem?_take] at hi
            split at hi
            · exact hi
            · cases hi
          have := (List.getElem?_inj (by omega) hnd).mp (e.trans ho.symm)
          omega)
  subst h1; subst h2
  rw [Nat.zero_add, List.length_map] at *
  refine ⟨_, lanes ++ new, sp', lf', dr', e, rfl, fun r hr => ?_, ?_, ?_⟩
  · have tk : ts.take (k + 1) = ts.take k ++ [title] := by rw [List.take_add_one, hk]; rfl
    rw [tk]
    rcases List.mem_append.mp hr with h | h
    · obtain ⟨a, b⟩ := hR.mem r h
      exact ⟨List.mem_append_left _ a, b⟩
    · obtain ⟨a, b, c, d, f⟩ := h3 r h
      refine ⟨by rw [a]; simp, List.mem_of_mem_take b, fun z => c (z.symm.trans a), d, f⟩
  · rw [List.map_append, List.nodup_append]
    refine ⟨hR.nd, ?_, fun a ha b hb => ?_⟩
    · exact List.pairwise_map.mpr ((List.pairwise_map.mp h4).imp fun {a b} h z => h (congrArg Prod.snd z))
    · obtain ⟨r, hr, rfl⟩ := List.mem_map.mp ha
      obtain ⟨u, hu, rfl⟩ := List.mem_map.mp hb
      intro z
      have z1 : r.1 = u.1 := (Prod.mk.inj z).1
      obtain ⟨a, _⟩ := hR.mem r hr
      rw [z1, (h3 u hu).1] at a
      exact hnot a
  · have := hR.len
    rw [List.length_append]; omega
/-- one host more, with its roads -/
theorem q_host (hcs : IntsD cs) (hl : cs.length ≤ 63) {scale : Int} (hsc : 1 ≤ scale ∧ scale ≤ 20) (a2 a3 a4 : Option Pv.D) (ts : List Str) (hnd : ts.Nodup) (ht4 : ts.length ≤ 4) {k : Nat} {title : Str} (hk : ts[k]? = some title) {spots : List Host} {lanes : List Road} (hR : RoadsD ts k lanes) (hsp : spots.length ≤ 800) (sp lf dr : Int) :
    ∃ sl' h lanes' sp' lf' dr', (tgName 8 (.str title) (netZ pre scale a2 a3 a4 ts none none none) (pre ++ fd cs sp lf dr :: nS spots lanes)).thenS l1__law_net = .nx sl' (pre ++ fd cs sp' lf' dr' :: nS (spots ++ [h]) lanes') ∧
      wipeD sl' [8, 9, 10, 11] = netZ pre scale a2 a3 a4 ts none none none ∧ HostD h ∧ h.n = title ∧ RoadsD ts (k + 1) lanes' := by
  obtain ⟨s, sp1, lf1, dr1, hd1, s0, s1⟩ := q_draw (pre := pre) (st := nS spots lanes) (sp := sp) (lf := lf) (dr := dr) (m := 3 * scale + 1) hcs hl (by omega) (by omega)
  obtain ⟨f, sp2, lf2, dr2, hd2, f0, f1⟩ := q_draw (pre := pre) (st := nS spots lanes) (sp := sp1) (lf := lf1) (dr := dr1) (m := 3 * scale + 1) hcs hl (by omega) (by omega)
  obtain ⟨x, sp3, lf3, dr3, hd3, hx⟩ := q_any (pre := pre) (st := nS spots lanes) (sp := sp2) (lf := lf2) (dr := dr2) (xs := [.int 1, .int 1, .int 2, .int 2, .int 3, .int 4]) hcs hl (by simp) (by simp)
  have hr : ∃ r, x = .int r ∧ 1 ≤ r ∧ r ≤ 4 := by
    simp only [List.mem_cons, List.not_mem_nil, or_false] at hx
    rcases hx with rfl | rfl | rfl | rfl | rfl | rfl <;> exact ⟨_, rfl, by decide, by decide⟩
  obtain ⟨r, rfl, r0, r1⟩ := hr
  have ap := nS_app0 (S := []) (pre := pre) (spots := spots) (lanes := lanes) ⟨title, s, f, r⟩ (by omega) (fm := fd cs sp3 lf3 dr3)
  have ap' : fApp (Rf (pre.length + 1)) (.tuple [.str title, .int s, .int f, .int r]) (pre ++ fd cs sp3 lf3 dr3 :: nS spots lanes) = _ := ap
  have is0 := nS_is0 (pre := pre) (spots := spots) (lanes := lanes) (fm := fd cs sp2 lf2 dr2)
  have mu : dMulS (.int 3) (.int scale) = some (.int (3 * scale)) := mul_kr (by omega)
  obtain ⟨sl', lanes', sp', lf', dr', e, rfl, hR'⟩ := q_lanes (pre := pre) (spots := spots ++ [⟨title, s, f, r⟩]) hcs hl hsc a2 a3 a4 (some (.int s)) (some (.int f)) ts hnd ht4 hk hR sp3 lf3 dr3
  refine ⟨netZ pre scale a2 a3 a4 ts (some (.str title)) (some (.int s)) (some (.int f)), ⟨title, s, f, r⟩, lanes', sp', lf', dr', ?_, rfl, ⟨s0, by show s ≤ 60; omega, f0, by show f ≤ 60; omega, r0, r1⟩, rfl, hR'⟩
  unfold l1__law_net
  have e' := e
  unfold netZ at e' ⊢
  simp [mu, hd1, hd2, set2, is0, mkLst, sz_le, hd3, mkTup, ap', wipeD, e']
/-- a drawn cluster -/
theorem q_net (hcs : IntsD cs) (hl : cs.length ≤ 63) (hp : StC pre) (sp lf dr : Int) :
    ∃ n sp' lf' dr', F__law_net [Rf pre.length] (pre ++ [fd cs sp lf dr]) = .ok (dNet n) (pre ++ [fd cs sp' lf' dr']) ∧ NetD n := by
  obtain ⟨x, sp1, lf1, dr1, hd1, hx⟩ := q_any (pre := pre) (st := []) (sp := sp) (lf := lf) (dr := dr) (xs := [.int 1, .int 1, .int 1, .int 1, .int 6, .int 20]) hcs hl (by simp) (by simp)
  have hs : ∃ s, x = .int s ∧ 1 ≤ s ∧ s ≤ 20 := by
    simp only [List.mem_cons, List.not_mem_nil, or_false] at hx
    rcases hx with rfl | rfl | rfl | rfl | rfl | rfl <;> exact ⟨_, rfl, by decide, by decide⟩
  obtain ⟨scale, rfl, sc0, sc1⟩ := hs
  obtain ⟨x, sp2, lf2, dr2, hd2, hx⟩ := q_any (pre := pre) (st := []) (sp := sp1) (lf := lf1) (dr := dr1) (xs := poolsS.map fun p => .list (p.map .str)) hcs hl (by simp [poolsS]) (by simp [poolsS])
  obtain ⟨pool, hpool, rfl⟩ := List.mem_map.mp hx
  obtain ⟨pl4, pnd, pok⟩ := pool_all pool hpool
  -- the names that are picked
  obtain ⟨picked, S3, hpk, hsub, sp3, lf3, dr3, rfl⟩ := mLc_inv (keep := always) (α := Str) (t := .nm 8) (tt := mTb (mCmp .Gt (mCall F__law_draw (msCons (mVar 0) (msCons (mC (.int 4)) msNil))) (mC (.int 0)))) (te := mVar 8) (mi := mIter (mVar 3)) (vs := [8])
    (sl := [some (Rf pre.length), some (.int scale), some (.list ((poolsS.take 3).map fun p => .list (p.map .str))), some (.list (pool.map .str)), none, none, none, none, none, none, none, none, none, none]) (st := pre ++ [fd cs sp2 lf2 dr2]) (Fs pre cs []) pool .str .str (by simp) (fun _ => trivial) (by omega) ⟨sp2, lf2, dr2, rfl⟩ (by
      rintro title _ st ⟨sp, lf, dr, rfl⟩
      obtain ⟨r, sp', lf', dr', hd, r0, r1⟩ := q_draw (pre := pre) (st := []) (sp := sp) (lf := lf) (dr := dr) (m := 4) hcs hl (by decide) (by decide)
      refine ⟨_, decide (0 < r), pre ++ fd cs sp' lf' dr' :: [], rfl, ?_, ⟨sp', lf', dr', rfl⟩, fun _ => ?_⟩
      · simp [wipeD, hd]
      · simp [wipeD])
  obtain ⟨ts, hts, tne, tsub⟩ : ∃ ts : List Str, (if picked ≠ [] then picked else [pool.headD ""]) = ts ∧ ts ≠ [] ∧ ts.Sublist pool := by
    refine ⟨_, rfl, ?_, ?_⟩
    · split
      · assumption
      · simp
    · split
      · exact hsub
      · cases pool with
        | nil => cases pl4
        | cons a l => exact (List.sublist_append_left [a] l : [a].Sublist ([a] ++ l))
  have tnd : ts.Nodup := pnd.sublist tsub
  have t4 : ts.length ≤ 4 := by have := tsub.length_le; omega
  -- hosts and roads
  obtain ⟨sl', st', e, h1, sp4, lf4, dr4, spots, lanes, h2, h3, h4, h5⟩ := forL_invK (keep := always) (tg := tgName 8) (body := l1__law_net) (fg := [8, 9, 10, 11]) (fun k sl st => sl = netZ pre scale (some (.list ((poolsS.take 3).map fun p => .list (p.map .str)))) (some (.list (pool.map .str))) (some (.list (picked.map .str))) ts none none none ∧
      ∃ sp lf dr spots lanes, st = pre ++ fd cs sp lf dr :: nS spots lanes ∧ spots.map (·.n) = ts.take k ∧ (∀ h ∈ spots, HostD h) ∧ RoadsD ts k lanes) (fun _ => trivial)
    (ds := ts.map .str) (k := 0) (sl := netZ pre scale (some (.list ((poolsS.take 3).map fun p => .list (p.map .str)))) (some (.list (pool.map .str))) (some (.list (picked.map .str))) ts none none none) (st := pre ++ fd cs sp3 lf3 dr3 :: nS [] [])
    ⟨rfl, sp3, lf3, dr3, [], [], rfl, rfl, by simp, ⟨by simp, by simp, Nat.le_refl _⟩⟩ (by
      rintro k d sl st hd ⟨rfl, sp, lf, dr, spots, lanes, rfl, n1, n2, n3⟩
      rw [Nat.zero_add] at *
      rw [List.getElem?_map] at hd
      obtain ⟨title, ht, rfl⟩ := Option.map_eq_some_iff.mp hd
      have sl : spots.length ≤ 4 := by
        have := congrArg List.length n1
        rw [List.length_map, List.length_take] at this
        omega
      obtain ⟨sl', h, lanes', sp', lf', dr', q1, q2, q3, q4, q5⟩ := q_host (pre := pre) (spots := spots) hcs hl ⟨sc0, sc1⟩ (some (.list ((poolsS.take 3).map fun p => .list (p.map .str)))) (some (.list (pool.map .str))) (some (.list (picked.map .str))) ts tnd t4 ht n3 (by omega) sp lf dr
      refine ⟨sl', _, q1, q2, sp', lf', dr', spots ++ [h], lanes', rfl, ?_, fun x hx => ?_, q5⟩
      · rw [List.map_append, n1, List.take_add_one, ht, ← q4]; rfl
      · rcases List.mem_append.mp hx with hx | hx
        · exact n2 x hx
        · have : x = h := by simpa using hx
          subst this; exact q3)
  subst h1; subst h2
  rw [Nat.zero_add, List.length_map, List.take_length] at h3
  rw [Nat.zero_add, List.length_map] at h5
  -- most and rule
  obtain ⟨x, sp5, lf5, dr5, hd5, hx⟩ := q_any (pre := pre) (st := nS spots lanes) (sp := sp4) (lf := lf4) (dr := dr4) (xs := [.none, .int 0, .int 1, .int 1, .int 2, .int 3, .int 5, .int 2000]) hcs hl (by simp) (by simp)
  have hm : ∃ m : Option Int, x = dOpt m ∧ ∀ k, m = some k → 0 ≤ k ∧ k ≤ 2000 := by
    simp only [List.mem_cons, List.not_mem_nil, or_false] at hx
    rcases hx with rfl | rfl | rfl | rfl | rfl | rfl | rfl | rfl
    · exact ⟨none, rfl, fun k h => by cases h⟩
    all_goals exact ⟨some _, rfl, fun k h => by cases h; decide⟩
  obtain ⟨m, rfl, hmb⟩ := hm
  obtain ⟨x, sp6, lf6, dr6, hd6, hx⟩ := q_any (pre := pre) (st := nS spots lanes) (sp := sp5) (lf := lf5) (dr := dr5) (xs := [.str "more", .str "more", .str "wait"]) hcs hl (by simp) (by simp)
  have hru : ∃ r : Str, x = .str r ∧ (r = "more" ∨ r = "wait") := by
    simp only [List.mem_cons, List.not_mem_nil, or_false] at hx
    rcases hx with rfl | rfl | rfl
    · exact ⟨_, rfl, .inl rfl⟩
    · exact ⟨_, rfl, .inl rfl⟩
    · exact ⟨_, rfl, .inr rfl⟩
  obtain ⟨rule, rfl, hrule⟩ := hru
  obtain ⟨spZ, lfZ, drZ, rl, hrl⟩ : ∃ spZ lfZ drZ, ∃ rl : Str, ∀ sl : Sl, sl[0]? = some (some (Rf pre.length)) → sl[12]? = some (some (dOpt m)) → mIf (mTb (mIsN (mVar 12))) (mC (.str "wait")) (mCall F__law_any (msCons (mVar 0) (msCons (mLst (msCons (mC (.str "more")) (msCons (mC (.str "more")) (msCons (mC (.str "wait")) msNil)))) msNil))) sl (pre ++ fd cs sp5 lf5 dr5 :: nS spots lanes) = .ok (.str rl) (pre ++ fd cs spZ lfZ drZ :: nS spots lanes) ∧ (rl = "more" ∨ rl = "wait") ∧ (m = none → rl = "wait") := by
    cases m with
    | none => exact ⟨sp5, lf5, dr5, "wait", fun sl h0 h12 => ⟨by simp [h12, dOpt], .inr rfl, fun _ => rfl⟩⟩
    | some k => exact ⟨sp6, lf6, dr6, rule, fun sl h0 h12 => ⟨by simp [h0, h12, dOpt, mkLst, sz_le, hd6], hrule, fun h => by cases h⟩⟩
  have hND : NetD ⟨spots, lanes, m, rl⟩ := by
    have hz := hrl [some (Rf pre.length), none, none, none, none, none, none, none, none, none, none, none, some (dOpt m)] rfl rfl
    refine ⟨⟨pool, ⟨by have := (pool_all pool hpool).1; omega, (pool_all pool hpool).2.1, fun x hx => ⟨((pool_all pool hpool).2.2 x hx).1, Nat.le_trans ((pool_all pool hpool).2.2 x hx).2 (by decide)⟩⟩, by show (spots.map (·.n)).Sublist pool; rw [h3]; exact tsub⟩, fun hh => ?_, h4, ?_, hmb, hz.2.1, hz.2.2⟩
    · have hh' : spots = [] := hh
      rw [hh'] at h3
      exact tne h3.symm
    · show RoadsD (spots.map (·.n)) spots.length lanes
      rw [h3, show spots.length = ts.length by have := congrArg List.length h3; rwa [List.length_map] at this]
      exact h5
  refine ⟨⟨spots, lanes, m, rl⟩, spZ, lfZ, drZ, ?_, hND⟩
  · have layP : ∀ {l : List Str}, l.Sublist pool → PyData.canLayAll0 (l.map PyData.str) = true := fun {l} hs => (layAll_iff _).mpr fun d hd => by
      obtain ⟨x, hx, rfl⟩ := List.mem_map.mp hd
      exact (pok x (hs.subset hx)).1
    have hif : ∀ (sl : Sl) (st : Sto), sl[3]? = some (some (.list (pool.map .str))) → sl[4]? = some (some (.list (picked.map .str))) → mIf (mTb (mCmp .NotEq (mVar 4) (mLst msNil))) (mVar 4) (mLst (msCons (mIx (mVar 3) (mC (.int 0))) msNil)) sl st = .ok (.list (ts.map .str)) st := by
      intro sl st h3 h4
      have c := cmp_ne_nilL (layP hsub)
      cases picked with
      | nil =>
        rw [if_neg (by simp)] at hts
        have i0 : fIx (.list (pool.map .str)) (.int 0) st = .ok (.str (pool.headD "")) st := by
          cases pool with
          | nil => cases pl4
          | cons a l => exact ix_l (j := 0) rfl
        simp [h3, h4, mkLst, sz_le, i0, ← hts]
      | cons a l =>
        rw [if_pos (by simp)] at hts
        have c' : dCmp .NotEq (.list (.str a :: l.map .str)) (.list []) = some (.bool true) := c
        simp [h3, h4, mkLst, sz_le, c', ← hts]
    have tu0 : ∀ fm, fTuple (Rf (pre.length + 1)) (pre ++ fm :: nS spots lanes) = .ok (.tuple (spots.map dHost)) (pre ++ fm :: nS spots lanes) := fun fm => by
      show onD1 dTuple _ _ = _
      rw [on1, nS_de0]; rfl
    have tu1 : ∀ fm, fTuple (Rf (pre.length + 2)) (pre ++ fm :: nS spots lanes) = .ok (.tuple (lanes.map dRoad)) (pre ++ fm :: nS spots lanes) := fun fm => by
      show onD1 dTuple _ _ = _
      rw [on1, nS_de1]; rfl
    have lst0 : ∀ fm, mkLstM [] (pre ++ [fm]) = .ok (Rf (pre.length + 1)) (pre ++ [fm, .lst []]) := fun fm => by
      unfold mkLstM
      rw [if_pos (show ([] : List Pv.D).length ≤ sizeLine from Nat.zero_le _)]
      simp
    have lst1 : ∀ fm, mkLstM [] (pre ++ [fm, .lst []]) = .ok (Rf (pre.length + 2)) (pre ++ fm :: nS [] []) := fun fm => by
      unfold mkLstM
      rw [if_pos (show ([] : List Pv.D).length ≤ sizeLine from Nat.zero_le _)]
      simp [nS]
    have hz := fun sl h0 h12 => (hrl sl h0 h12).1
    unfold netZ at e
    have hd2' := hd2
    have hpk' := hpk
    simp only [poolsS, List.take, List.map_cons, List.map_nil] at hd2' hpk' e
    have hd5' := hd5
    have fin := fin_app (st := pre ++ [fd cs spZ lfZ drZ]) (more := nS spots lanes) (d := dNet ⟨spots, lanes, m, rl⟩) (by
      intro g
      exact fzS_app (hp g) (fd_ok hcs)) ?_
    · rw [List.append_assoc] at fin
      unfold F__law_net b__law_net
      rw [fnP_e]
      simp -implicitDefEqProofs [-e_if, startD, hd1, mkLst, sz_le, add_ll, dAdd, hd2', hpk', set3, lst0, lst1, hif, wipeD, e, hd5', hz, tu0, tu1, mkTup]
      rw [show (pre ++ [fd cs spZ lfZ drZ]).length = pre.length + 1 by simp] at fin
      exact fin
    · exact hND.sized.lay
end
section
variable {st : Sto} {n : Net}
theorem q_lstamp (ks : List Stamp) (hk : ks.length ≤ 900) (rd : Int) : F__law_stamp [dNet n, .list (ks.map dStamp), .int rd] st = .ok (dStampO (nstK n ks rd)) st := by
  unfold F__law_stamp b__law_stamp nstK
  rw [fnP_e]
  dsimp only
  have n2 : ∀ st, fIx (dNet n) (.int 2) st = .ok (dOpt n.most) st := fun _ => rfl
  have n3 : ∀ st, fIx (dNet n) (.int 3) st = .ok (.str n.rule) st := fun _ => rfl
  have k2 : ∀ s3 s4 s5 : Option Pv.D, mLc (mIter (mVar 1)) (.nm 6) tYesM (mIx (mVar 6) (mC (.int 0))) [6] [some (dNet n), some (.list (ks.map dStamp)), some (.int rd), s3, s4, s5, none] st = .ok (.list (ks.map fun s => .int s.1)) st := by
    intro s3 s4 s5
    exact mLc_at (keep := always) ks dStamp _ (by simp) trivial (by omega) fun s _ => ⟨_, rfl, by simp [wipeD, dStamp]⟩
  have k3 : ∀ (m : Int) (s3 s5 : Option Pv.D), mLc (mIter (mVar 1)) (.nm 6) (mTb (mCmp .Eq (mIx (mVar 6) (mC (.int 0))) (mVar 4))) (mIx (mVar 6) (mC (.int 1))) [6] [some (dNet n), some (.list (ks.map dStamp)), some (.int rd), s3, some (.int m), s5, none] st = .ok (.list ((ks.filter fun s => decide (s.1 = m)).map fun s => .int s.2)) st := by
    intro m s3 s5
    exact mLc_if (keep := always) ks dStamp _ _ (by simp) trivial (by omega) fun s _ => ⟨_, rfl, by simp [wipeD, dStamp], fun _ => by simp [wipeD, dStamp]⟩
  have lay : PyData.canLayAll0 (ks.map fun s => PyData.int s.1) = true := (layAll_iff _).mpr fun d hd => by obtain ⟨s, _, rfl⟩ := List.mem_map.mp hd; rfl
  have c0 := cmp_eq_nilL lay
  cases hm : maxI (ks.map (·.1)) with
  | none =>
    have hnil : ks = [] := by
      cases ks with
      | nil => rfl
      | cons a l => cases hm
    subst hnil
    have h1 : mark [] rd < rd := by unfold mark; simp [maxI]; omega
    rw [if_pos h1]
    simp -implicitDefEqProofs only [List.map_nil, List.isEmpty_nil] at k2 c0
    simp -implicitDefEqProofs [startD, k2, c0, mkLst, sz_le, mkTup, dSO]
  | some m =>
    have hne : (ks.map fun s => PyData.int s.1).isEmpty = false := by
      cases ks with
      | nil => cases hm
      | cons a l => rfl
    rw [hne] at c0
    have mk : mark ks rd = m := by unfold mark; rw [hm]; rfl
    have mx : dMax1 (.list (ks.map fun s => PyData.int s.1)) = some (.int m) := by
      show (intsOfD _).bind _ = _
      rw [ints_stD ks (·.1)]
      simp only [Option.bind_some, hm]; rfl
    rw [mk]
    by_cases h1 : m < rd
    · rw [if_pos h1]
      simp -implicitDefEqProofs [startD, k2, c0, mkLst, sz_le, mkTup, dSO, mx, h1]
    · rw [if_neg h1]
      have hne2 : ∃ c, maxI ((ks.filter fun s => decide (s.1 = m)).map (·.2)) = some c := by
        obtain ⟨s, hs, e2⟩ := List.mem_map.mp (maxI_some hm)
        have : s ∈ ks.filter fun s => decide (s.1 = m) := List.mem_filter.mpr ⟨hs, by rw [← e2]; simp⟩
        cases hf : ks.filter fun s => decide (s.1 = m) with
        | nil => rw [hf] at this; cases this
        | cons y l => exact ⟨_, rfl⟩
      obtain ⟨c, hc⟩ := hne2
      have kx : dMax1 (.list ((ks.filter fun s => decide (s.1 = m)).map fun s => .int s.2)) = some (.int c) := by
        show (intsOfD _).bind _ = _
        rw [ints_stD _ (·.2)]
        simp only [Option.bind_some, hc]; rfl
      rw [hc]
      cases hmost : n.most with
      | none => simp -implicitDefEqProofs [startD, k2, c0, mkLst, sz_le, mkTup, dSO, mx, h1, k3, kx, n2, hmost, dOpt]
      | some k =>
        by_cases h2 : 1 + c ≤ k
        · simp -implicitDefEqProofs [startD, k2, c0, mkLst, sz_le, mkTup, dSO, mx, h1, k3, kx, n2, hmost, dOpt, h2]
        · by_cases h3 : n.rule = "more"
          · simp -implicitDefEqProofs [startD, k2, c0, mkLst, sz_le, mkTup, dSO, mx, h1, k3, kx, n2, n3, hmost, dOpt, h2, h3]
          · simp -implicitDefEqProofs [startD, k2, c0, mkLst, sz_le, mkTup, dSO, dSN, mx, h1, k3, kx, n2, n3, hmost, dOpt, h2, h3]
end
section
variable {st : Sto} {n : Net}
theorem lrun_at {es : List Ev} {j : Nat} (hj : j < es.length) (st : Sto) : fIx (.tuple (es.map dEv)) (.int (j : Int)) st = .ok (dEv es[j]) st := ix_t (by rw [List.getElem?_map, List.getElem?_eq_getElem hj]; rfl)
theorem lev_0 (e : Ev) (st : Sto) : fIx (dEv e) (.int 0) st = .ok (.str e.h) st := rfl
theorem lev_1 (e : Ev) (st : Sto) : fIx (dEv e) (.int 1) st = .ok (.int e.t) st := rfl
theorem lev_2 (e : Ev) (st : Sto) : fIx (dEv e) (.int 2) st = .ok (.int e.r) st := rfl
theorem lev_3 (e : Ev) (st : Sto) : fIx (dEv e) (.int 3) st = .ok (dLet e.l) st := rfl
theorem q_lbefore {es : List Ev} (hl : es.length ≤ 1000) {k : Nat} (hk : k < es.length) : F__law_before [.tuple (es.map dEv), .int (k : Int)] st = .ok (dLet (lastBy es k)) st := by
  unfold F__law_before b__law_before
  rw [fnP_e]
  have lc : ∀ s2 : Option Pv.D, mLc (mRng1 (mVar 1)) (.nm 3) (mTb (mCmp .Eq (mIx (mIx (mVar 0) (mVar 3)) (mC (.int 0))) (mIx (mIx (mVar 0) (mVar 1)) (mC (.int 0))))) (mVar 3) [3] [some (.tuple (es.map dEv)), some (.int (k : Int)), s2, none] st = .ok (.list (((List.range k).filter fun j => sameH es j k).map fun (j : Nat) => PyData.int (j : Int))) st := by
    intro s2
    refine mLc_if (keep := always) (List.range k) (fun (j : Nat) => PyData.int (j : Int)) _ _ (rng1_at (by simp) (by omega)) trivial (by rw [List.length_range]; omega) fun j hj => ?_
    have hj' : j < k := List.mem_range.mp hj
    have e1 : es[j]? = some es[j] := List.getElem?_eq_getElem (by omega)
    have e2 : es[k]? = some es[k] := List.getElem?_eq_getElem hk
    exact ⟨_, rfl, by simp [wipeD, lrun_at (show j < es.length by omega), lrun_at hk, lev_0, sameH, e1, e2], fun _ => by simp [wipeD]⟩
  have c0 := cmp_ne_nilL (ints_layD ((List.range k).filter fun j => sameH es j k))
  cases hg : ((List.range k).filter fun j => sameH es j k).getLast? with
  | none =>
    have hn := List.getLast?_eq_none_iff.mp hg
    rw [hn] at lc
    simp -implicitDefEqProofs [startD, lc, lastBy, hn, dLet, mkLst, sz_le]
  | some j =>
    have hne : ((List.range k).filter fun j => sameH es j k) ≠ [] := fun z => by rw [z] at hg; cases hg
    have hE : (((List.range k).filter fun j => sameH es j k).map fun (j : Nat) => PyData.int (j : Int)).isEmpty = false := by
      cases hq : (List.range k).filter fun j => sameH es j k with
      | nil => exact absurd hq hne
      | cons a l => rfl
    rw [hE] at c0
    have il := fun st => ix_lastL (ds := ((List.range k).filter fun j => sameH es j k).map fun (j : Nat) => PyData.int (j : Int)) (st := st) (d := .int (j : Int)) (by rw [List.getLast?_map, hg]; rfl)
    simp -implicitDefEqProofs [startD, lc, lastBy, hg, dLet, dNeg, il, c0, mkLst, sz_le]
theorem q_lsteps {es : List Ev} (hl : es.length ≤ 1000) {k : Nat} (hk : k < es.length) : F__law_steps [.tuple (es.map dEv), .int (k : Int)] st = .ok (.list ((causes es k).map fun (j : Nat) => PyData.int (j : Int))) st := by
  unfold F__law_steps b__law_steps
  rw [fnP_e]
  have e2 : es[k]? = some es[k] := List.getElem?_eq_getElem hk
  have lc := mLc_if (keep := always) (st := st) (mi := mIter (mTup (msCons (mCall F__law_before (msCons (mVar 0) (msCons (mVar 1) msNil))) (msCons (mIx (mIx (mVar 0) (mVar 1)) (mC (.int 3))) msNil)))) (t := .nm 2) (tt := mTb (mNotN (mVar 2))) (te := mVar 2) (vs := [2]) (sl := [some (.tuple (es.map dEv)), some (.int (k : Int)), none]) [dLet (lastBy es k), dLet es[k].l] id id (fun d => !isNone d)
    (by simp -implicitDefEqProofs [q_lbefore hl hk, lrun_at hk, lev_3, mkTup, sz_le]) trivial (by simp) fun x hx => ⟨_, rfl, by simp -implicitDefEqProofs [wipeD], fun _ => by simp -implicitDefEqProofs [wipeD]⟩
  simp -implicitDefEqProofs [startD, lc]
  have ec : causes es k = (lastBy es k).toList ++ es[k].l.toList := by unfold causes; rw [e2]
  rw [ec]
  generalize lastBy es k = a
  generalize es[k].l = b
  cases a <;> cases b <;> rfl
/-- the letters that can come -/
theorem q_lletters (hs : StC st) (hn : NetOk n) {es : List Ev} (hl : es.length ≤ 900) (title : Str) (tick : Int) : F__law_letters [dNet n, .tuple (es.map dEv), .str title, .int tick] st = .ok (.list ((lettersOf n es title tick).map fun (j : Nat) => PyData.int (j : Int))) st := by
  unfold F__law_letters b__law_letters
  rw [fnP_e]
  have i1 : ∀ st, fIx (dNet n) (.int 1) st = .ok (.tuple (n.roads.map dRoad)) st := fun _ => rfl
  let p : Nat → Bool := fun j => match es[j]? with
    | some p => (match firstLeast n p.h title with | some k => decide (k ≤ tick - p.t) | none => false)
    | none => false
  obtain ⟨sl', st', e, h1, h2⟩ := forL_invK (keep := always) (tg := tgName 5) (body := l0__law_letters) (fg := [5, 6]) (fun k sl s => sl = [some (dNet n), some (.tuple (es.map dEv)), some (.str title), some (.int tick), some (Rf st.length), none, none, none] ∧ s = st ++ [.lst (((List.range k).filter p).map fun (j : Nat) => PyData.int (j : Int))]) (fun _ => trivial)
    (ds := (List.range es.length).map fun (j : Nat) => PyData.int (j : Int)) (k := 0) (sl := [some (dNet n), some (.tuple (es.map dEv)), some (.str title), some (.int tick), some (Rf st.length), none, none, none]) (st := st ++ [.lst []]) ⟨rfl, rfl⟩ (by
      rintro k d sl s hd ⟨rfl, rfl⟩
      rw [Nat.zero_add] at *
      rw [List.getElem?_map] at hd
      obtain ⟨j, hj, rfl⟩ := Option.map_eq_some_iff.mp hd
      have hkl := (List.getElem?_eq_some_iff.mp hj).1
      rw [List.length_range] at hkl
      rw [List.getElem?_range hkl] at hj
      cases hj
      have e1 : es[k]? = some es[k] := List.getElem?_eq_getElem hkl
      have lc : ∀ s : Sto, mLc (mIter (mIx (mVar 0) (mC (.int 1)))) (.nm 7) (mAndT (mTb (mCmp .Eq (mIx (mVar 7) (mC (.int 0))) (mIx (mIx (mVar 1) (mVar 5)) (mC (.int 0))))) (mTb (mCmp .Eq (mIx (mVar 7) (mC (.int 1))) (mVar 2)))) (mIx (mVar 7) (mC (.int 2))) [7] [some (dNet n), some (.tuple (es.map dEv)), some (.str title), some (.int tick), some (Rf st.length), some (.int (k : Int)), none, none] s =
          .ok (.list ((n.roads.filter fun x => x.1 == es[k].h && x.2.1 == title).map fun x => .int x.2.2)) s := by
        intro s
        refine mLc_if (keep := always) n.roads dRoad _ _ (by simp [i1]) trivial hn.rl fun x hx => ⟨_, rfl, ?_, fun _ => ?_⟩
        · cases hq : x.1 == es[k].h with
          | true => simp -implicitDefEqProofs [wipeD, dRoad, lrun_at hkl, lev_0, hq]
          | false => simp -implicitDefEqProofs [wipeD, dRoad, lrun_at hkl, lev_0, hq]
        · simp [wipeD, dRoad]
      have lay : PyData.canLayAll0 ((n.roads.filter fun x => x.1 == es[k].h && x.2.1 == title).map fun x => PyData.int x.2.2) = true := (layAll_iff _).mpr fun d hd => by obtain ⟨x, _, rfl⟩ := List.mem_map.mp hd; rfl
      have c0 := cmp_ne_nilL lay
      have hp : p k = (match (n.roads.filter fun x => x.1 == es[k].h && x.2.1 == title) with | [] => false | x :: _ => decide (x.2.2 ≤ tick - es[k].t)) := by
        show (match es[k]? with | some p => (match firstLeast n p.h title with | some k => decide (k ≤ tick - p.t) | none => false) | none => false) = _
        rw [e1]
        simp only
        unfold firstLeast
        rw [← List.head?_filter]
        cases n.roads.filter fun x => x.1 == es[k].h && x.2.1 == title with
        | nil => rfl
        | cons x l => rfl
      have hr : (List.range (k + 1)).filter p = (List.range k).filter p ++ (if p k = true then [k] else []) := by
        rw [List.range_succ, List.filter_append]
        congr 1
        by_cases h : p k = true
        · rw [if_pos h]; simp [h]
        · rw [if_neg h]; simp [h]
      cases hf : n.roads.filter fun x => x.1 == es[k].h && x.2.1 == title with
      | nil =>
        rw [hf] at lc c0 hp
        refine ⟨[some (dNet n), some (.tuple (es.map dEv)), some (.str title), some (.int tick), some (Rf st.length), some (.int (k : Int)), some (.list []), none], st ++ [.lst (((List.range k).filter p).map fun (j : Nat) => PyData.int (j : Int))], ?_, rfl, ?_⟩
        · unfold l0__law_letters
          simp -implicitDefEqProofs [lc, mkLst, sz_le]
        · rw [hr, if_neg (by rw [hp]; exact Bool.false_ne_true), List.append_nil]
      | cons x l =>
        rw [hf] at lc c0 hp
        have c1 : dCmp .NotEq (.list (.int x.2.2 :: l.map fun x => PyData.int x.2.2)) (.list []) = some (.bool true) := c0
        have i0 : ∀ (s : Sto), fIx (.list (.int x.2.2 :: l.map fun x => PyData.int x.2.2)) (.int 0) s = .ok (.int x.2.2) s := fun s => ix_l (j := 0) rfl
        by_cases hc : x.2.2 ≤ tick - es[k].t
        · have ap := app_last st (((List.range k).filter p).map fun (j : Nat) => PyData.int (j : Int)) (.int (k : Int)) (by rw [List.length_map]; have := List.length_filter_le p (List.range k); rw [List.length_range] at this; omega)
          refine ⟨[some (dNet n), some (.tuple (es.map dEv)), some (.str title), some (.int tick), some (Rf st.length), some (.int (k : Int)), some (.list (.int x.2.2 :: l.map fun x => PyData.int x.2.2)), none], st ++ [.lst ((((List.range k).filter p).map fun (j : Nat) => PyData.int (j : Int)) ++ [.int (k : Int)])], ?_, rfl, ?_⟩
          · unfold l0__law_letters
            simp -implicitDefEqProofs [lc, mkLst, sz_le, c1, i0, lrun_at hkl, lev_1, dInt2, hc, isLst_last, ap]
          · rw [hr, if_pos (by rw [hp]; simp [hc])]; simp
        · refine ⟨[some (dNet n), some (.tuple (es.map dEv)), some (.str title), some (.int tick), some (Rf st.length), some (.int (k : Int)), some (.list (.int x.2.2 :: l.map fun x => PyData.int x.2.2)), none], st ++ [.lst (((List.range k).filter p).map fun (j : Nat) => PyData.int (j : Int))], ?_, rfl, ?_⟩
          · unfold l0__law_letters
            simp -implicitDefEqProofs [lc, mkLst, sz_le, c1, i0, lrun_at hkl, lev_1, dInt2, hc]
          · rw [hr, if_neg (by rw [hp]; simp [hc]), List.append_nil])
  subst h1; subst h2
  rw [Nat.zero_add, List.length_map, List.length_range] at e
  have ml : ∀ st, mkLstM [] st = .ok (Rf st.length) (st ++ [.lst []]) := fun st => by unfold mkLstM; rw [if_pos (show ([] : List Pv.D).length ≤ sizeLine from Nat.zero_le _)]
  have rg : mRng1 (mLen (mVar 1)) [some (dNet n), some (.tuple (es.map dEv)), some (.str title), some (.int tick), some (Rf st.length), none, none, none] (st ++ [.lst []]) = .ok ⟨(List.range es.length).map fun (j : Nat) => PyData.int (j : Int), always⟩ (st ++ [.lst []]) := rng1_at (by simp) (by omega)
  simp -implicitDefEqProofs [startD, ml, wipeD]
  rw [rg]
  simp -implicitDefEqProofs only [th_ok]
  rw [e]
  simp -implicitDefEqProofs
  exact fin_list hs (Nat.le_refl _) (by rw [List.getElem?_append_right (Nat.le_refl _)]; simp; rfl) (ints_layD _)
end
section
variable {cs : List Pv.D} {pre : Sto} {n : Net}
def lotZ (pre : Sto) (n : Net) (a2 : Option Pv.D) (tick : Int) (run : List Ev) : Sl := [some (Rf pre.length), some (dNet n), a2, some (.int tick), some (.tuple (run.map dEv)), some (Rf (pre.length + 1)), none, none, none, none, none, none, none, none, none, none, none, none, none, none, none]
theorem q_lap (hcs : IntsD cs) (hl : cs.length ≤ 63) (hp : StC pre) (hN : NetD n) (a2 : Option Pv.D) (lap : Pv.D) {tick : Int} {run : List Ev} {ss : List Stamp} {k : Nat} (hI : LotI n run ss tick k) (hk : k ≤ 800) (sp lf dr : Int) :
    ∃ sl' sp' lf' dr' run' ss' d, (tgName 6 lap (lotZ pre n a2 tick run) (pre ++ fd cs sp lf dr :: [.lst (ss.map dStamp)])).thenS l0__law_lot = .nx sl' (pre ++ fd cs sp' lf' dr' :: [.lst (ss'.map dStamp)]) ∧
      wipeD sl' [6, 7, 8, 9, 10, 11, 12, 13, 14, 15, 16, 17, 18] = lotZ pre n a2 (tick + d) run' ∧ LotI n run' ss' (tick + d) (k + 1) := by
  have rl := hI.len
  have slen := stp_len hI.st
  obtain ⟨r1, sp1, lf1, dr1, hd1, r10, r11⟩ := q_draw (pre := pre) (st := [.lst (ss.map dStamp)]) (sp := sp) (lf := lf) (dr := dr) (m := 9) hcs hl (by decide) (by decide)
  obtain ⟨x2, sp2, lf2, dr2, hd2, hx2⟩ := q_any (pre := pre) (st := [.lst (ss.map dStamp)]) (sp := sp1) (lf := lf1) (dr := dr1) (xs := [.int 0, .int 0, .int 0, .int 0, .int 1, .int 1, .int 2, .int r1]) hcs hl (by simp) (by simp)
  have hx2' : ∃ d, x2 = .int d ∧ 0 ≤ d ∧ d ≤ 8 := by
    simp only [List.mem_cons, List.not_mem_nil, or_false] at hx2
    rcases hx2 with rfl | rfl | rfl | rfl | rfl | rfl | rfl | rfl
    all_goals exact ⟨_, rfl, by omega, by omega⟩
  obtain ⟨d, rfl, d0, d8⟩ := hx2'
  obtain ⟨x3, sp3, lf3, dr3, hd3, hx3⟩ := q_anyT (pre := pre) (st := [.lst (ss.map dStamp)]) (sp := sp2) (lf := lf2) (dr := dr2) (xs := n.hosts.map dHost) hcs hl (by simp [hN.ne]) (by rw [List.length_map]; have := hN.names.2.1; omega)
  obtain ⟨x, hx, rfl⟩ := List.mem_map.mp hx3
  have hd := hN.hosts x hx
  have bs0 := hd.s0; have bs1 := hd.s1; have bf0 := hd.f0; have bf1 := hd.f1
  obtain ⟨r4, sp4, lf4, dr4, hd4, r40, r41⟩ := q_draw (pre := pre) (st := [.lst (ss.map dStamp)]) (sp := sp3) (lf := lf3) (dr := dr3) (m := x.s + x.f + 1) hcs hl (by omega) (by omega)
  obtain ⟨x5, sp5, lf5, dr5, hd5, hx5⟩ := q_any (pre := pre) (st := [.lst (ss.map dStamp)]) (sp := sp4) (lf := lf4) (dr := dr4) (xs := [.int (-x.s), .int (-x.s), .int x.f, .int (r4 - x.s)]) hcs hl (by simp) (by simp)
  have hx5' : ∃ v, x5 = .int v ∧ -x.s ≤ v ∧ v ≤ x.f := by
    simp only [List.mem_cons, List.not_mem_nil, or_false] at hx5
    rcases hx5 with rfl | rfl | rfl | rfl
    all_goals exact ⟨_, rfl, by omega, by omega⟩
  obtain ⟨v, rfl, v0, v1⟩ := hx5'
  have hS : ∀ sp lf dr, StC (pre ++ fd cs sp lf dr :: [.lst (ss.map dStamp)]) := fun sp lf dr => by
    have h1 : StC (pre ++ [fd cs sp lf dr]) := fun g => fzS_app (hp g) (fd_ok hcs)
    have h2 := h1.lst (ds := ss.map dStamp) ((layAll_iff _).mpr fun d hd => by obtain ⟨s, _, rfl⟩ := List.mem_map.mp hd; rfl)
    rwa [List.append_assoc] at h2
  have ql := q_lletters (n := n) (hS sp5 lf5 dr5) hN.ok (es := run) (by omega) x.n (tick + d)
  obtain ⟨letter, sp7, lf7, dr7, hlet, hif⟩ : ∃ (letter : Option Nat) (sp7 lf7 dr7 : Int), (∀ l, letter = some l → l ∈ lettersOf n run x.n (tick + d)) ∧ ∀ sl : Sl, sl[0]? = some (some (Rf pre.length)) → sl[13]? = some (some (.list ((lettersOf n run x.n (tick + d)).map fun (j : Nat) => PyData.int (j : Int)))) → sl[14]? = some (some .none) →
      sIf (mTb (mCmp .NotEq (mVar 13) (mLst (msNil)))) (sAsg (mCall F__law_any (msCons (mVar 0) (msCons (mLst (msCons (mC .none) (msCons (mIx (mVar 13) (mNeg (mC (.int 1)))) (msCons (mIx (mVar 13) (mNeg (mC (.int 1)))) (msCons (mCall F__law_any (msCons (mVar 0) (msCons (mVar 13) (msNil)))) (msNil)))))) (msNil)))) (tgName 14)) (sNil) sl (pre ++ fd cs sp5 lf5 dr5 :: [.lst (ss.map dStamp)]) =
        .nx (sl.set 14 (some (dLet letter))) (pre ++ fd cs sp7 lf7 dr7 :: [.lst (ss.map dStamp)]) := by
    have c0 := cmp_ne_nilL (ints_layD (lettersOf n run x.n (tick + d)))
    have flen : (lettersOf n run x.n (tick + d)).length ≤ 900 := by
      unfold lettersOf
      refine Nat.le_trans (List.length_filter_le _ _) ?_
      rw [List.length_range]; omega
    cases hg : (lettersOf n run x.n (tick + d)).getLast? with
    | none =>
      have hnil := List.getLast?_eq_none_iff.mp hg
      refine ⟨none, sp5, lf5, dr5, fun l h => (by cases h), fun sl h0 h13 h14 => ?_⟩
      rw [hnil] at h13
      have hset : sl.set 14 (some (dLet none)) = sl := by
        obtain ⟨hi, he⟩ := List.getElem?_eq_some_iff.mp h14
        rw [show dLet none = PyData.none from rfl, ← he, List.set_getElem_self]
      rw [hset]
      simp -implicitDefEqProofs [h13, mkLst, sz_le]
    | some last =>
      have hne : lettersOf n run x.n (tick + d) ≠ [] := fun z => by rw [z] at hg; cases hg
      have hE : ((lettersOf n run x.n (tick + d)).map fun (j : Nat) => PyData.int (j : Int)).isEmpty = false := by
        cases hq : lettersOf n run x.n (tick + d) with
        | nil => exact absurd hq hne
        | cons a l => rfl
      rw [hE] at c0
      have il := fun st => ix_lastL (ds := (lettersOf n run x.n (tick + d)).map fun (j : Nat) => PyData.int (j : Int)) (st := st) (d := .int (last : Int)) (by rw [List.getLast?_map, hg]; rfl)
      obtain ⟨x6, sp6, lf6, dr6, hd6, hx6⟩ := q_any (pre := pre) (st := [.lst (ss.map dStamp)]) (sp := sp5) (lf := lf5) (dr := dr5) (xs := (lettersOf n run x.n (tick + d)).map fun (j : Nat) => PyData.int (j : Int)) hcs hl (by simp [hne]) (by rw [List.length_map]; omega)
      obtain ⟨l6, hl6, rfl⟩ := List.mem_map.mp hx6
      obtain ⟨x7, sp7, lf7, dr7, hd7, hx7⟩ := q_any (pre := pre) (st := [.lst (ss.map dStamp)]) (sp := sp6) (lf := lf6) (dr := dr6) (xs := [.none, .int (last : Int), .int (last : Int), .int (l6 : Int)]) hcs hl (by simp) (by simp)
      have hx7' : ∃ letter, x7 = dLet letter ∧ ∀ l, letter = some l → l ∈ lettersOf n run x.n (tick + d) := by
        simp only [List.mem_cons, List.not_mem_nil, or_false] at hx7
        rcases hx7 with rfl | rfl | rfl | rfl
        · exact ⟨none, rfl, fun l h => by cases h⟩
        · exact ⟨some last, rfl, fun l h => by cases h; exact List.mem_of_getLast? hg⟩
        · exact ⟨some last, rfl, fun l h => by cases h; exact List.mem_of_getLast? hg⟩
        · exact ⟨some l6, rfl, fun l h => by cases h; exact hl6⟩
      obtain ⟨letter, rfl, hlet⟩ := hx7'
      refine ⟨letter, sp7, lf7, dr7, hlet, fun sl h0 h13 h14 => ?_⟩
      simp -implicitDefEqProofs [h0, h13, mkLst, sz_le, c0, il, dNeg, hd6, hd7]
  let e : Ev := ⟨x.n, tick + d, tick + d + v, letter⟩
  have hltl : ∀ l, letter = some l → l < run.length := fun l h => (letters_pl hN.roads.nd (e := e) (hlet l h)).1
  have hcl := causes_lt (run := run) (e := e) hltl
  have q_st := q_lsteps (st := pre ++ fd cs sp7 lf7 dr7 :: [.lst (ss.map dStamp)]) (es := run ++ [e]) (by simp; omega) (k := run.length) (by simp)
  rw [List.map_append] at q_st
  have q_st' : F__law_steps [.tuple (run.map dEv ++ [.tuple [.str x.n, .int (tick + d), .int (tick + d + v), dLet letter]]), .int (run.length : Int)] (pre ++ fd cs sp7 lf7 dr7 :: [.lst (ss.map dStamp)]) = _ := q_st
  obtain ⟨ks, hks⟩ : ∃ ks, ks = (causes (run ++ [e]) run.length).map fun j => ss.getD j (0, 0) := ⟨_, rfl⟩
  have q_sm := q_lstamp (n := n) (st := pre ++ fd cs sp7 lf7 dr7 :: [.lst (ss.map dStamp)]) ks (by rw [hks, List.length_map]; have := causes_two (run ++ [e]) run.length; omega) (tick + d + v)
  have lcT : ∀ a6 a7 a8 a9 a10 a11 a12 a13 a14 a15 a16 a17 a18 : Option Pv.D, a7 = some (.str x.n) → mLc (mIter (mVar 4)) (.nm 19) (mAndT (mTb (mCmp .Eq (mIx (mVar 19) (mC (.int 0))) (mVar 7))) (mTb (mCmp .Eq (mIx (mVar 19) (mC (.int 1))) (mVar 3)))) (mVar 19) [19] [some (Rf pre.length), some (dNet n), a2, some (.int (tick + d)), some (.tuple (run.map dEv)), some (Rf (pre.length + 1)), a6, a7, a8, a9, a10, a11, a12, a13, a14, a15, a16, a17, a18, none, none] (pre ++ fd cs sp7 lf7 dr7 :: [.lst (ss.map dStamp)]) = .ok (.list ((run.filter (same2 e)).map dEv)) (pre ++ fd cs sp7 lf7 dr7 :: [.lst (ss.map dStamp)]) := by
    rintro a6 a7 a8 a9 a10 a11 a12 a13 a14 a15 a16 a17 a18 rfl
    refine mLc_if (keep := always) run dEv _ _ (by simp) trivial (by omega) fun p _ => ⟨_, rfl, ?_, fun _ => by simp [wipeD]⟩
    show _ = R.ok (p.h == x.n && decide (p.t = tick + d)) _
    cases hq : p.h == x.n with
    | true => simp -implicitDefEqProofs [wipeD, lev_0, lev_1, hq]
    | false => simp -implicitDefEqProofs [wipeD, lev_0, lev_1, hq]
  have lcN : ∀ a6 a7 a8 a9 a10 a11 a12 a13 a14 a15 a16 a17 a18 : Option Pv.D, a15 = some (.tuple (run.map dEv ++ [.tuple [.str x.n, .int (tick + d), .int (tick + d + v), dLet letter]])) → mLc (mIter (mCall F__law_steps (msCons (mVar 15) (msCons (mLen (mVar 4)) (msNil))))) (.nm 20) (tYesM) (mIx (mVar 5) (mVar 20)) [20] [some (Rf pre.length), some (dNet n), a2, some (.int (tick + d)), some (.tuple (run.map dEv)), some (Rf (pre.length + 1)), a6, a7, a8, a9, a10, a11, a12, a13, a14, a15, a16, a17, a18, none, none] (pre ++ fd cs sp7 lf7 dr7 :: [.lst (ss.map dStamp)]) = .ok (.list (ks.map dStamp)) (pre ++ fd cs sp7 lf7 dr7 :: [.lst (ss.map dStamp)]) := by
    rintro a6 a7 a8 a9 a10 a11 a12 a13 a14 a15 a16 a17 a18 rfl
    rw [hks, List.map_map]
    refine mLc_at (keep := always) (causes (run ++ [e]) run.length) (fun (j : Nat) => PyData.int (j : Int)) _ (by simp -implicitDefEqProofs [q_st']) trivial (by have := causes_two (run ++ [e]) run.length; omega) fun j hj => ⟨_, rfl, ?_⟩
    have hj' := hcl j hj
    have ir := ix_R (st := pre ++ fd cs sp7 lf7 dr7 :: [.lst (ss.map dStamp)]) (r := pre.length + 1) (ds := ss.map dStamp) (j := j) (d := dStamp (ss.getD j (0, 0))) (by rw [List.getElem?_append_right (by omega)]; simp) (by
      rw [List.getElem?_map, List.getD_eq_getElem?_getD, List.getElem?_eq_getElem (show j < ss.length by omega)]; rfl)
    simp -implicitDefEqProofs [wipeD, ir]
  have n0 : ∀ st, fIx (dNet n) (.int 0) st = .ok (.tuple (n.hosts.map dHost)) st := fun _ => rfl
  have tgH : ∀ sl st, tgTup 4 (tgCons (tgName 7) (tgCons (tgName 8) (tgCons (tgName 9) (tgCons (tgName 10) (tgNil))))) (dHost x) sl st = .ok ((((sl.set 7 (some (.str x.n))).set 8 (some (.int x.s))).set 9 (some (.int x.f))).set 10 (some (.int x.r))) st := fun _ _ => rfl
  have addT : ∀ st, fAdd (.tuple (run.map dEv)) (.tuple [.tuple [.str x.n, .int (tick + d), .int (tick + d + v), dLet letter]]) st = .ok (.tuple (run.map dEv ++ [.tuple [.str x.n, .int (tick + d), .int (tick + d + v), dLet letter]])) st := fun st => by
    show lift (dAddT _ _) st = _
    unfold dAddT
    rw [if_pos (sz_le (by rw [List.length_map, List.length_cons, List.length_nil]; omega))]; rfl
  have isl : isLst (pre ++ fd cs sp7 lf7 dr7 :: [.lst (ss.map dStamp)]) (Rf (pre.length + 1)) = true := by
    unfold isLst
    simp only [show ((pre.length + 1 : Nat) : Int).toNat = pre.length + 1 from Int.toNat_natCast _]
    rw [List.getElem?_append_right (by omega)]; simp
  have app : ∀ s : Stamp, fApp (Rf (pre.length + 1)) (dStamp s) (pre ++ fd cs sp7 lf7 dr7 :: [.lst (ss.map dStamp)]) = .ok .none (pre ++ fd cs sp7 lf7 dr7 :: [.lst ((ss ++ [s]).map dStamp)]) := fun s => by
    have e : (pre ++ fd cs sp7 lf7 dr7 :: [.lst (ss.map dStamp)])[pre.length + 1]? = some (.lst (ss.map dStamp)) := by
      rw [List.getElem?_append_right (by omega)]; simp
    unfold fApp
    simp only [show ((pre.length + 1 : Nat) : Int).toNat = pre.length + 1 from Int.toNat_natCast _, e]
    rw [if_pos (sz_lt (by rw [List.length_map]; omega)), List.set_append_right _ _ (by omega)]
    simp
  have hif' := hif
  let far : Pv.D := .list ((lettersOf n run x.n (tick + d)).map fun (j : Nat) => PyData.int (j : Int))
  let late : Pv.D := .tuple (run.map dEv ++ [.tuple [.str x.n, .int (tick + d), .int (tick + d + v), dLet letter]])
  by_cases hc : ((run.filter (same2 e)).length : Int) < x.r
  · cases hs : nstK n ks (tick + d + v) with
    | none =>
      rw [hs] at q_sm
      refine ⟨[some (Rf pre.length), some (dNet n), a2, some (.int (tick + d)), some (.tuple (run.map dEv)), some (Rf (pre.length + 1)), some lap, some (.str x.n), some (.int x.s), some (.int x.f), some (.int x.r), some (.int (r4 - x.s)), some (.int (tick + d + v)), some far, some (dLet letter), some late, some (.list ((run.filter (same2 e)).map dEv)), some (.list (ks.map dStamp)), some .none, none, none], sp7, lf7, dr7, run, ss, d, ?_, rfl, hI.stay d0 d8⟩
      unfold l0__law_lot lotZ
      simp -implicitDefEqProofs [-e_sif, hd1, mkLst, sz_le, hd2, n0, hd3, tgH, hd4, dInt2, dNeg, hd5, ql, hif', mkTup, addT, lcT, lcN, q_sm, dSN]
      simp -implicitDefEqProofs [hc, far, late]
    | some s =>
      rw [hs] at q_sm
      have nn : isNone (dStamp s) = false := rfl
      have q_sm' : F__law_stamp [dNet n, .list (ks.map dStamp), .int (tick + d + v)] (pre ++ fd cs sp7 lf7 dr7 :: [.lst (ss.map dStamp)]) = .ok (dStamp s) (pre ++ fd cs sp7 lf7 dr7 :: [.lst (ss.map dStamp)]) := q_sm
      have ap := app s
      refine ⟨[some (Rf pre.length), some (dNet n), a2, some (.int (tick + d)), some late, some (Rf (pre.length + 1)), some lap, some (.str x.n), some (.int x.s), some (.int x.f), some (.int x.r), some (.int (r4 - x.s)), some (.int (tick + d + v)), some far, some (dLet letter), some late, some (.list ((run.filter (same2 e)).map dEv)), some (.list (ks.map dStamp)), some (dStamp s), none, none], sp7, lf7, dr7, run ++ [e], ss ++ [s], d, ?_, ?_, hI.more hN d0 d8 (e := e) (x := x) (s := s) hx rfl rfl ⟨by show tick + d - x.s ≤ tick + d + v; omega, by show tick + d + v ≤ tick + d + x.f; omega⟩ hlet hc (by rw [← hks]; exact hs)⟩
      · unfold l0__law_lot lotZ
        simp -implicitDefEqProofs [-e_sif, hd1, mkLst, sz_le, hd2, n0, hd3, tgH, hd4, dInt2, dNeg, hd5, ql, hif', mkTup, addT, lcT, lcN, q_sm']
        simp -implicitDefEqProofs [-List.map_append, hc, far, late, nn, isl, ap]
        simp
      · unfold lotZ
        rw [List.map_append]
        rfl
  · have q_sm2 : ∃ r, F__law_stamp [dNet n, .list (ks.map dStamp), .int (tick + d + v)] (pre ++ fd cs sp7 lf7 dr7 :: [.lst (ss.map dStamp)]) = .ok r (pre ++ fd cs sp7 lf7 dr7 :: [.lst (ss.map dStamp)]) := ⟨_, q_sm⟩
    obtain ⟨r18, q_sm2⟩ := q_sm2
    refine ⟨[some (Rf pre.length), some (dNet n), a2, some (.int (tick + d)), some (.tuple (run.map dEv)), some (Rf (pre.length + 1)), some lap, some (.str x.n), some (.int x.s), some (.int x.f), some (.int x.r), some (.int (r4 - x.s)), some (.int (tick + d + v)), some far, some (dLet letter), some late, some (.list ((run.filter (same2 e)).map dEv)), some (.list (ks.map dStamp)), some r18, none, none], sp7, lf7, dr7, run, ss, d, ?_, rfl, hI.stay d0 d8⟩
    unfold l0__law_lot lotZ
    simp -implicitDefEqProofs [-e_sif, hd1, mkLst, sz_le, hd2, n0, hd3, tgH, hd4, dInt2, dNeg, hd5, ql, hif', mkTup, addT, lcT, lcN, q_sm2]
    simp -implicitDefEqProofs [hc, far, late]
/-- a drawn run -/
theorem q_lot (hcs : IntsD cs) (hl : cs.length ≤ 63) (hp : StC pre) (hN : NetD n) {size : Nat} (hz : size ≤ 700) (sp lf dr : Int) :
    ∃ run ss tick sp' lf' dr', F__law_lot [Rf pre.length, dNet n, .int (size : Int)] (pre ++ [fd cs sp lf dr]) = .ok (.tuple (run.map dEv)) (pre ++ [fd cs sp' lf' dr']) ∧ LotI n run ss tick size := by
  obtain ⟨r1, sp1, lf1, dr1, hd1, r10, r11⟩ := q_draw (pre := pre) (st := []) (sp := sp) (lf := lf) (dr := dr) (m := 2001) hcs hl (by decide) (by decide)
  obtain ⟨sl', st', e, sp2, lf2, dr2, run, ss, tick, h1, h2, hI⟩ := forL_invK (keep := always) (tg := tgName 6) (body := l0__law_lot) (fg := [6, 7, 8, 9, 10, 11, 12, 13, 14, 15, 16, 17, 18]) (fun k sl st => ∃ sp lf dr run ss tick, sl = lotZ pre n (some (.int (size : Int))) tick run ∧ st = pre ++ fd cs sp lf dr :: [.lst (ss.map dStamp)] ∧ LotI n run ss tick k) (fun _ => trivial)
    (ds := (List.range size).map fun (j : Nat) => PyData.int (j : Int)) (k := 0) (sl := lotZ pre n (some (.int (size : Int))) (r1 - 1000) []) (st := pre ++ fd cs sp1 lf1 dr1 :: [.lst []])
    ⟨sp1, lf1, dr1, [], [], r1 - 1000, rfl, rfl, LotI.nil n (by omega)⟩ (by
      rintro k d sl st hd ⟨sp, lf, dr, run, ss, tick, rfl, rfl, hI⟩
      rw [Nat.zero_add] at *
      have hk := (List.getElem?_eq_some_iff.mp hd).1
      rw [List.length_map, List.length_range] at hk
      obtain ⟨sl', sp', lf', dr', run', ss', dd, q1, q2, q3⟩ := q_lap hcs hl hp hN (some (.int (size : Int))) d hI (by omega) sp lf dr
      exact ⟨sl', _, q1, sp', lf', dr', run', ss', tick + dd, q2, rfl, q3⟩)
  subst h1; subst h2
  rw [Nat.zero_add, List.length_map, List.length_range] at hI
  refine ⟨run, ss, tick, sp2, lf2, dr2, ?_, hI⟩
  have lst0 : ∀ fm, mkLstM [] (pre ++ [fm]) = .ok (Rf (pre.length + 1)) (pre ++ [fm, .lst []]) := fun fm => by
    unfold mkLstM
    rw [if_pos (show ([] : List Pv.D).length ≤ sizeLine from Nat.zero_le _)]
    simp
  have rg : ∀ st, mRng1 (mVar 2) [some (Rf pre.length), some (dNet n), some (.int (size : Int)), some (.int (r1 - 1000)), some (.tuple []), some (Rf (pre.length + 1)), none, none, none, none, none, none, none, none, none, none, none, none, none, none, none] st = .ok ⟨(List.range size).map fun (j : Nat) => PyData.int (j : Int), always⟩ st := fun st => rng1_at (by simp) (by omega)
  unfold lotZ at e
  simp only [List.map_nil] at e
  have fin := fin_app (st := pre ++ [fd cs sp2 lf2 dr2]) (more := [.lst (ss.map dStamp)]) (d := .tuple (run.map dEv)) (by
    intro g
    exact fzS_app (hp g) (fd_ok hcs)) (run_ok (hI.evS hN (by omega)) (Nat.le_refl _)).lay
  rw [List.append_assoc, show (pre ++ [fd cs sp2 lf2 dr2]).length = pre.length + 1 by simp] at fin
  unfold F__law_lot b__law_lot
  rw [fnP_e]
  simp -implicitDefEqProofs [startD, hd1, dInt2, mkTup, sz_le, lst0, wipeD]
  rw [rg]
  simp -implicitDefEqProofs only [th_ok]
  rw [e]
  simp -implicitDefEqProofs
  exact fin
end
section
variable {st : Sto} {n : Net}
def stOut (n : Net) (es : List Ev) : Pv.D := match allS (stp n es) with | some ss => .list (ss.map dStamp) | none => .none
theorem q_lstampsL (hs : StC st) {es : List Ev} (hb : letB 0 es = true) (hl : es.length ≤ 800) : ∀ (m k : Nat) (acc : List Stamp), k + m = es.length → stp n (es.take k) = acc.map some →
    (∃ ss, allS (stp n es) = some ss ∧ forL always (tgName 3) l0__law_stamps [3, 4] ((List.range' k m).map fun (j : Nat) => PyData.int (j : Int)) [some (dNet n), some (.tuple (es.map dEv)), some (Rf st.length), none, none, none] (st ++ [.lst (acc.map dStamp)]) =
      .nx [some (dNet n), some (.tuple (es.map dEv)), some (Rf st.length), none, none, none] (st ++ [.lst (ss.map dStamp)])) ∨
    (∃ acc' : List Stamp, allS (stp n es) = none ∧ forL always (tgName 3) l0__law_stamps [3, 4] ((List.range' k m).map fun (j : Nat) => PyData.int (j : Int)) [some (dNet n), some (.tuple (es.map dEv)), some (Rf st.length), none, none, none] (st ++ [.lst (acc.map dStamp)]) =
      .rt .none (st ++ [.lst (acc'.map dStamp)]))
  | 0, k, acc, hk, h => by
    refine .inl ⟨acc, ?_, ?_⟩
    · rw [List.take_of_length_le (by omega)] at h
      rw [h, allS_some]
    · rw [List.range'_zero, List.map_nil, forL_nil]
  | m + 1, k, acc, hk, h => by
    have hkl : k < es.length := by omega
    obtain ⟨s1, s2⟩ := stamps_step hb hkl h
    have hal : acc.length = k := by
      have := stp_len h
      rw [List.length_take] at this
      omega
    have hcb := causes_bound hb hkl
    have c2 := causes_two es k
    have lc : mLc (mIter (mCall F__law_steps (msCons (mVar 1) (msCons (mVar 3) (msNil))))) (.nm 5) (tYesM) (mIx (mVar 2) (mVar 5)) [5] [some (dNet n), some (.tuple (es.map dEv)), some (Rf st.length), some (.int (k : Int)), none, none] (st ++ [.lst (acc.map dStamp)]) = .ok (.list (((causes es k).map fun j => acc.getD j (0, 0)).map dStamp)) (st ++ [.lst (acc.map dStamp)]) := by
      rw [List.map_map]
      refine mLc_at (keep := always) (causes es k) (fun (i : Nat) => PyData.int (i : Int)) _ (by simp -implicitDefEqProofs [q_lsteps (st := st ++ [.lst (acc.map dStamp)]) (es := es) (by omega) hkl]) trivial (by omega) fun i hi => ⟨_, rfl, ?_⟩
      have hik := hcb i hi
      have ir := ix_R (st := st ++ [.lst (acc.map dStamp)]) (r := st.length) (ds := acc.map dStamp) (j := i) (d := dStamp (acc.getD i (0, 0))) (by rw [List.getElem?_append_right (Nat.le_refl _)]; simp) (by rw [List.getElem?_map, List.getD_eq_getElem?_getD, List.getElem?_eq_getElem (show i < acc.length by omega)]; rfl)
      simp -implicitDefEqProofs [wipeD, ir]
    obtain ⟨ks, hks⟩ : ∃ ks, ks = (causes es k).map fun j => acc.getD j (0, 0) := ⟨_, rfl⟩
    rw [← hks] at lc s1 s2
    have q_sm := q_lstamp (n := n) (st := st ++ [.lst (acc.map dStamp)]) ks (by rw [hks, List.length_map]; omega) es[k].r
    rw [List.range'_succ, List.map_cons, forL_cons]
    cases hs1 : nstK n ks es[k].r with
    | none =>
      rw [hs1] at q_sm
      have body : (tgName 3 (.int (k : Int)) [some (dNet n), some (.tuple (es.map dEv)), some (Rf st.length), none, none, none] (st ++ [.lst (acc.map dStamp)])).thenS l0__law_stamps = .rt .none (st ++ [.lst (acc.map dStamp)]) := by
        unfold l0__law_stamps
        simp -implicitDefEqProofs [lc, lrun_at hkl, lev_2, q_sm, dSN]
      rw [body]
      exact .inr ⟨acc, s1 hs1, rfl⟩
    | some s =>
      rw [hs1] at q_sm
      have q_sm' : F__law_stamp [dNet n, .list (ks.map dStamp), .int es[k].r] (st ++ [.lst (acc.map dStamp)]) = .ok (dStamp s) (st ++ [.lst (acc.map dStamp)]) := q_sm
      have nn : isNone (dStamp s) = false := rfl
      have il : isLst (st ++ [.lst (acc.map dStamp)]) (Rf st.length) = true := isLst_last _ _
      have ap := app_last st (acc.map dStamp) (dStamp s) (by rw [List.length_map]; omega)
      have body : (tgName 3 (.int (k : Int)) [some (dNet n), some (.tuple (es.map dEv)), some (Rf st.length), none, none, none] (st ++ [.lst (acc.map dStamp)])).thenS l0__law_stamps = .nx [some (dNet n), some (.tuple (es.map dEv)), some (Rf st.length), some (.int (k : Int)), some (dStamp s), none] (st ++ [.lst ((acc ++ [s]).map dStamp)]) := by
        unfold l0__law_stamps
        simp -implicitDefEqProofs [lc, lrun_at hkl, lev_2, q_sm', nn, il, ap]
      rw [body]
      exact q_lstampsL hs hb hl m (k + 1) (acc ++ [s]) (by omega) (s2 s hs1)
theorem q_lstamps (hs : StC st) {es : List Ev} (hb : letB 0 es = true) (hl : es.length ≤ 800) : F__law_stamps [dNet n, .tuple (es.map dEv)] st = .ok (stOut n es) st := by
  unfold F__law_stamps b__law_stamps
  rw [fnP_e]
  have ml : ∀ st, mkLstM [] st = .ok (Rf st.length) (st ++ [.lst []]) := fun st => by unfold mkLstM; rw [if_pos (show ([] : List Pv.D).length ≤ sizeLine from Nat.zero_le _)]
  have rg : mRng1 (mLen (mVar 1)) [some (dNet n), some (.tuple (es.map dEv)), some (Rf st.length), none, none, none] (st ++ [.lst []]) = .ok ⟨(List.range' 0 es.length).map fun (j : Nat) => PyData.int (j : Int), always⟩ (st ++ [.lst []]) := by
    rw [← List.range_eq_range']
    exact rng1_at (by simp) (by omega)
  have lp := q_lstampsL (n := n) hs hb hl es.length 0 [] (by omega) (by rw [List.take_zero]; rfl)
  simp only [List.map_nil] at lp
  have lay : ∀ ss : List Stamp, PyData.canLayAll0 (ss.map dStamp) = true := fun ss => (layAll_iff _).mpr fun d hd => by obtain ⟨s, _, rfl⟩ := List.mem_map.mp hd; rfl
  unfold stOut
  rcases lp with ⟨ss, h1, h2⟩ | ⟨acc, h1, h2⟩
  · rw [h1]
    simp -implicitDefEqProofs [startD, ml, wipeD]
    rw [rg]
    simp -implicitDefEqProofs only [th_ok]
    rw [h2]
    simp -implicitDefEqProofs
    exact fin_list hs (Nat.le_refl _) (by rw [List.getElem?_append_right (Nat.le_refl _)]; simp) (lay ss)
  · rw [h1]
    simp -implicitDefEqProofs [startD, ml, wipeD]
    rw [rg]
    simp -implicitDefEqProofs only [th_ok]
    rw [h2]
    simp -implicitDefEqProofs
    exact fin_app hs rfl
end
section
variable {st : Sto}
theorem q_saidU (hs : StC st) (w : Str) (k : Int) (hw : (PyData.str w).canLay0 = true) : sF__law_said (.exc ("NotUsable", [("at", .int k), ("word", .str w)]) st) = .ok (.tuple [.str "use", .str w, .int k]) st := by
  unfold sF__law_said saidR
  dsimp only
  rw [if_pos (by decide)]
  unfold handR b__law_said
  simp [slE, exD, mkLstM, isLst, fApp, isLstD, fCnt, cntD, mkTup, deref, sz_le, sz_lt, PyData.canLayAll0, PyData.canLay0, PyData.depthAll, PyData.depth, PyData.eqv, fIx, dlook, dIx, atI, ixN, dAddT, nmD, List.lookup_cons]
  exact fin_app hs (by rw [show (PyData.tuple [.str "use", .str w, .int k]).canLay0 = ((PyData.str "use").canLay0 && ((PyData.str w).canLay0 && true)) from rfl, hw]; decide +kernel)
end
end Gstampahead_k28_whole_longest_chains
set_option Elab.async false
set_option linter.all false
set_option maxRecDepth 100000
set_option maxHeartbeats 1000000
set_option pp.maxSteps 1500
namespace Gstampahead_k28_whole_longest_chains
open PySem PySem.Spec Pv
open L2 hiding keyOf
open PyProof.Rows hiding St signs cutD pairD
theorem nstK_cnt {n : Net} {ks : List Stamp} {rd : Int} {s : Stamp} (h : nstK n ks rd = some s) : s.2 = (match maxI ((ks.filter fun p => decide (p.1 = s.1)).map (·.2)) with | none => 0 | some c => c + 1) := by
  unfold nstK at h
  simp only at h
  cases ks with
  | nil =>
    have e : mark [] rd = rd - 1 := rfl
    rw [e, if_pos (by omega)] at h
    cases h; rfl
  | cons a l =>
    obtain ⟨ks, hks⟩ : ∃ ks, ks = a :: l := ⟨_, rfl⟩
    rw [← hks] at h ⊢
    obtain ⟨m, hm⟩ : ∃ m, maxI (ks.map (·.1)) = some m := ⟨_, by rw [hks]; rfl⟩
    have mk : mark ks rd = m := by unfold mark; rw [hm]; rfl
    have above : ∀ r, m < r → (ks.filter fun p => decide (p.1 = r)) = [] := fun r hr => by
      rw [List.filter_eq_nil_iff]
      intro p hp
      have := maxI_le hm _ (List.mem_map.mpr ⟨p, hp, rfl⟩)
      simp only [decide_eq_true_eq]
      omega
    rw [mk] at h
    by_cases h1 : m < rd
    · rw [if_pos h1] at h
      cases h
      show (0 : Int) = _
      rw [above rd h1]; rfl
    · rw [if_neg h1] at h
      obtain ⟨q, hq, hqm⟩ := List.mem_map.mp (maxI_some hm)
      obtain ⟨c, hc⟩ : ∃ c, maxI ((ks.filter fun s => decide (s.1 = m)).map (·.2)) = some c := by
        have : q ∈ ks.filter fun s => decide (s.1 = m) := List.mem_filter.mpr ⟨hq, by simpa using hqm⟩
        cases hf : ks.filter fun s => decide (s.1 = m) with
        | nil => rw [hf] at this; cases this
        | cons y l => exact ⟨_, rfl⟩
      have hc' := hc
      rw [hc] at h
      simp only [Option.getD_some] at h
      have f1 : ∀ s : Stamp, (m, 1 + c) = s → s.2 = (match maxI ((ks.filter fun p => decide (p.1 = s.1)).map (·.2)) with | none => 0 | some c => c + 1) := fun s e => by
        subst e
        show 1 + c = (match maxI ((ks.filter fun p => decide (p.1 = m)).map (·.2)) with | none => 0 | some c => c + 1)
        rw [hc']
        show 1 + c = c + 1
        omega
      have f2 : ∀ s : Stamp, (m + 1, 0) = s → s.2 = (match maxI ((ks.filter fun p => decide (p.1 = s.1)).map (·.2)) with | none => 0 | some c => c + 1) := fun s e => by
        subst e
        show (0 : Int) = (match maxI ((ks.filter fun p => decide (p.1 = m + 1)).map (·.2)) with | none => 0 | some c => c + 1)
        rw [above (m + 1) (by omega)]; rfl
      cases hmost : n.most with
      | none =>
        rw [hmost] at h
        simp only [if_true] at h
        exact f1 s (Option.some.inj h)
      | some k =>
        rw [hmost] at h
        simp only at h
        by_cases h2 : 1 + c ≤ k
        · rw [if_pos (by simpa using h2)] at h
          exact f1 s (Option.some.inj h)
        · rw [if_neg (by simpa using h2)] at h
          by_cases h3 : (n.rule == Str.ofString "more") = true
          · rw [if_pos h3] at h
            exact f2 s (Option.some.inj h)
          · rw [if_neg h3] at h
            cases h
section
variable {n : Net} {es : List Ev} {ss : List Stamp}
def nearN (es : List Ev) (ss : List Stamp) (k : Nat) : List Nat := (causes es k).filter fun j => decide ((ss.getD j (0, 0)).1 = (ss.getD k (0, 0)).1)
def cntN (ss : List Stamp) (k : Nat) : Int := (ss.getD k (0, 0)).2
theorem cnt_near (h : stp n es = ss.map some) (hb : letB 0 es = true) {k : Nat} (hk : k < es.length) : cntN ss k = (match maxI ((nearN es ss k).map (cntN ss)) with | none => 0 | some c => c + 1) := by
  have := nstK_cnt (stp_at h hb hk)
  unfold cntN
  rw [this, List.filter_map, List.map_map]
  rfl
theorem argBest_ge (f : Nat → Int) : ∀ k i, i ≤ k → f i ≤ f (argBest (fun i j => decide (f i > f j)) k)
  | 0, i, h => by rw [Nat.le_zero.mp h]; exact Int.le_refl _
  | k + 1, i, h => by
    show f i ≤ f (if decide (f (k + 1) > f (argBest (fun i j => decide (f i > f j)) k)) = true then k + 1 else argBest (fun i j => decide (f i > f j)) k)
    have ih := argBest_ge f k
    by_cases c : f (k + 1) > f (argBest (fun i j => decide (f i > f j)) k)
    · rw [if_pos (decide_eq_true c)]
      by_cases e : i = k + 1
      · rw [e]; exact Int.le_refl _
      · have := ih i (by omega)
        omega
    · rw [if_neg (by simpa using c)]
      by_cases e : i = k + 1
      · rw [e]; omega
      · exact ih i (by omega)
def bestN (ss : List Stamp) (l : List Nat) : Nat := l.getD (firstMax (l.map (cntN ss))) 0
theorem firstMax_lt {ks : List Int} (h : ks ≠ []) : firstMax ks < ks.length := by
  have := argBest_le (fun i j => decide (ks.getD i 0 > ks.getD j 0)) (ks.length - 1)
  have : 0 < ks.length := List.length_pos_iff.mpr h
  unfold firstMax
  omega
theorem best_at {l : List Nat} (h : l ≠ []) : l[firstMax (l.map (cntN ss))]? = some (bestN ss l) := by
  have := firstMax_lt (ks := l.map (cntN ss)) (by simpa using h)
  rw [List.length_map] at this
  unfold bestN
  rw [List.getD_eq_getElem?_getD, List.getElem?_eq_getElem this]; rfl
theorem best_mem {l : List Nat} (h : l ≠ []) : bestN ss l ∈ l := List.mem_of_getElem? (best_at h)
theorem best_max {l : List Nat} (h : l ≠ []) : maxI (l.map (cntN ss)) = some (cntN ss (bestN ss l)) := by
  refine maxI_of (List.mem_map.mpr ⟨_, best_mem h, rfl⟩) fun x hx => ?_
  obtain ⟨i, hi, e⟩ := List.mem_iff_getElem.mp hx
  have ge := argBest_ge (fun i => (l.map (cntN ss)).getD i 0) ((l.map (cntN ss)).length - 1) i (by omega)
  have e1 : (l.map (cntN ss)).getD i 0 = x := by rw [List.getD_eq_getElem?_getD, List.getElem?_eq_getElem hi]; exact e
  have hl := firstMax_lt (ks := l.map (cntN ss)) (by simpa using h)
  have e2 : (l.map (cntN ss)).getD (firstMax (l.map (cntN ss))) 0 = cntN ss (bestN ss l) := by
    have := best_at (ss := ss) h
    rw [List.getD_eq_getElem?_getD, List.getElem?_map, this]; rfl
  have ge : (l.map (cntN ss)).getD i 0 ≤ (l.map (cntN ss)).getD (firstMax (l.map (cntN ss))) 0 := ge
  rw [e1, e2] at ge
  exact ge
/-- the chain that is told -/
def chF (es : List Ev) (ss : List Stamp) : Nat → Nat → List Nat
  | 0, k => [k]
  | f + 1, k => if nearN es ss k = [] then [k] else chF es ss f (bestN ss (nearN es ss k)) ++ [k]
structure ChnC (es : List Ev) (ss : List Stamp) (k : Nat) (l : List Nat) : Prop where
  ne : l ≠ []
  len : (l.length : Int) = cntN ss k + 1
  lt : ∀ j ∈ l, j < es.length
  last : l.getLast? = some k
  mrk : ∀ j ∈ l, (ss.getD j (0, 0)).1 = (ss.getD k (0, 0)).1
  cnt : ∀ i (h : i < l.length), cntN ss (l[i]) = (i : Int)
  step : ∀ i (h : i + 1 < l.length), l[i] ∈ causes es (l[i + 1])
theorem near_lt (hb : letB 0 es = true) {k j : Nat} (hk : k < es.length) (h : j ∈ nearN es ss k) : j < k := causes_bound hb hk j (List.mem_filter.mp h).1
theorem ch_ok (h : stp n es = ss.map some) (hb : letB 0 es = true) : ∀ f k, k < f → k < es.length → ChnC es ss k (chF es ss f k)
  | 0, k, hk, _ => by omega
  | f + 1, k, hf, hk => by
    have cn := cnt_near h hb hk
    unfold chF
    by_cases e : nearN es ss k = []
    · rw [if_pos e]
      rw [e] at cn
      have cn : cntN ss k = 0 := cn
      refine ⟨by simp, by rw [cn]; rfl, fun j hj => by rw [List.mem_singleton.mp hj]; exact hk, rfl, fun j hj => by rw [List.mem_singleton.mp hj], fun i hi => ?_, fun i hi => by simp at hi⟩
      have : i = 0 := by simpa using hi
      subst this
      exact cn
    · rw [if_neg e]
      have bm := best_mem (ss := ss) e
      rw [best_max e] at cn
      have cn : cntN ss k = cntN ss (bestN ss (nearN es ss k)) + 1 := cn
      have bl := near_lt hb hk bm
      have ih := ch_ok h hb f (bestN ss (nearN es ss k)) (by omega) (by omega)
      obtain ⟨bc, bk⟩ := List.mem_filter.mp bm
      have bk : (ss.getD (bestN ss (nearN es ss k)) (0, 0)).1 = (ss.getD k (0, 0)).1 := by simpa using bk
      have il := ih.len
      generalize bestN ss (nearN es ss k) = b at *
      generalize hL : chF es ss f b = L at *
      have Lpos : 0 < L.length := List.length_pos_iff.mpr ih.ne
      refine ⟨by simp, by rw [List.length_append, List.length_singleton, cn]; omega, fun j hj => ?_, by simp, fun j hj => ?_, fun i hi => ?_, fun i hi => ?_⟩
      · rcases List.mem_append.mp hj with hj | hj
        · exact ih.lt j hj
        · rw [List.mem_singleton.mp hj]; exact hk
      · rcases List.mem_append.mp hj with hj | hj
        · rw [ih.mrk j hj, bk]
        · rw [List.mem_singleton.mp hj]
      · rw [List.length_append, List.length_singleton] at hi
        by_cases c : i < L.length
        · rw [List.getElem_append_left c]; exact ih.cnt i c
        · have : i = L.length := by omega
          subst this
          rw [List.getElem_append_right (Nat.le_refl _)]
          simp only [Nat.sub_self, List.getElem_cons_zero]
          omega
      · rw [List.length_append, List.length_singleton] at hi
        by_cases c : i + 1 < L.length
        · have a1 : (L ++ [k])[i]'(by rw [List.length_append, List.length_singleton]; omega) = L[i] := List.getElem_append_left (by omega)
          have a2 : (L ++ [k])[i + 1]'(by rw [List.length_append, List.length_singleton]; omega) = L[i + 1] := List.getElem_append_left c
          rw [a1, a2]; exact ih.step i c
        · have q : i + 1 = L.length := by omega
          have a1 : (L ++ [k])[i]'(by rw [List.length_append, List.length_singleton]; omega) = L[i] := List.getElem_append_left (by omega)
          have a2 : (L ++ [k])[i + 1]'(by rw [List.length_append, List.length_singleton]; omega) = k := by
            rw [List.getElem_append_right (by omega)]
            simp only [show i + 1 - L.length = 0 by omega, List.getElem_cons_zero]
          rw [a1, a2]
          have e1 : L[i] = b := by
            have := ih.last
            rw [List.getLast?_eq_getElem?, List.getElem?_eq_getElem (by omega)] at this
            have := Option.some.inj this
            rw [← this]
            congr 1
            omega
          rw [e1]
          exact bc
end
end Gstampahead_k28_whole_longest_chains
set_option Elab.async false
set_option linter.all false
set_option maxRecDepth 100000
set_option maxHeartbeats 1000000
set_option pp.maxSteps 1500
namespace Gstampahead_k28_whole_longest_chains
open PySem PySem.Spec Pv
open L2 hiding keyOf
open PyProof.Rows hiding St signs cutD pairD
theorem whileL_out {t : MT} {body : MS} {fg : List Nat} {n : Nat} {sl : Sl} {st : Sto} (h : t sl st = .ok false st) : whileL t body fg (n + 1) sl st = .nx sl st := by
  unfold whileL
  rw [h]; rfl
theorem whileL_in {t : MT} {body : MS} {fg : List Nat} {n : Nat} {sl sl2 : Sl} {st st2 : Sto} (h : t sl st = .ok true st) (hb : body sl st = .nx sl2 st2) : whileL t body fg (n + 1) sl st = whileL t body fg n (wipeD sl2 fg) st2 := by
  conv => lhs; unfold whileL
  rw [h]
  simp only [th_ok, if_true, hb]
def dN (l : List Nat) : List Pv.D := l.map fun (j : Nat) => PyData.int (j : Int)
theorem pairK_int {kf : KF} {sl : Sl} {st : Sto} {f : Nat → Int} : ∀ l : List Nat, (∀ j ∈ l, kf sl st (.int (j : Int)) = some (.int (f j))) → pairK kf sl st (dN l) = some (l.map fun (j : Nat) => (PyData.int (j : Int), PyData.int (f j)))
  | [], _ => rfl
  | j :: l, h => by
    show pairK kf sl st (.int (j : Int) :: dN l) = _
    unfold pairK
    rw [h j List.mem_cons_self, pairK_int l fun i hi => h i (List.mem_cons_of_mem _ hi)]; rfl
section
variable {st : Sto} {n : Net} {es : List Ev} {ss : List Stamp}
theorem ss_at (hl : ss.length = es.length) {j : Nat} (hj : j < es.length) (s : Sto) : fIx (.list (ss.map dStamp)) (.int (j : Int)) s = .ok (dStamp (ss.getD j (0, 0))) s := ix_l (by
  rw [List.getElem?_map, List.getElem?_eq_getElem (by omega), List.getD_eq_getElem?_getD, List.getElem?_eq_getElem (by omega)]; rfl)
theorem stamp_0 (s : Stamp) (st : Sto) : fIx (dStamp s) (.int 0) st = .ok (.int s.1) st := rfl
theorem stamp_1 (s : Stamp) (st : Sto) : fIx (dStamp s) (.int 1) st = .ok (.int s.2) st := rfl
def wZ (n : Net) (es : List Ev) (ss : List Stamp) (k : Nat) (found near : List Nat) : Sl := [some (dNet n), some (.tuple (es.map dEv)), some (.int (k : Int)), some (.list (ss.map dStamp)), some (.list (dN found)), some (.list (dN near)), none]
theorem eq_int2 (i j : Int) : dCmp .Eq (.int i) (.int j) = some (.bool (decide (i = j))) := rfl
/-- the events of the same mark among the causes -/
theorem near_lc {F : M} (hl : ss.length = es.length) (hb : letB 0 es = true) (hz : es.length ≤ 900) {k h : Nat} (hk : k < es.length) (hh : h < es.length) (found near : List Nat) :
    mLc (mIter (mCall F_causes_of (msCons (mVar 1) (msCons (mIx (mVar 4) (mC (.int 0))) (msNil))))) (.nm 6) (mTb (mCmp .Eq (mIx (mIx (mVar 3) (mVar 6)) (mC (.int 0))) (mIx (mIx (mVar 3) (mVar 2)) (mC (.int 0))))) (mVar 6) [6] (wZ n es ss k (h :: found) near) st = .ok (.list (dN ((causes es h).filter fun j => decide ((ss.getD j (0, 0)).1 = (ss.getD k (0, 0)).1)))) st := by
  have qc := q_causes (st := st) (es := es) (by omega) hh
  have cl := causes_two es h
  refine mLc_if (keep := always) (causes es h) (fun (j : Nat) => PyData.int (j : Int)) _ _ ?_ trivial (by omega) fun j hj => ⟨_, rfl, ?_, fun _ => rfl⟩
  · have i0 : ∀ s, fIx (.list (dN (h :: found))) (.int 0) s = .ok (.int (h : Int)) s := fun _ => ix_l (j := 0) rfl
    have so : ∀ ds s, srcOf (.list ds) s = .ok ⟨ds, always⟩ s := fun _ _ => rfl
    unfold wZ
    generalize dN (h :: found) = FD at *
    generalize es.map dEv = M at *
    generalize dNet n = dn at *
    simp -implicitDefEqProofs [i0, qc, so]
  · have hj' := causes_bound hb hh j hj
    have a1 := ss_at hl (show j < es.length by omega)
    have a2 := ss_at hl hk
    have e := eq_int2 (ss.getD j (0, 0)).1 (ss.getD k (0, 0)).1
    have b1 := stamp_0 (ss.getD j (0, 0))
    have b2 := stamp_0 (ss.getD k (0, 0))
    show mTb _ [some (dNet n), some (.tuple (es.map dEv)), some (.int (k : Int)), some (.list (ss.map dStamp)), some (.list (dN (h :: found))), some (.list (dN near)), some (.int (j : Int))] st = _
    generalize dN (h :: found) = FD at *
    generalize dN near = ND at *
    generalize dStamp (ss.getD j (0, 0)) = s1 at *
    generalize dStamp (ss.getD k (0, 0)) = s2 at *
    generalize ss.map dStamp = SS at *
    generalize es.map dEv = M at *
    generalize dNet n = dn at *
    simp -implicitDefEqProofs [a1, a2, b1, b2, e]
theorem max_K (hl : ss.length = es.length) (hz : es.length ≤ 900) {nr : List Nat} (hn : nr ≠ []) (hnl : nr.length ≤ 2) (hlt : ∀ j ∈ nr, j < es.length) {sl : Sl} (h3 : sl[3]? = some (some (.list (ss.map dStamp)))) : dMaxK (kfIx2 3 1) sl st (.list (dN nr)) = some (.int (bestN ss nr : Nat)) := by
  have kf : ∀ j ∈ nr, kfIx2 3 1 sl st (.int (j : Int)) = some (.int (cntN ss j)) := fun j hj => by
    have hj' := hlt j hj
    unfold kfIx2
    rw [h3]
    have e : (ss.map dStamp)[((j : Int)).toNat]? = some (.tuple [.int (ss.getD j (0, 0)).1, .int (ss.getD j (0, 0)).2]) := by
      rw [Int.toNat_natCast, List.getElem?_map, List.getElem?_eq_getElem (by omega), List.getD_eq_getElem?_getD, List.getElem?_eq_getElem (by omega)]; rfl
    have hd : deref st (.list (ss.map dStamp)) = .list (ss.map dStamp) := rfl
    simp only [hd, e]
    rw [if_pos ⟨by omega, by omega, by decide⟩]; rfl
  unfold dMaxK
  simp only
  rw [pairK_int nr kf]
  simp only
  have im : intsOfD ((nr.map fun (j : Nat) => (PyData.int (j : Int), PyData.int (cntN ss j))).map (·.2)) = some (nr.map (cntN ss)) := by
    rw [List.map_map]
    have := ints_mapD (nr.map (cntN ss))
    rw [List.map_map] at this
    exact this
  rw [im]
  simp only
  rw [if_pos (by unfold dN; rw [List.length_map]; omega)]
  unfold dN
  rw [List.getElem?_map, best_at hn]; rfl
theorem near_len {h k : Nat} : ((causes es h).filter fun j => decide ((ss.getD j (0, 0)).1 = (ss.getD k (0, 0)).1)).length ≤ 2 := Nat.le_trans (List.length_filter_le _ _) (causes_two es h)
theorem len_pos (l : List Nat) (s : Sto) : ∀ sl : Sl, sl[5]? = some (some (.list (dN l))) → mTb (mCmp .Gt (mLen (mVar 5)) (mC (.int 0))) sl s = .ok (decide (l ≠ [])) s := fun sl h => by
  have ln : ∀ s, dLen (deref s (.list (dN l))) = some (.int (l.length : Int)) := fun s => by
    show some (PyData.int ((dN l).length : Int)) = _
    unfold dN
    rw [List.length_map]
  have q : mLen (mVar 5) sl s = .ok (.int (l.length : Int)) s := by
    rw [e_len, e_var, h]
    show lift (dLen (deref s (.list (dN l)))) s = _
    rw [ln]; rfl
  have g : dCmp .Gt (.int (l.length : Int)) (.int 0) = some (.bool (decide (l ≠ []))) := by
    rw [cmp_gt_i]
    congr 2
    rw [decide_eq_decide]
    cases l <;> simp
  rw [e_tb, e_cmp, q]
  simp -implicitDefEqProofs [-cmp_gt_i, g]
theorem lc_walk (tb : Nat → Addr) (htb : tbOk st (tb 0) "longest_chain.<locals>.<lambda>" = true) (hl : ss.length = es.length) (hb : letB 0 es = true) (hz : es.length ≤ 900) {k : Nat} (hk : k < es.length) : ∀ (f h N : Nat) (tail near : List Nat), h < f → f + 2 ≤ N → h < es.length → (ss.getD h (0, 0)).1 = (ss.getD k (0, 0)).1 → near ≠ [] → tail.length + f ≤ 950 →
    whileL (mTb (mCmp .Gt (mLen (mVar 5)) (mC (.int 0)))) (l0_longest_chain tb) [] N (wZ n es ss k (h :: tail) near) st = .nx (wZ n es ss k (chF es ss f h ++ tail) []) st
  | 0, h, N, tail, near, hf, _, _, _, _, _ => by omega
  | f + 1, h, N, tail, near, hf, hN, hh, hm, hne, htl => by
    obtain ⟨N, rfl⟩ : ∃ N', N = N' + 2 := ⟨N - 2, by omega⟩
    have t1 : mTb (mCmp .Gt (mLen (mVar 5)) (mC (.int 0))) (wZ n es ss k (h :: tail) near) st = .ok true st := by
      rw [len_pos near st _ rfl, decide_eq_true hne]
    let nr := (causes es h).filter fun j => decide ((ss.getD j (0, 0)).1 = (ss.getD k (0, 0)).1)
    have en : nr = nearN es ss h := by
      show (causes es h).filter _ = _
      unfold nearN
      rw [hm]
    have lc := near_lc (F := mC .none) (st := st) (n := n) hl hb hz hk hh tail near
    have s1 : (sAsg (mLc (mIter (mCall F_causes_of (msCons (mVar 1) (msCons (mIx (mVar 4) (mC (.int 0))) (msNil))))) (.nm 6) (mTb (mCmp .Eq (mIx (mIx (mVar 3) (mVar 6)) (mC (.int 0))) (mIx (mIx (mVar 3) (mVar 2)) (mC (.int 0))))) (mVar 6) [6]) (tgName 5)) (wZ n es ss k (h :: tail) near) st = .nx (wZ n es ss k (h :: tail) nr) st := by
      rw [e_asg, lc]; rfl
    have t2 := len_pos nr st (wZ n es ss k (h :: tail) nr) rfl
    by_cases hnr : nr = []
    · have bd : l0_longest_chain tb (wZ n es ss k (h :: tail) near) st = .nx (wZ n es ss k (h :: tail) []) st := by
        unfold l0_longest_chain
        rw [e_seq, s1, rs_nx, e_sif, t2, decide_eq_false (by simpa using hnr), hnr]
        rfl
      rw [whileL_in t1 bd]
      show whileL _ _ [] (N + 1) (wZ n es ss k (h :: tail) []) st = _
      have t3 := len_pos [] st (wZ n es ss k (h :: tail) []) rfl
      rw [whileL_out (t3.trans rfl)]
      rw [en] at hnr
      unfold chF
      rw [if_pos hnr]; rfl
    · have hlt : ∀ j ∈ nr, j < es.length := fun j hj => by
        have := causes_bound hb hh j (List.mem_filter.mp hj).1
        omega
      have hnl : nr.length ≤ 2 := near_len
      have mx := max_K (st := st) hl hz hnr hnl hlt (sl := wZ n es ss k (h :: tail) nr) rfl
      have mK : mMaxK (tb 0) "longest_chain.<locals>.<lambda>" (kfIx2 3 1) (mVar 5) (wZ n es ss k (h :: tail) nr) st = .ok (.int (bestN ss nr : Nat)) st := by
        show ((mVar 5 (wZ n es ss k (h :: tail) nr) st).bind fun x st' => if tbOk st' (tb 0) "longest_chain.<locals>.<lambda>" = true then lift (dMaxK (kfIx2 3 1) (wZ n es ss k (h :: tail) nr) st' (deref st' x)) st' else .bad) = _
        rw [show mVar 5 (wZ n es ss k (h :: tail) nr) st = .ok (.list (dN nr)) st from rfl, R.bind_ok, if_pos htb, show deref st (.list (dN nr)) = .list (dN nr) from rfl, mx]; rfl
      have s2 : (sAsg (mLst (msCons (mMaxK (tb 0) "longest_chain.<locals>.<lambda>" (kfIx2 3 1) (mVar 5)) (msStar (mVar 4) (msNil)))) (tgName 4)) (wZ n es ss k (h :: tail) nr) st = .nx (wZ n es ss k (bestN ss nr :: h :: tail) nr) st := by
        have sq : seqD st (.list (dN (h :: tail))) = some (dN (h :: tail)) := rfl
        have ml : mkLst (.int (bestN ss nr : Nat) :: dN (h :: tail)) st = .ok (.list (dN (bestN ss nr :: h :: tail))) st := if_pos (sz_le (by
          show (dN (h :: tail)).length + 1 ≤ 1000
          unfold dN
          rw [List.length_map, List.length_cons]; omega))
        have v4 : mVar 4 (wZ n es ss k (h :: tail) nr) st = .ok (.list (dN (h :: tail))) st := rfl
        have l1 : mLst (msCons (mMaxK (tb 0) "longest_chain.<locals>.<lambda>" (kfIx2 3 1) (mVar 5)) (msStar (mVar 4) (msNil))) (wZ n es ss k (h :: tail) nr) st = .ok (.list (dN (bestN ss nr :: h :: tail))) st := by
          rw [e_lst, e_msCons, mK, R.bind_ok, e_star, v4, R.bind_ok]
          show ((onO (seqD st (.list (dN (h :: tail)))) fun ds => (msNil (wZ n es ss k (h :: tail) nr) st).bind fun es st2 => R.ok (ds ++ es) st2).bind fun xs st => R.ok (.int (bestN ss nr : Nat) :: xs) st).bind mkLst = _
          rw [sq]
          show mkLst (.int (bestN ss nr : Nat) :: (dN (h :: tail) ++ [])) st = _
          rw [List.append_nil, ml]
        rw [e_asg, l1]; rfl
      have bd : l0_longest_chain tb (wZ n es ss k (h :: tail) near) st = .nx (wZ n es ss k (bestN ss nr :: h :: tail) nr) st := by
        unfold l0_longest_chain
        rw [e_seq, s1, rs_nx, e_sif, t2, decide_eq_true hnr]
        exact s2
      have bm := best_mem (ss := ss) hnr
      have bl : bestN ss nr < h := causes_bound hb hh _ (List.mem_filter.mp bm).1
      have bmk : (ss.getD (bestN ss nr) (0, 0)).1 = (ss.getD k (0, 0)).1 := by simpa using (List.mem_filter.mp bm).2
      rw [whileL_in t1 bd]
      show whileL _ _ [] (N + 1) (wZ n es ss k (bestN ss nr :: h :: tail) nr) st = _
      rw [lc_walk tb htb hl hb hz hk f (bestN ss nr) (N + 1) (h :: tail) nr (by omega) (by omega) (by omega) bmk hnr (by rw [List.length_cons]; omega)]
      rw [en] at hnr ⊢
      conv => rhs; unfold chF
      rw [if_neg hnr, List.append_assoc]; rfl
def useX (w : Str) : XV := ("NotUsable", [("at", .int (-1)), ("word", .str w)])
/-- the program's chain -/
theorem q_longest (tb : Nat → Addr) (hs : StC st) (htb : tbOk st (tb 0) "longest_chain.<locals>.<lambda>" = true) (h : stp n es = ss.map some) (hb : letB 0 es = true) (hz : es.length ≤ 900) {k : Nat} (hk : k < es.length) :
    F_longest_chain tb [dNet n, .tuple (es.map dEv), .int (k : Int)] st = .ok (.tuple (dN (chF es ss (k + 1) k))) st := by
  have hl := stp_len h
  have qi := q_isidx (st := st) (es := es) (cl_nat (k := k) (by omega))
  rw [idx_nat hk] at qi
  have qw := q_want (st := st) hs true (w := "k") (by kernel_rfl)
  rw [if_pos rfl] at qw
  have qs := q_stby (n := n) hs (es := es) (by omega) hb
  have em : (stp n es).map dStampO = ss.map dStamp := by rw [h, List.map_map]; rfl
  rw [em] at qs
  have lw := lc_walk (n := n) (st := st) tb htb hl hb hz hk (k + 1) k 100000 [] [k] (by omega) (by omega) hk rfl (by simp) (by simp; omega)
  have fin : ∀ d : Pv.D, d.canLay0 = true → finR st.length (.ok d st) = .ok d st := fun d hd => by
    have := fin_app (st := st) (more := []) (d := d) hs hd
    rwa [List.append_nil] at this
  have s1 : (sExpr (mCall F_want (msCons (mCall F_is_index (msCons (mVar 1) (msCons (mVar 2) (msNil)))) (msCons (mC (.str "k")) (msNil))))) (startD 7 [dNet n, .tuple (es.map dEv), .int (k : Int)]) st = .nx [some (dNet n), some (.tuple (es.map dEv)), some (.int (k : Int)), none, none, none, none] st := by
    generalize es.map dEv = M at *
    generalize dNet n = dn at *
    simp -implicitDefEqProofs [startD, qi, qw]
  have s2 : (sAsg (mCall F_stamps_by (msCons (mVar 0) (msCons (mVar 1) (msNil)))) (tgName 3)) [some (dNet n), some (.tuple (es.map dEv)), some (.int (k : Int)), none, none, none, none] st = .nx [some (dNet n), some (.tuple (es.map dEv)), some (.int (k : Int)), some (.list (ss.map dStamp)), none, none, none] st := by
    generalize es.map dEv = M at *
    generalize dNet n = dn at *
    simp -implicitDefEqProofs [qs]
  have s3 : (sAsg (mLst (msCons (mVar 2) (msNil))) (tgName 4)) [some (dNet n), some (.tuple (es.map dEv)), some (.int (k : Int)), some (.list (ss.map dStamp)), none, none, none] st = .nx [some (dNet n), some (.tuple (es.map dEv)), some (.int (k : Int)), some (.list (ss.map dStamp)), some (.list (dN [k])), none, none] st := by
    show _ = RS.nx [some (dNet n), some (.tuple (es.map dEv)), some (.int (k : Int)), some (.list (ss.map dStamp)), some (.list [.int (k : Int)]), none, none] st
    generalize es.map dEv = M at *
    generalize dNet n = dn at *
    simp -implicitDefEqProofs [mkLst, sz_le]
  have s4 : (sAsg (mLst (msCons (mVar 2) (msNil))) (tgName 5)) [some (dNet n), some (.tuple (es.map dEv)), some (.int (k : Int)), some (.list (ss.map dStamp)), some (.list (dN [k])), none, none] st = .nx (wZ n es ss k [k] [k]) st := by
    show _ = RS.nx [some (dNet n), some (.tuple (es.map dEv)), some (.int (k : Int)), some (.list (ss.map dStamp)), some (.list (dN [k])), some (.list [.int (k : Int)]), none] st
    generalize dN [k] = KD at *
    generalize es.map dEv = M at *
    generalize dNet n = dn at *
    simp -implicitDefEqProofs [mkLst, sz_le]
  unfold F_longest_chain b_longest_chain
  rw [fnP_e, e_seq, s1, rs_nx, e_seq, s2, rs_nx, e_seq, s3, rs_nx, e_seq, s4, rs_nx, e_seq, e_while]
  rw [show wipeD (wZ n es ss k [k] [k]) [] = wZ n es ss k [k] [k] from rfl, lw, rs_nx, List.append_nil]
  have ft : fTuple (.list (dN (chF es ss (k + 1) k))) st = .ok (.tuple (dN (chF es ss (k + 1) k))) st := rfl
  have rt : (sRet (mTuple (mVar 4))) (wZ n es ss k (chF es ss (k + 1) k) []) st = .rt (.tuple (dN (chF es ss (k + 1) k))) st := by
    unfold wZ
    generalize dN (chF es ss (k + 1) k) = C at *
    generalize es.map dEv = M at *
    generalize dNet n = dn at *
    simp -implicitDefEqProofs [ft]
  rw [rt]
  exact fin _ (ints_layD _)
theorem q_longX (tb : Nat → Addr) (hs : StC st) {x : Pv.D} (hx : Cl x) (hi : isIdx es.length x = false) : F_longest_chain tb [dNet n, .tuple (es.map dEv), x] st = .exc (useX "k") st := by
  have qi := q_isidx (st := st) (es := es) hx
  rw [hi] at qi
  have qw := q_want (st := st) hs false (w := "k") (by kernel_rfl)
  rw [if_neg (by decide)] at qw
  unfold F_longest_chain b_longest_chain
  rw [fnP_e]
  generalize es.map dEv = M at *
  generalize dNet n = dn at *
  simp -implicitDefEqProofs [startD, qi, qw]
  rfl
end
end Gstampahead_k28_whole_longest_chains
set_option Elab.async false
set_option linter.all false
set_option maxRecDepth 100000
set_option maxHeartbeats 1000000
set_option pp.maxSteps 1500
namespace Gstampahead_k28_whole_longest_chains
open PySem PySem.Spec Pv
open L2 hiding keyOf
open PyProof.Rows hiding St signs cutD pairD
theorem nodup_len {l : List Nat} {m : Nat} (nd : l.Nodup) (h : ∀ j ∈ l, j < m) : l.length ≤ m := by
  have := keys_le nd (l := List.range m) fun k hk => List.mem_range.mpr (h k hk)
  rwa [List.length_range] at this
section
variable {st : Sto} {n : Net} {es : List Ev} {ss : List Stamp}
theorem cnt_nn (h : stp n es = ss.map some) (hb : letB 0 es = true) {k : Nat} (hk : k < es.length) : 0 ≤ cntN ss k := by
  have c := ch_ok h hb (k + 1) k (by omega) hk
  have := c.len
  have := List.length_pos_iff.mpr c.ne
  omega
def lnI (ss : List Stamp) (k : Nat) : List Int := (List.range k).map fun j => 1 + cntN ss j
theorem max_near (h : stp n es = ss.map some) (hb : letB 0 es = true) {k : Nat} (hk : k < es.length) : maxI (((nearN es ss k).map fun j => 1 + cntN ss j) ++ [0]) = some (cntN ss k) := by
  have cn := cnt_near h hb hk
  have nn := cnt_nn h hb hk
  by_cases e : nearN es ss k = []
  · rw [e] at cn
    have cn : cntN ss k = 0 := cn
    rw [e, cn]; rfl
  · have bm := best_mem (ss := ss) e
    have mx := best_max (ss := ss) e
    rw [mx] at cn
    have cn : cntN ss k = cntN ss (bestN ss (nearN es ss k)) + 1 := cn
    refine maxI_of (List.mem_append_left _ (List.mem_map.mpr ⟨_, bm, by omega⟩)) fun x hx => ?_
    rcases List.mem_append.mp hx with hx | hx
    · obtain ⟨j, hj, rfl⟩ := List.mem_map.mp hx
      have := maxI_le mx (cntN ss j) (List.mem_map.mpr ⟨j, hj, rfl⟩)
      omega
    · rw [List.mem_singleton.mp hx]; exact nn
def lgZ (es : List Ev) (ss : List Stamp) (st : Sto) : Sl := [some (.tuple (es.map dEv)), some (.list (ss.map dStamp)), some (Rf st.length), none, none, none]
def lgS (st : Sto) (ss : List Stamp) (k : Nat) : Sto := st ++ [.lst ((lnI ss k).map .int)]
theorem lg_get {k j : Nat} (hj : j < k) : fIx (Rf st.length) (.int (j : Int)) (lgS st ss k) = .ok (.int (1 + cntN ss j)) (lgS st ss k) := ix_R (at_last _ _) (by
    unfold lnI
    rw [List.map_map, List.getElem?_map, List.getElem?_range hj]; rfl)
def lg4 (es : List Ev) (ss : List Stamp) (st : Sto) (k : Nat) (v : Option Pv.D) : Sl := [some (.tuple (es.map dEv)), some (.list (ss.map dStamp)), some (Rf st.length), some (.int (k : Int)), v, none]
def nrD (es : List Ev) (ss : List Stamp) (k : Nat) : List Pv.D := (nearN es ss k).map fun j => PyData.int (1 + cntN ss j)
theorem lg_test (hl : ss.length = es.length) {j k : Nat} (hj : j < es.length) (hk : k < es.length) (S : Sto) (r : Pv.D) : mTb (mCmp .Eq (mIx (mIx (mVar 1) (mVar 5)) (mC (.int 0))) (mIx (mIx (mVar 1) (mVar 3)) (mC (.int 0)))) [some (.tuple (es.map dEv)), some (.list (ss.map dStamp)), some r, some (.int (k : Int)), none, some (.int (j : Int))] S = .ok (decide ((ss.getD j (0, 0)).1 = (ss.getD k (0, 0)).1)) S := by
  have a1 := ss_at hl hj
  have a2 := ss_at hl hk
  have e := eq_int2 (ss.getD j (0, 0)).1 (ss.getD k (0, 0)).1
  have b1 := stamp_0 (ss.getD j (0, 0))
  have b2 := stamp_0 (ss.getD k (0, 0))
  generalize dStamp (ss.getD j (0, 0)) = s1 at *
  generalize dStamp (ss.getD k (0, 0)) = s2 at *
  generalize ss.map dStamp = SS at *
  generalize es.map dEv = M at *
  simp -implicitDefEqProofs [a1, a2, b1, b2, e]
theorem lg_it (hz : es.length ≤ 900) {k : Nat} (hk : k < es.length) (S : Sto) (r : Pv.D) : mIter (mCall F__law_steps (msCons (mVar 0) (msCons (mVar 3) (msNil)))) [some (.tuple (es.map dEv)), some (.list (ss.map dStamp)), some r, some (.int (k : Int)), none, none] S = .ok ⟨(causes es k).map fun (j : Nat) => PyData.int (j : Int), always⟩ S := by
  have qc := q_lsteps (st := S) (es := es) (by omega) hk
  have so : ∀ ds s, srcOf (.list ds) s = .ok ⟨ds, always⟩ s := fun _ _ => rfl
  generalize ss.map dStamp = SS at *
  generalize es.map dEv = M at *
  simp -implicitDefEqProofs [qc, so]
theorem lg_lc (hl : ss.length = es.length) (hb : letB 0 es = true) (hz : es.length ≤ 900) {k : Nat} (hk : k < es.length) : mLc (mIter (mCall F__law_steps (msCons (mVar 0) (msCons (mVar 3) (msNil))))) (.nm 5) (mTb (mCmp .Eq (mIx (mIx (mVar 1) (mVar 5)) (mC (.int 0))) (mIx (mIx (mVar 1) (mVar 3)) (mC (.int 0))))) (mIx (mVar 2) (mVar 5)) [5] (lg4 es ss st k none) (lgS st ss k) = .ok (.list (nrD es ss k)) (lgS st ss k) := by
  have cl := causes_two es k
  have it := lg_it (ss := ss) hz hk (lgS st ss k) (Rf st.length)
  refine mLc_if (keep := always) (causes es k) (fun (j : Nat) => PyData.int (j : Int)) (fun j => PyData.int (1 + cntN ss j)) (fun j => decide ((ss.getD j (0, 0)).1 = (ss.getD k (0, 0)).1)) it trivial (by omega) fun j hj => ⟨_, rfl, ?_, fun _ => ?_⟩
  · exact lg_test hl (by have := causes_bound hb hk j hj; omega) hk (lgS st ss k) (Rf st.length)
  · exact lg_get (causes_bound hb hk j hj)
theorem lg_app {k : Nat} (hk : k ≤ 900) : fApp (Rf st.length) (.int (1 + cntN ss k)) (lgS st ss k) = .ok .none (lgS st ss (k + 1)) := by
  have ll : (lnI ss k).length = k := by unfold lnI; rw [List.length_map, List.length_range]
  have := app_last st ((lnI ss k).map PyData.int) (.int (1 + cntN ss k)) (by rw [List.length_map, ll]; omega)
  have e : (lnI ss k).map PyData.int ++ [.int (1 + cntN ss k)] = (lnI ss (k + 1)).map PyData.int := by
    unfold lnI
    rw [List.range_succ, List.map_append, List.map_append]; rfl
  rw [e] at this
  exact this
theorem lg_is {k : Nat} : isLst (lgS st ss k) (Rf st.length) = true := isLst_last st _
theorem lg_body {S S2 : Sto} {r : Nat} {M : List Pv.D} {SS NL : List Pv.D} {ki c : Int} (hn : NL.length ≤ 2)
    (lc : mLc (mIter (mCall F__law_steps (msCons (mVar 0) (msCons (mVar 3) (msNil))))) (.nm 5) (mTb (mCmp .Eq (mIx (mIx (mVar 1) (mVar 5)) (mC (.int 0))) (mIx (mIx (mVar 1) (mVar 3)) (mC (.int 0))))) (mIx (mVar 2) (mVar 5)) [5] [some (.tuple M), some (.list SS), some (Rf r), some (.int ki), none, none] S = .ok (.list NL) S)
    (mx : dMax1 (.list (NL ++ [.int 0])) = some (.int c)) (ap : fApp (Rf r) (.int (1 + c)) S = .ok .none S2) (il : isLst S (Rf r) = true) :
    l0__law_lengths [some (.tuple M), some (.list SS), some (Rf r), some (.int ki), none, none] S = .nx [some (.tuple M), some (.list SS), some (Rf r), some (.int ki), some (.list NL), none] S2 := by
  have mk0 : ∀ s, mkLst [.int 0] s = .ok (.list [.int 0]) s := fun _ => if_pos (sz_le (show 1 ≤ 1000 by decide))
  have ad : ∀ s, fAdd (.list NL) (.list [.int 0]) s = .ok (.list (NL ++ [.int 0])) s := fun s => add_lls (by show _ + 1 ≤ 1000; omega) s
  have adi : ∀ i j : Int, ∀ s, fAdd (.int i) (.int j) s = .ok (.int (i + j)) s := fun _ _ _ => rfl
  have dl : ∀ (l : List Pv.D) s, deref s (.list l) = .list l := fun _ _ => rfl
  unfold l0__law_lengths
  generalize NL ++ [.int 0] = NL0 at *
  simp -implicitDefEqProofs [lc, mk0, ad, dl, mx, adi, ap, il]
theorem lg_turn (h : stp n es = ss.map some) (hb : letB 0 es = true) (hz : es.length ≤ 900) {k : Nat} (hk : k < es.length) :
    ∃ sl', (tgName 3 (.int (k : Int)) (lgZ es ss st) (lgS st ss k)).thenS l0__law_lengths = .nx sl' (lgS st ss (k + 1)) ∧ wipeD sl' [3, 4] = lgZ es ss st := by
  have lc := lg_lc (st := st) (stp_len h) hb hz hk
  have mx := max_ints (max_near h hb hk)
  rw [List.map_append, List.map_map] at mx
  refine ⟨lg4 es ss st k (some (.list (nrD es ss k))), ?_, rfl⟩
  have b0 : ∀ S (B : MS), (tgName 3 (.int (k : Int)) (lgZ es ss st) S).thenS B = B (lg4 es ss st k none) S := fun S B => rfl
  rw [b0]
  exact lg_body (by unfold nrD; rw [List.length_map]; exact near_len) lc mx (lg_app (by omega)) lg_is
theorem q_lengths (hs : StC st) (h : stp n es = ss.map some) (hb : letB 0 es = true) (hz : es.length ≤ 900) : F__law_lengths [.tuple (es.map dEv), .list (ss.map dStamp)] st = .ok (.list ((lnI ss es.length).map .int)) st := by
  have lm : ∀ s, dLen (deref s (.tuple (es.map dEv))) = some (.int (es.length : Int)) := fun s => by show some (PyData.int ((es.map dEv).length : Int)) = _; rw [List.length_map]
  have loop : ∀ m k, k + m = es.length → forL always (tgName 3) l0__law_lengths [3, 4] ((List.range' k m).map fun (j : Nat) => PyData.int (j : Int)) (lgZ es ss st) (lgS st ss k) = .nx (lgZ es ss st) (lgS st ss es.length) := fun m => by
    induction m with
    | zero => intro k e; rw [List.range'_zero, List.map_nil, forL_nil]; rw [show k = es.length by omega]
    | succ m ih =>
      intro k e
      obtain ⟨sl', q1, q2⟩ := lg_turn (st := st) h hb hz (k := k) (by omega)
      rw [List.range'_succ, List.map_cons, forL_cons, q1]
      show forL always _ _ _ _ (wipeD sl' [3, 4]) _ = _
      rw [q2, ih (k + 1) (by omega)]
  have rg : mRng1 (mLen (mVar 0)) (lgZ es ss st) (lgS st ss 0) = .ok ⟨(List.range es.length).map fun (j : Nat) => PyData.int (j : Int), always⟩ (lgS st ss 0) := rng1_at (by
    show lift (dLen (deref (lgS st ss 0) (.tuple (es.map dEv)))) (lgS st ss 0) = _
    rw [lm]; rfl) (by omega)
  have s1 : (sAsg (mLstM (msNil)) (tgName 2)) (startD 6 [.tuple (es.map dEv), .list (ss.map dStamp)]) st = .nx (lgZ es ss st) (lgS st ss 0) := rfl
  have lp := loop es.length 0 (by omega)
  rw [← List.range_eq_range'] at lp
  unfold F__law_lengths b__law_lengths
  rw [fnP_e, e_seq, s1, rs_nx, e_seq, e_for, rg, th_ok, show wipeD (lgZ es ss st) [3, 4] = lgZ es ss st from rfl, lp, rs_nx]
  show finR st.length (.ok (Rf st.length) (st ++ [.lst ((lnI ss es.length).map .int)])) = _
  exact fin_list hs (Nat.le_refl _) (at_last _ _) ((layAll_iff _).mpr fun d hd => by obtain ⟨j, _, rfl⟩ := List.mem_map.mp hd; rfl)
theorem ix_lastT {ds : List Pv.D} {d : Pv.D} {st : Sto} (h : ds.getLast? = some d) : fIx (.tuple ds) (.int (-1)) st = .ok d st := by
  have pos : 0 < ds.length := by
    cases ds with
    | nil => cases h
    | cons a l => simp
  have e : dIx (.tuple ds) (.int (-1)) = some d := by
    show atI ds (-1) = _
    unfold atI ixN
    rw [if_neg (by omega), if_pos (by omega)]
    simp only [Option.bind_some]
    rw [← h, List.getLast?_eq_getElem?]
    congr 1
    omega
  unfold fIx dlook
  simp [e]
theorem q_is_one (hs : StC st) (h : stp n es = ss.map some) (hb : letB 0 es = true) (hz : es.length ≤ 900) {k : Nat} (hk : k < es.length) {l : List Nat} (C : ChnC es ss k l) : F__law_is_one [.tuple (es.map dEv), .list (ss.map dStamp), .tuple (dN l), .int (k : Int)] st = .ok (.bool true) st := by
  have hl := stp_len h
  have lz : l.length ≤ 901 := by
    have := C.len
    have nd : l.length ≤ es.length := by
      have := List.length_pos_iff.mpr C.ne
      have c0 := C.cnt
      -- counts are the places: all different
      have : (l.map (cntN ss)).Nodup := by
        rw [List.nodup_iff_pairwise_ne, List.pairwise_iff_getElem]
        intro i j hi hj hij e
        rw [List.length_map] at hi hj
        rw [List.getElem_map, List.getElem_map, c0 i hi, c0 j hj] at e
        omega
      have nd : l.Nodup := by
        rw [List.nodup_iff_pairwise_ne, List.pairwise_iff_getElem] at this ⊢
        intro i j hi hj hij e
        have := this i j (by rw [List.length_map]; exact hi) (by rw [List.length_map]; exact hj) hij
        rw [List.getElem_map, List.getElem_map, e] at this
        exact this rfl
      have := nodup_len nd C.lt
      omega
    omega
  let Z : Sl := [some (.tuple (es.map dEv)), some (.list (ss.map dStamp)), some (.tuple (dN l)), some (.int (k : Int)), none, none]
  have ln : (dN l).length = l.length := by unfold dN; rw [List.length_map]
  have lE : ∀ s, dLen (deref s (.tuple (es.map dEv))) = some (.int (es.length : Int)) := fun s => by show some (PyData.int ((es.map dEv).length : Int)) = _; rw [List.length_map]
  have lT : ∀ s, dLen (deref s (.tuple (dN l))) = some (.int (l.length : Int)) := fun s => by show some (PyData.int ((dN l).length : Int)) = _; rw [ln]
  have ne1 : dCmp .Eq (.tuple (dN l)) (.tuple []) = some (.bool false) := by
    rw [cmp_eq (show layOk (.tuple (dN l)) (.tuple []) = true by
      unfold layOk
      rw [show (PyData.tuple (dN l)).canLay0 = true from ints_layD l, show (PyData.tuple []).canLay0 = true from rfl, Bool.true_and, Bool.true_and, decide_eq_true_eq]
      have : (PyData.tuple []).depth ≤ 64 := by decide
      omega), eqv_nil_t]
    have := C.ne
    cases l with
    | nil => exact absurd rfl this
    | cons a l => rfl
  have mk0 : ∀ s, mkTup [] s = .ok (.tuple []) s := fun _ => if_pos (sz_le (show 0 ≤ 1000 by decide))
  have s1 : (sIf (mOrT (mNotT (mTru (mIsi .tuple (mVar 2)))) (mTb (mCmp .Eq (mVar 2) (mTup (msNil))))) (sRet (mC (.bool false))) (sNil)) Z st = .nx Z st := by
    show (sIf _ _ _) [some (.tuple (es.map dEv)), some (.list (ss.map dStamp)), some (.tuple (dN l)), some (.int (k : Int)), none, none] st = .nx [some (.tuple (es.map dEv)), some (.list (ss.map dStamp)), some (.tuple (dN l)), some (.int (k : Int)), none, none] st
    generalize dN l = L at *
    generalize ss.map dStamp = SS at *
    generalize es.map dEv = M at *
    have dt : ∀ ds s, deref s (.tuple ds) = .tuple ds := fun _ _ => rfl
    simp -implicitDefEqProofs [Ty.sub, mk0, ne1, dt]
  have l0 : forL always (tgName 4) l0__law_is_one [4] (l.map fun (j : Nat) => PyData.int (j : Int)) Z st = .nx Z st := by
    refine loop_at l _ fun j hj => ?_
    have hj' := C.lt j hj
    have q2 : dCmp .LtE (.int 0) (.int (j : Int)) = some (.bool true) := by rw [cmp_le_i, decide_eq_true (by omega)]
    have q3 : dCmp .Lt (.int (j : Int)) (.int (es.length : Int)) = some (.bool true) := by rw [cmp_lt_i, decide_eq_true (by omega)]
    refine ⟨[some (.tuple (es.map dEv)), some (.list (ss.map dStamp)), some (.tuple (dN l)), some (.int (k : Int)), some (.int (j : Int)), none], ?_, rfl⟩
    show l0__law_is_one [some (.tuple (es.map dEv)), some (.list (ss.map dStamp)), some (.tuple (dN l)), some (.int (k : Int)), some (.int (j : Int)), none] st = _
    have lI : (es.map dEv).length = es.length := List.length_map ..
    unfold l0__law_is_one
    generalize dN l = L at *
    generalize ss.map dStamp = SS at *
    generalize es.map dEv = M at *
    generalize (j : Int) = ji at *
    simp -implicitDefEqProofs [-cmp_lt_i, -cmp_le_i, Ty.sub, lE, lI, q2, q3]
  have last : (dN l).getLast? = some (.int (k : Int)) := by unfold dN; rw [List.getLast?_map, C.last]; rfl
  have il := fun s => ix_lastT (st := s) last
  have ng : dNeg (.int 1) = some (.int (-1)) := rfl
  have eqk : dCmp .NotEq (.int (k : Int)) (.int (k : Int)) = some (.bool false) := by
    show some (PyData.bool (!decide ((k : Int) = (k : Int)))) = _
    simp
  have s3 : (sIf (mTb (mCmp .NotEq (mIx (mVar 2) (mNeg (mC (.int 1)))) (mVar 3))) (sRet (mC (.bool false))) (sNil)) Z st = .nx Z st := by
    show (sIf _ _ _) [some (.tuple (es.map dEv)), some (.list (ss.map dStamp)), some (.tuple (dN l)), some (.int (k : Int)), none, none] st = .nx [some (.tuple (es.map dEv)), some (.list (ss.map dStamp)), some (.tuple (dN l)), some (.int (k : Int)), none, none] st
    generalize dN l = L at *
    generalize ss.map dStamp = SS at *
    generalize es.map dEv = M at *
    generalize (k : Int) = ki at *
    simp -implicitDefEqProofs [ng, il, eqk]
  have lc : mLc (mIter (mVar 2)) (.nm 4) (mTb (mCmp .NotEq (mIx (mIx (mVar 1) (mVar 4)) (mC (.int 0))) (mIx (mIx (mVar 1) (mVar 3)) (mC (.int 0))))) (mVar 4) [4] Z st = .ok (.list []) st := by
    have q := mLc_if (keep := always) (mi := mIter (mVar 2)) (t := .nm 4) (tt := mTb (mCmp .NotEq (mIx (mIx (mVar 1) (mVar 4)) (mC (.int 0))) (mIx (mIx (mVar 1) (mVar 3)) (mC (.int 0))))) (te := mVar 4) (vs := [4]) (sl := Z) (st := st) l (fun (j : Nat) => PyData.int (j : Int)) (fun (j : Nat) => PyData.int (j : Int)) (fun _ => false) rfl trivial (by omega) fun j hj => ⟨_, rfl, by
      have hj' := C.lt j hj
      have a1 := ss_at hl hj'
      have a2 := ss_at hl hk
      have b1 := stamp_0 (ss.getD j (0, 0))
      have b2 := stamp_0 (ss.getD k (0, 0))
      rw [C.mrk j hj] at b1
      have e : dCmp .NotEq (.int (ss.getD k (0, 0)).1) (.int (ss.getD k (0, 0)).1) = some (.bool false) := by
        show some (PyData.bool (!decide _)) = _
        simp
      show mTb _ [some (.tuple (es.map dEv)), some (.list (ss.map dStamp)), some (.tuple (dN l)), some (.int (k : Int)), some (.int (j : Int)), none] st = _
      generalize dStamp (ss.getD j (0, 0)) = s1 at *
      generalize dStamp (ss.getD k (0, 0)) = s2 at *
      generalize (ss.getD k (0, 0)).1 = m1 at *
      generalize dN l = L at *
      generalize ss.map dStamp = SS at *
      generalize es.map dEv = M at *
      simp -implicitDefEqProofs [a1, a2, b1, b2, e], fun hp => by cases hp⟩
    rw [q]; simp
  have nn : dCmp .NotEq (.list []) (.list []) = some (.bool false) := by
    rw [cmp_ne (by decide)]; rfl
  have s4 : (sIf (mTb (mCmp .NotEq (mLc (mIter (mVar 2)) (.nm 4) (mTb (mCmp .NotEq (mIx (mIx (mVar 1) (mVar 4)) (mC (.int 0))) (mIx (mIx (mVar 1) (mVar 3)) (mC (.int 0))))) (mVar 4) [4]) (mLst (msNil)))) (sRet (mC (.bool false))) (sNil)) Z st = .nx Z st := by
    have lc : mLc (mIter (mVar 2)) (.nm 4) (mTb (mCmp .NotEq (mIx (mIx (mVar 1) (mVar 4)) (mC (.int 0))) (mIx (mIx (mVar 1) (mVar 3)) (mC (.int 0))))) (mVar 4) [4] [some (.tuple (es.map dEv)), some (.list (ss.map dStamp)), some (.tuple (dN l)), some (.int (k : Int)), none, none] st = .ok (.list []) st := lc
    show (sIf _ _ _) [some (.tuple (es.map dEv)), some (.list (ss.map dStamp)), some (.tuple (dN l)), some (.int (k : Int)), none, none] st = .nx [some (.tuple (es.map dEv)), some (.list (ss.map dStamp)), some (.tuple (dN l)), some (.int (k : Int)), none, none] st
    have mkl : ∀ s, mkLst [] s = .ok (.list []) s := fun _ => if_pos (sz_le (show 0 ≤ 1000 by decide))
    have dl : ∀ ds s, deref s (.list ds) = .list ds := fun _ _ => rfl
    generalize dN l = L at *
    generalize ss.map dStamp = SS at *
    generalize es.map dEv = M at *
    simp -implicitDefEqProofs [lc, nn, mkl, dl]
  have l1 : forL always (tgName 5) l1__law_is_one [5] ((List.range' 1 (l.length - 1)).map fun (j : Nat) => PyData.int (j : Int)) Z st = .nx Z st := by
    refine loop_at (List.range' 1 (l.length - 1)) _ fun p hp => ?_
    have hp := List.mem_range'_1.mp hp
    have i1 : ∀ s, fIx (.tuple (dN l)) (.int ((p : Int) - 1)) s = .ok (.int (l[p - 1] : Nat)) s := fun s => by
      rw [show (p : Int) - 1 = ((p - 1 : Nat) : Int) by omega]
      exact ix_t (by unfold dN; rw [List.getElem?_map, List.getElem?_eq_getElem (by omega)]; rfl)
    have i2 : ∀ s, fIx (.tuple (dN l)) (.int (p : Int)) s = .ok (.int (l[p] : Nat)) s := fun s => ix_t (by unfold dN; rw [List.getElem?_map, List.getElem?_eq_getElem (by omega)]; rfl)
    have ql := q_lsteps (st := st) (es := es) (by omega) (C.lt l[p] (List.getElem_mem _))
    have stp1 := C.step (p - 1) (by omega)
    have qp : p - 1 + 1 = p := by omega
    simp only [qp] at stp1
    have nin : dCmp .NotIn (.int (l[p - 1] : Nat)) (.list ((causes es l[p]).map fun (j : Nat) => PyData.int (j : Int))) = some (.bool false) := by
      have hi := in_ints (causes es l[p]) l[p - 1]
      have : memN (causes es l[p]) l[p - 1] = true := by unfold memN; simpa using stp1
      rw [this] at hi
      have hi : obD (dIn (.int (l[p - 1] : Nat)) (.list ((causes es l[p]).map fun (j : Nat) => PyData.int (j : Int)))) = some (.bool true) := hi
      show obD ((dIn _ _).map (!·)) = _
      cases hd : dIn (.int (l[p - 1] : Nat)) (.list ((causes es l[p]).map fun (j : Nat) => PyData.int (j : Int))) with
      | none => rw [hd] at hi; cases hi
      | some b =>
        rw [hd] at hi
        cases b with
        | true => rfl
        | false => simp [obD] at hi
    have sbi : ∀ i : Int, ∀ s, lift (dInt2 (fun _ _ => true) (fun i j => PyData.int (i - j)) (.int i) (.int 1)) s = .ok (.int (i - 1)) s := fun _ _ => rfl
    refine ⟨[some (.tuple (es.map dEv)), some (.list (ss.map dStamp)), some (.tuple (dN l)), some (.int (k : Int)), none, some (.int (p : Int))], ?_, rfl⟩
    show l1__law_is_one [some (.tuple (es.map dEv)), some (.list (ss.map dStamp)), some (.tuple (dN l)), some (.int (k : Int)), none, some (.int (p : Int))] st = _
    unfold l1__law_is_one
    have dl : ∀ ds s, deref s (.list ds) = .list ds := fun _ _ => rfl
    generalize ((causes es l[p]).map fun (j : Nat) => PyData.int (j : Int)) = CS at *
    clear stp1
    generalize ((l[p - 1] : Nat) : Int) = lq at *
    generalize (l[p] : Nat) = lp at *
    generalize dN l = L at *
    generalize ss.map dStamp = SS at *
    generalize es.map dEv = M at *
    simp -implicitDefEqProofs [sbi, i1, i2, ql, nin, dl]
  have rg : mRng2 (mC (.int 1)) (mLen (mVar 2)) Z st = .ok ⟨(List.range' 1 (l.length - 1)).map fun (j : Nat) => PyData.int (j : Int), always⟩ st := rng2_at (i := 1) (j := l.length) rfl (by
    show lift (dLen (deref st (.tuple (dN l)))) st = _
    rw [lT]; rfl) (by decide) (by omega)
  have fin := fin_app (st := st) (more := []) (d := .bool true) hs rfl
  rw [List.append_nil] at fin
  unfold F__law_is_one b__law_is_one
  rw [fnP_e, show startD 6 [.tuple (es.map dEv), .list (ss.map dStamp), .tuple (dN l), .int (k : Int)] = Z from rfl, e_seq, s1, rs_nx, e_seq, e_for, show mIter (mVar 2) Z st = .ok ⟨l.map fun (j : Nat) => PyData.int (j : Int), always⟩ st from rfl, th_ok, show wipeD Z [4] = Z from rfl, l0, rs_nx, e_seq, s3, rs_nx, e_seq, s4, rs_nx, e_seq, e_for, rg, th_ok, show wipeD Z [5] = Z from rfl, l1, rs_nx]
  exact fin
end
end Gstampahead_k28_whole_longest_chains
set_option Elab.async false
set_option linter.all false
set_option maxRecDepth 100000
set_option maxHeartbeats 1000000
set_option pp.maxSteps 1500
namespace Gstampahead_k28_whole_longest_chains
open PySem PySem.Spec Pv
open L2 hiding keyOf
open PyProof.Rows hiding St signs cutD pairD
def uD (w : Str) : Pv.D := .tuple [.str "use", .str w, .int (-1)]
theorem u_k : Ok (uD "k") (2 ^ 10) 1 := ⟨by decide +kernel, by decide +kernel, by decide⟩
theorem pow59 : ∀ (sl : Sl) (st : Sto), mPow (mC (.int 10)) (mC (.int 59)) sl st = .ok (.int (10 ^ 59)) st := by
  intro sl st
  simp [dInt2]
section
variable {st : Sto} {n : Net} {es : List Ev} {ss : List Stamp}
def rZ (n : Net) (es : List Ev) (ss : List Stamp) (v4 v5 v6 v7 : Option Pv.D) : Sl := [some (dNet n), some (.tuple (es.map dEv)), some (.list (ss.map dStamp)), some (.list ((lnI ss es.length).map .int)), v4, v5, v6, v7, none]
theorem nn_ints (l : List Int) : dCmp .NotEq (.list (l.map PyData.int)) (.list (l.map PyData.int)) = some (.bool false) := by
  have lay : PyData.canLayAll0 (l.map PyData.int) = true := (layAll_iff _).mpr fun d hd => by obtain ⟨j, _, rfl⟩ := List.mem_map.mp hd; rfl
  have dp : PyData.depthAll (l.map PyData.int) ≤ 0 := (depthAll_le _ _).mpr fun d hd => by obtain ⟨j, _, rfl⟩ := List.mem_map.mp hd; exact Nat.le_refl _
  have key : ∀ l : List Int, PyData.eqvAll (l.map PyData.int) (l.map PyData.int) = true := fun l => by
    induction l with
    | nil => rfl
    | cons a l ih =>
      show ((a == a) && PyData.eqvAll (l.map PyData.int) (l.map PyData.int)) = true
      rw [ih]; simp
  rw [cmp_ne (show layOk _ _ = true by
    unfold layOk
    rw [show (PyData.list (l.map PyData.int)).canLay0 = true from lay, Bool.true_and, Bool.true_and, decide_eq_true_eq]
    show min (PyData.depthAll _ + 1) _ ≤ 64
    have : PyData.depthAll (l.map PyData.int) + 1 ≤ 64 := by omega
    exact Nat.le_trans (Nat.min_le_left _ _) this)]
  show some (PyData.bool (!PyData.eqvAll (l.map PyData.int) (l.map PyData.int))) = _
  rw [key]; rfl
theorem one_body {S : Sto} {dn : Pv.D} {M SS LI CL : List Pv.D} {ki : Int} {m : Nat} {C : List Pv.D} {A5 : Option Pv.D} (hC : C.length = m) (hm : m ≤ 1000)
    (io : F__law_is_one [.tuple M, .list SS, .tuple C, .int ki] S = .ok (.bool true) S) (ix : fIx (.list LI) (.int ki) S = .ok (.int (m : Int)) S)
    (lc : mLc (mIter (mVar 6)) (.nm 8) (tYesM) (mIx (mIx (mVar 2) (mVar 8)) (mC (.int 1))) [8] [some dn, some (.tuple M), some (.list SS), some (.list LI), some (.int ki), A5, some (.tuple C), none, none] S = .ok (.list ((List.range m).map fun (j : Nat) => PyData.int (j : Int))) S) (tb : Nat → Addr) :
    l0__law_is_right tb [some dn, some (.tuple M), some (.list SS), some (.list LI), some (.int ki), A5, some (.tuple C), none, none] S = .nx [some dn, some (.tuple M), some (.list SS), some (.list LI), some (.int ki), A5, some (.tuple C), none, none] S := by
  have lT : ∀ s, dLen (deref s (.tuple C)) = some (.int (m : Int)) := fun s => by show some (PyData.int (C.length : Int)) = _; rw [hC]
  have lT2 : (C.length : Int) = (m : Int) := by rw [hC]
  have eqm : dCmp .NotEq (.int (m : Int)) (.int (m : Int)) = some (.bool false) := by
    show some (PyData.bool (!decide ((m : Int) = (m : Int)))) = _
    simp
  have lr := listR_n (n := m) (st := S) (by omega)
  have nn := nn_ints ((List.range m).map fun (j : Nat) => (j : Int))
  rw [List.map_map] at nn
  have nn : dCmp .NotEq (.list ((List.range m).map fun (j : Nat) => PyData.int (j : Int))) (.list ((List.range m).map fun (j : Nat) => PyData.int (j : Int))) = some (.bool false) := nn
  have dl : ∀ ds s, deref s (.list ds) = .list ds := fun _ _ => rfl
  unfold l0__law_is_right
  generalize ((List.range m).map fun (j : Nat) => PyData.int (j : Int)) = RG at *
  generalize (m : Int) = mi at *
  simp -implicitDefEqProofs [io, lT, lT2, ix, eqm, lc, lr, nn, dl]
theorem q_spot (tb : Nat → Addr) (hs : StC st) (htb : tbOk st (tb 0) "longest_chain.<locals>.<lambda>" = true) (h : stp n es = ss.map some) (hb : letB 0 es = true) (hz : es.length ≤ 900) {k : Nat} (hk : k < es.length) :
    ∃ sl', (tgName 4 (.int (k : Int)) (rZ n es ss none none none none) st).thenS (l1__law_is_right tb) = .nx sl' st ∧ wipeD sl' [4, 5, 6] = rZ n es ss none none none none := by
  have hl := stp_len h
  have C := ch_ok h hb (k + 1) k (by omega) hk
  have ql := q_longest tb hs htb h hb hz hk
  have io := q_is_one hs h hb hz hk C
  obtain ⟨l, el⟩ : ∃ l, l = chF es ss (k + 1) k := ⟨_, rfl⟩
  rw [← el] at C ql io
  have lz : l.length ≤ 901 := by
    have := C.len
    have nd : l.Nodup := by
      rw [List.nodup_iff_pairwise_ne, List.pairwise_iff_getElem]
      intro i j hi hj hij e
      have a := C.cnt i hi
      have b := C.cnt j hj
      rw [e] at a
      omega
    have := nodup_len nd C.lt
    omega
  have ix : fIx (.list ((lnI ss es.length).map .int)) (.int (k : Int)) st = .ok (.int (l.length : Int)) st := ix_l (by
    unfold lnI
    rw [List.map_map, List.getElem?_map, List.getElem?_range hk]
    show some (PyData.int (1 + cntN ss k)) = _
    rw [C.len]
    congr 2
    omega)
  have pm3 : ∀ a b c : Pv.D, perm [2, 1, 0] [a, b, c] = [c, b, a] := fun a b c => rfl
  have lc : mLc (mIter (mVar 6)) (.nm 8) (tYesM) (mIx (mIx (mVar 2) (mVar 8)) (mC (.int 1))) [8] [some (dNet n), some (.tuple (es.map dEv)), some (.list (ss.map dStamp)), some (.list ((lnI ss es.length).map .int)), some (.int (k : Int)), some (.list [.tuple (dN l), .tuple (dN l)]), some (.tuple (dN l)), none, none] st = .ok (.list ((List.range l.length).map fun (j : Nat) => PyData.int (j : Int))) st := by
    have q := mLc_at (keep := always) (mi := mIter (mVar 6)) (t := .nm 8) (te := mIx (mIx (mVar 2) (mVar 8)) (mC (.int 1))) (vs := [8]) (sl := [some (dNet n), some (.tuple (es.map dEv)), some (.list (ss.map dStamp)), some (.list ((lnI ss es.length).map .int)), some (.int (k : Int)), some (.list [.tuple (dN l), .tuple (dN l)]), some (.tuple (dN l)), none, none]) (st := st) l (fun (j : Nat) => PyData.int (j : Int)) (fun j => PyData.int (cntN ss j)) rfl trivial (by omega) fun j hj => ⟨_, rfl, by
      have hj' := C.lt j hj
      have a1 := ss_at hl hj'
      have b1 := stamp_1 (ss.getD j (0, 0))
      show mIx _ _ [some (dNet n), some (.tuple (es.map dEv)), some (.list (ss.map dStamp)), some (.list ((lnI ss es.length).map .int)), some (.int (k : Int)), some (.list [.tuple (dN l), .tuple (dN l)]), some (.tuple (dN l)), none, some (.int (j : Int))] st = .ok (.int (ss.getD j (0, 0)).2) st
      generalize dStamp (ss.getD j (0, 0)) = s1 at *
      generalize dN l = L at *
      generalize ss.map dStamp = SS at *
      generalize es.map dEv = M at *
      simp -implicitDefEqProofs [a1, b1]⟩
    rw [q]
    congr 2
    apply List.ext_getElem
    · rw [List.length_map, List.length_map, List.length_range]
    · intro i h1 h2
      rw [List.length_map] at h1
      rw [List.getElem_map, List.getElem_map, List.getElem_range, C.cnt i h1]
  have body := one_body (S := st) (dn := dNet n) (M := es.map dEv) (SS := ss.map dStamp) (LI := (lnI ss es.length).map .int) (CL := []) (ki := (k : Int)) (m := l.length) (C := dN l) (A5 := some (.list [.tuple (dN l), .tuple (dN l)])) (by unfold dN; rw [List.length_map]) (by omega) io ix lc tb
  have lp : forL always (tgName 6) (l0__law_is_right tb) [6] [.tuple (dN l), .tuple (dN l)] (rZ n es ss (some (.int (k : Int))) (some (.list [.tuple (dN l), .tuple (dN l)])) none none) st = .nx (rZ n es ss (some (.int (k : Int))) (some (.list [.tuple (dN l), .tuple (dN l)])) none none) st := loop_all fun d hd => by
    have : d = .tuple (dN l) := by simpa using hd
    subst this
    exact ⟨_, body, rfl⟩
  have s1 : (sAsg (mLst (msCons (mCall (F_longest_chain tb) (msCons (mVar 0) (msCons (mVar 1) (msCons (mVar 4) (msNil))))) (msCons (mCall (fun ds => (F_longest_chain tb) (perm [2, 1, 0] ds)) (msCons (mVar 4) (msCons (mVar 1) (msCons (mVar 0) (msNil))))) (msNil)))) (tgName 5)) (rZ n es ss (some (.int (k : Int))) none none none) st = .nx (rZ n es ss (some (.int (k : Int))) (some (.list [.tuple (dN l), .tuple (dN l)])) none none) st := by
    unfold rZ
    generalize dN l = L at *
    generalize (lnI ss es.length).map PyData.int = LI at *
    generalize ss.map dStamp = SS at *
    generalize es.map dEv = M at *
    generalize dNet n = dn at *
    simp -implicitDefEqProofs [ql, pm3, mkLst, sz_le]
  refine ⟨rZ n es ss (some (.int (k : Int))) (some (.list [.tuple (dN l), .tuple (dN l)])) none none, ?_, rfl⟩
  have b0 : ∀ S (B : MS), (tgName 4 (.int (k : Int)) (rZ n es ss none none none none) S).thenS B = B (rZ n es ss (some (.int (k : Int))) none none none) S := fun S B => rfl
  rw [b0]
  unfold l1__law_is_right
  rw [e_seq, s1, rs_nx, e_for, show mIter (mVar 5) (rZ n es ss (some (.int (k : Int))) (some (.list [.tuple (dN l), .tuple (dN l)])) none none) st = .ok ⟨[.tuple (dN l), .tuple (dN l)], always⟩ st from rfl, th_ok, show wipeD (rZ n es ss (some (.int (k : Int))) (some (.list [.tuple (dN l), .tuple (dN l)])) none none) [6] = rZ n es ss (some (.int (k : Int))) (some (.list [.tuple (dN l), .tuple (dN l)])) none none from rfl, lp]
theorem q_odd (tb : Nat → Addr) (hs : StC st) (htb : tbOk st (tb 1) "_law_is_right.<locals>.<lambda>" = true) {x : Pv.D} (hx : Cl x) (hi : isIdx es.length x = false) :
    ∃ sl' L, (tgName 7 x (rZ n es ss none none none none) st).thenS (l2__law_is_right tb) = .nx sl' (st ++ [.lst L]) ∧ PyData.canLayAll0 L = true ∧ wipeD sl' [6, 7] = rZ n es ss none none none none := by
  have pm3 : ∀ a b c : Pv.D, perm [2, 1, 0] [a, b, c] = [c, b, a] := fun a b c => rfl
  have b1 : ∀ st, StC st → F_longest_chain tb [dNet n, .tuple (es.map dEv), x] st = .exc (useX "k") st := fun st hs => q_longX tb hs hx hi
  have sd : ∀ st, StC st → sF__law_said (.exc (useX "k") st) = .ok (uD "k") st := fun st hs => q_saidU hs "k" (-1) (by decide +kernel)
  have c1 : StC (st ++ [.lst [uD "k"]]) := hs.lst (by decide +kernel)
  have tbs := fun ds => (tbOk_app (st := st) (m := .lst ds) (P := tb 1) (q := "_law_is_right.<locals>.<lambda>") rfl).trans htb
  have r1 := (congrArg sF__law_said (b1 st hs)).trans (sd st hs)
  have r2 := (congrArg sF__law_said (b1 _ c1)).trans (sd _ c1)
  have same := q_same (st := st) (xs := [uD "k", uD "k"]) (k := 2) ((u_k.two u_k).mono (by decide) (Nat.le_refl _)) (by decide)
  have m2k : dMulS (.list [uD "k"]) (.int 2) = some (.list [uD "k", uD "k"]) := mul_lst (k := 2) (by decide) (by simp)
  have tk : (mTup (msCons (mC (.str "use")) (msCons (mC (.str "k")) (msCons (mNeg (mC (.int 1))) msNil)))) = mC (uD "k") := by
    funext sl st
    simp [dNeg, mkTup, sz_le, uD]
  refine ⟨rZ n es ss none none (some (Rf st.length)) (some x), [uD "k", uD "k"], ?_, by decide +kernel, rfl⟩
  have b0 : ∀ S (B : MS), (tgName 7 x (rZ n es ss none none none none) S).thenS B = B (rZ n es ss none none none (some x)) S := fun S B => rfl
  rw [b0]
  unfold l2__law_is_right rZ
  simp only [tk]
  generalize (lnI ss es.length).map PyData.int = LI at *
  generalize ss.map dStamp = SS at *
  generalize es.map dEv = M at *
  generalize dNet n = dn at *
  simp -implicitDefEqProofs [htb, r1, r2, tbs, mkLstM, sz_le, isLst_last, app_last, pm3, m2k, mkLst, same]
theorem q_right (tb : Nat → Addr) (hs : StC st) (htb0 : tbOk st (tb 0) "longest_chain.<locals>.<lambda>" = true) (htb : tbOk st (tb 1) "_law_is_right.<locals>.<lambda>" = true) (h : stp n es = ss.map some) (hb : letB 0 es = true) (hl : es.length ≤ 60) :
    F__law_is_right tb [dNet n, .tuple (es.map dEv)] st = .ok (.bool true) st := by
  have qs := q_lstamps (n := n) hs (es := es) hb (by omega)
  have so : stOut n es = .list (ss.map dStamp) := by unfold stOut; rw [h, allS_some]
  rw [so] at qs
  have qlen := q_lengths (st := st) hs h hb (by omega)
  let Z : Sl := rZ n es ss none none none none
  have lm : ∀ s, dLen (deref s (.tuple (es.map dEv))) = some (.int (es.length : Int)) := fun s => by show some (PyData.int ((es.map dEv).length : Int)) = _; rw [List.length_map]
  have lp1 : forL always (tgName 4) (l1__law_is_right tb) [4, 5, 6] ((List.range es.length).map fun (j : Nat) => PyData.int (j : Int)) Z st = .nx Z st :=
    loop_at (List.range es.length) _ fun k hk => q_spot tb hs htb0 h hb (by omega) (List.mem_range.mp hk)
  have rg : mRng1 (mLen (mVar 1)) Z st = .ok ⟨(List.range es.length).map fun (j : Nat) => PyData.int (j : Int), always⟩ st := rng1_at (by
    show lift (dLen (deref st (.tuple (es.map dEv)))) st = _
    rw [lm]; rfl) (by omega)
  let odd : List Pv.D := [.none, .bool true, .bool false, .int (-1), .int (es.length : Int), .int ((es.length : Int) + 9), .int (10 ^ 59), .str "0", .tuple [.int 0], .list [.int 0]]
  have hodd : ∀ x ∈ odd, Cl x ∧ isIdx es.length x = false := by
    intro x hx
    simp only [odd, List.mem_cons, List.not_mem_nil, or_false] at hx
    rcases hx with rfl | rfl | rfl | rfl | rfl | rfl | rfl | rfl | rfl | rfl
    · exact ⟨⟨rfl, by decide, by decide⟩, rfl⟩
    · exact ⟨⟨rfl, by decide, by decide⟩, rfl⟩
    · exact ⟨⟨rfl, by decide, by decide⟩, rfl⟩
    · exact ⟨cl_int (by decide), idx_no (.inl (by decide))⟩
    · exact ⟨cl_int (by omega), idx_no (.inr (Int.le_refl _))⟩
    · exact ⟨cl_int (by omega), idx_no (.inr (by omega))⟩
    · exact ⟨cl_int (by decide), idx_no (.inr (by omega))⟩
    · exact ⟨⟨by decide +kernel, by decide +kernel, by decide⟩, rfl⟩
    · exact ⟨⟨rfl, by decide +kernel, by decide⟩, rfl⟩
    · exact ⟨⟨rfl, by decide +kernel, by decide⟩, rfl⟩
  obtain ⟨sl', st', e, h1, more, h2, h3, h4⟩ := forL_inv (keep := always) (tg := tgName 7) (body := l2__law_is_right tb) (fg := [6, 7]) (fun k sl st' => sl = Z ∧ ∃ more, st' = st ++ more ∧ StC (st ++ more) ∧ tbOk (st ++ more) (tb 1) "_law_is_right.<locals>.<lambda>" = true) 10 (fun _ => trivial) (ds := odd) (k := 0) (sl := Z) (st := st) (by simp [odd]) ⟨rfl, [], by simp, by simpa using hs, by simpa using htb⟩ (by
    rintro d k sl st' hd hk ⟨rfl, more, rfl, c1, c2⟩
    obtain ⟨a, b⟩ := hodd d hd
    obtain ⟨sl', L, q1, q2, q3⟩ := q_odd (n := n) (ss := ss) tb c1 c2 a b
    refine ⟨sl', _, q1, q3, more ++ [.lst L], by rw [List.append_assoc], ?_, ?_⟩
    · rw [← List.append_assoc]; exact c1.lst q2
    · rw [← List.append_assoc, tbOk_app rfl]; exact c2)
  subst h1; subst h2
  have ng : dNeg (.int 1) = some (.int (-1)) := rfl
  have adi : ∀ i j : Int, ∀ s, fAdd (.int i) (.int j) s = .ok (.int (i + j)) s := fun _ _ _ => rfl
  have it : mIter (mLst (msCons (mC .none) (msCons (mC (.bool true)) (msCons (mC (.bool false)) (msCons (mNeg (mC (.int 1))) (msCons (mLen (mVar 1)) (msCons (mAdd (mLen (mVar 1)) (mC (.int 9))) (msCons (mPow (mC (.int 10)) (mC (.int 59))) (msCons (mC (.str "0")) (msCons (mTup (msCons (mC (.int 0)) (msNil))) (msCons (mLst (msCons (mC (.int 0)) (msNil))) (msNil)))))))))))) Z st = .ok ⟨odd, always⟩ st := by
    have lI : ((es.map dEv).length : Int) = (es.length : Int) := by rw [List.length_map]
    show mIter _ [some (dNet n), some (.tuple (es.map dEv)), some (.list (ss.map dStamp)), some (.list ((lnI ss es.length).map .int)), none, none, none, none, none] st = .ok ⟨[.none, .bool true, .bool false, .int (-1), .int (es.length : Int), .int ((es.length : Int) + 9), .int (10 ^ 59), .str "0", .tuple [.int 0], .list [.int 0]], always⟩ st
    have so : ∀ ds s, srcOf (.list ds) s = .ok ⟨ds, always⟩ s := fun _ _ => rfl
    have p9 := pow59
    generalize (lnI ss es.length).map PyData.int = LI at *
    generalize ss.map dStamp = SS at *
    generalize es.map dEv = M at *
    generalize dNet n = dn at *
    generalize (es.length : Int) = li at *
    simp -implicitDefEqProofs [-e_pow, p9, ng, lm, lI, adi, mkTup, mkLst, sz_le, so]
  have s1 : (sAsg (mCall F__law_stamps (msCons (mVar 0) (msCons (mVar 1) (msNil)))) (tgName 2)) (startD 9 [dNet n, .tuple (es.map dEv)]) st = .nx [some (dNet n), some (.tuple (es.map dEv)), some (.list (ss.map dStamp)), none, none, none, none, none, none] st := by
    generalize ss.map dStamp = SS at *
    generalize es.map dEv = M at *
    generalize dNet n = dn at *
    simp -implicitDefEqProofs [startD, qs]
  have s2 : (sAsg (mCall F__law_lengths (msCons (mVar 1) (msCons (mVar 2) (msNil)))) (tgName 3)) [some (dNet n), some (.tuple (es.map dEv)), some (.list (ss.map dStamp)), none, none, none, none, none, none] st = .nx Z st := by
    show _ = RS.nx [some (dNet n), some (.tuple (es.map dEv)), some (.list (ss.map dStamp)), some (.list ((lnI ss es.length).map .int)), none, none, none, none, none] st
    generalize (lnI ss es.length).map PyData.int = LI at *
    generalize ss.map dStamp = SS at *
    generalize es.map dEv = M at *
    generalize dNet n = dn at *
    simp -implicitDefEqProofs [qlen]
  unfold F__law_is_right b__law_is_right
  rw [fnP_e, e_seq, s1, rs_nx, e_seq, s2, rs_nx, e_seq, e_for, rg, th_ok, show wipeD Z [4, 5, 6] = Z from rfl, lp1, rs_nx, e_seq, e_for, it, th_ok, show wipeD Z [6, 7] = Z from rfl, e, rs_nx]
  exact fin_app hs rfl
end
end Gstampahead_k28_whole_longest_chains
set_option Elab.async false
set_option linter.all false
set_option maxRecDepth 100000
set_option maxHeartbeats 1000000
set_option pp.maxSteps 1500
namespace Gstampahead_k28_whole_longest_chains
open PySem PySem.Spec Pv
open L2 hiding keyOf
open PyProof.Rows hiding St signs cutD pairD
def withR (n : Net) (m : Option Int) (r : Str) : Net := ⟨n.hosts, n.roads, m, r⟩
def dRest (x : Option Int × Str) : Pv.D := .tuple [dOpt x.1, .str x.2]
section
variable {st : Sto} {n : Net}
theorem q_rest (tb : Nat → Addr) (hs : StC st) (htb0 : tbOk st (tb 0) "longest_chain.<locals>.<lambda>" = true) (htb : tbOk st (tb 1) "_law_is_right.<locals>.<lambda>" = true) {es : List Ev} (hb : letB 0 es = true) (hl : es.length ≤ 60) (x : Option Int × Str) (a0 a1 a2 a5 : Option Pv.D) :
    ∃ sl', (tgName 6 (dRest x) [a0, a1, a2, some (dNet n), some (.tuple (es.map dEv)), a5, none, none] st).thenS (l0_law tb) = .nx sl' st ∧ wipeD sl' [6, 7] = [a0, a1, a2, some (dNet n), some (.tuple (es.map dEv)), a5, none, none] := by
  have cut : ∀ st, fSl none (some 2) (dNet n) st = .ok (.tuple [.tuple (n.hosts.map dHost), .tuple (n.roads.map dRoad)]) st := fun _ => rfl
  have add : ∀ st, fAdd (.tuple [.tuple (n.hosts.map dHost), .tuple (n.roads.map dRoad)]) (dRest x) st = .ok (dNet (withR n x.1 x.2)) st := fun st => by
    unfold dRest
    rw [add_tt]
    unfold dAddT
    rw [if_pos (sz_le (by simp))]; rfl
  have qs := q_lstamps (n := withR n x.1 x.2) hs (es := es) hb (by omega)
  refine ⟨[a0, a1, a2, some (dNet n), some (.tuple (es.map dEv)), a5, some (dRest x), some (dNet (withR n x.1 x.2))], ?_, rfl⟩
  have b0 : ∀ S (B : MS), (tgName 6 (dRest x) [a0, a1, a2, some (dNet n), some (.tuple (es.map dEv)), a5, none, none] S).thenS B = B [a0, a1, a2, some (dNet n), some (.tuple (es.map dEv)), a5, some (dRest x), none] S := fun S B => rfl
  rw [b0]
  unfold l0_law
  unfold stOut at qs
  cases ha : allS (stp (withR n x.1 x.2) es) with
  | none =>
    rw [ha] at qs
    have isn : isNone PyData.none = true := rfl
    generalize dNet (withR n x.1 x.2) = dw at *
    generalize dRest x = dr at *
    generalize dNet n = dn at *
    generalize es.map dEv = M at *
    simp -implicitDefEqProofs [cut, add, qs, isn]
  | some ss =>
    rw [ha] at qs
    have q := q_right tb hs htb0 htb (allS_eq ha) hb hl
    have isn : ∀ l : List Pv.D, isNone (.list l) = false := fun _ => rfl
    generalize dNet (withR n x.1 x.2) = dw at *
    generalize dRest x = dr at *
    generalize dNet n = dn at *
    generalize es.map dEv = M at *
    simp -implicitDefEqProofs [cut, add, qs, q, isn]
def T0 (tb : Nat → Addr) : Sto := [.tb (tb 0) "longest_chain.<locals>.<lambda>", .tb (tb 1) "_law_is_right.<locals>.<lambda>"]
theorem T0_clean (tb : Nat → Addr) : StC (T0 tb) := StC.tb (StC.tb StC.nil)
theorem q_lap1 {cs : List Pv.D} (tb : Nat → Addr) (hd : tb 0 ≠ tb 1) (hcs : IntsD cs) (hcl : cs.length ≤ 63) (lap : Pv.D) (a0 : Option Pv.D) (sp lf dr : Int) :
    ∃ sl' sp' lf' dr', (tgName 2 lap [a0, some (Rf 2), none, none, none, none, none, none] (T0 tb ++ [fd cs sp lf dr])).thenS (l1_law tb) = .nx sl' (T0 tb ++ [fd cs sp' lf' dr']) ∧ wipeD sl' [2, 3, 4, 5, 6, 7] = [a0, some (Rf 2), none, none, none, none, none, none] := by
  have hQ := T0_clean tb
  obtain ⟨n, sp1, lf1, dr1, hnet, hN⟩ := q_net (pre := T0 tb) hcs hcl hQ sp lf dr
  obtain ⟨r2, sp2, lf2, dr2, hd2, r20, r21⟩ := q_draw (pre := T0 tb) (st := []) (sp := sp1) (lf := lf1) (dr := dr1) (m := 12) hcs hcl (by decide) (by decide)
  have hd2' : F__law_draw [Rf 2, .int 12] (T0 tb ++ [fd cs sp1 lf1 dr1]) = .ok (.int r2) (T0 tb ++ [fd cs sp2 lf2 dr2]) := hd2
  obtain ⟨size, sp3, lf3, dr3, hz, hsz⟩ : ∃ (size : Nat) (sp3 lf3 dr3 : Int), size ≤ 40 ∧ ∀ a3 a4 a5 a6 a7 : Option Pv.D, mIf (mTb (mCmp .Gt (mCall F__law_draw (msCons (mVar 1) (msCons (mC (.int 12)) (msNil)))) (mC (.int 0)))) (mCall F__law_draw (msCons (mVar 1) (msCons (mC (.int 17)) (msNil)))) (mC (.int 40)) [a0, some (Rf 2), some lap, a3, a4, a5, a6, a7] (T0 tb ++ [fd cs sp1 lf1 dr1]) = .ok (.int (size : Int)) (T0 tb ++ [fd cs sp3 lf3 dr3]) := by
    by_cases hr : 0 < r2
    · obtain ⟨r3, sp3, lf3, dr3, hd3, r30, r31⟩ := q_draw (pre := T0 tb) (st := []) (sp := sp2) (lf := lf2) (dr := dr2) (m := 17) hcs hcl (by decide) (by decide)
      have hd3' : F__law_draw [Rf 2, .int 17] (T0 tb ++ [fd cs sp2 lf2 dr2]) = .ok (.int r3) (T0 tb ++ [fd cs sp3 lf3 dr3]) := hd3
      obtain ⟨z, hz⟩ : ∃ z : Nat, r3 = (z : Int) := ⟨_, (Int.toNat_of_nonneg r30).symm⟩
      subst hz
      refine ⟨z, sp3, lf3, dr3, by omega, fun a3 a4 a5 a6 a7 => ?_⟩
      generalize T0 tb ++ [fd cs sp1 lf1 dr1] = S1 at *
      generalize T0 tb ++ [fd cs sp2 lf2 dr2] = S2 at *
      generalize T0 tb ++ [fd cs sp3 lf3 dr3] = S3 at *
      simp -implicitDefEqProofs [hd2', hr, hd3']
    · refine ⟨40, sp2, lf2, dr2, by decide, fun a3 a4 a5 a6 a7 => ?_⟩
      generalize T0 tb ++ [fd cs sp1 lf1 dr1] = S1 at *
      generalize T0 tb ++ [fd cs sp2 lf2 dr2] = S2 at *
      simp -implicitDefEqProofs [hd2', hr]
  obtain ⟨run, ss, tick, sp4, lf4, dr4, hlot, hI⟩ := q_lot (pre := T0 tb) (n := n) hcs hcl hQ hN (size := size) (by omega) sp3 lf3 dr3
  have rl := hI.len
  let S4 : Sto := T0 tb ++ [fd cs sp4 lf4 dr4]
  have hnet' : F__law_net [Rf 2] (T0 tb ++ [fd cs sp lf dr]) = .ok (dNet n) (T0 tb ++ [fd cs sp1 lf1 dr1]) := hnet
  have hlot' : F__law_lot [Rf 2, dNet n, .int (size : Int)] (T0 tb ++ [fd cs sp3 lf3 dr3]) = .ok (.tuple (run.map dEv)) S4 := hlot
  have hS4 : StC S4 := fun g => fzS_app (hQ g) (fd_ok hcs)
  have n1 : ¬ tb 1 = tb 0 := fun e => hd e.symm
  have n0 : ¬ tb 0 = tb 1 := hd
  have ht0 : tbOk S4 (tb 0) "longest_chain.<locals>.<lambda>" = true := by unfold tbOk; simp [S4, T0, tbs, fd, n0, n1]
  have ht1 : tbOk S4 (tb 1) "_law_is_right.<locals>.<lambda>" = true := by unfold tbOk; simp [S4, T0, tbs, fd, n0, n1]
  have evs := hI.evS hN (by omega)
  have cut2 : ∀ st, fSl (some 2) none (dNet n) st = .ok (.tuple [dOpt n.most, .str n.rule]) st := fun _ => rfl
  have runOk := run_ok evs (c := 62) (by omega)
  have r2' : ∀ st, reprF st (.list [dNet n, .tuple (run.map dEv)]) = some (.str (PyData.list [dNet n, .tuple (run.map dEv)]).shown) := fun st => reprF_clean ((hN.sized.mono (Nat.le_refl _) (by decide : 4 ≤ 4)).two (runOk.mono (Nat.le_refl _) (by decide))) (by decide) (by decide)
  obtain ⟨z, hz⟩ : ∃ z, z = (PyData.list [dNet n, .tuple (run.map dEv)]).shown := ⟨_, rfl⟩
  rw [← hz] at r2'
  have nez : dCmp .NotEq (.str z) (.str z) = some (.bool false) := by simp [dCmp, dEqB, obD]
  let rests : List (Option Int × Str) := [(n.most, n.rule), (some 0, "more"), (some 1, "more"), (some 3, "more"), (none, "wait")]
  have lp := loop_at (st := S4) (fg := [6, 7]) (tg := tgName 6) (body := l0_law tb) (sl := [a0, some (Rf 2), some lap, some (dNet n), some (.tuple (run.map dEv)), some (.str z), none, none]) rests dRest fun x hx => q_rest tb hS4 ht0 ht1 hI.let_ (by omega) x a0 (some (Rf 2)) (some lap) (some (.str z))
  have s1 : (sAsg (mCall F__law_net (msCons (mVar 1) (msNil))) (tgName 3)) [a0, some (Rf 2), some lap, none, none, none, none, none] (T0 tb ++ [fd cs sp lf dr]) = .nx [a0, some (Rf 2), some lap, some (dNet n), none, none, none, none] (T0 tb ++ [fd cs sp1 lf1 dr1]) := by
    generalize T0 tb ++ [fd cs sp lf dr] = S0 at *
    generalize T0 tb ++ [fd cs sp1 lf1 dr1] = S1 at *
    generalize dNet n = dn at *
    simp -implicitDefEqProofs [hnet']
  have hsz' := hsz (some (dNet n)) none none none none
  have s2 : (sAsg (mCall F__law_lot (msCons (mVar 1) (msCons (mVar 3) (msCons (mIf (mTb (mCmp .Gt (mCall F__law_draw (msCons (mVar 1) (msCons (mC (.int 12)) (msNil)))) (mC (.int 0)))) (mCall F__law_draw (msCons (mVar 1) (msCons (mC (.int 17)) (msNil)))) (mC (.int 40))) (msNil))))) (tgName 4)) [a0, some (Rf 2), some lap, some (dNet n), none, none, none, none] (T0 tb ++ [fd cs sp1 lf1 dr1]) = .nx [a0, some (Rf 2), some lap, some (dNet n), some (.tuple (run.map dEv)), none, none, none] S4 := by
    generalize S4 = S5 at *
    generalize T0 tb ++ [fd cs sp1 lf1 dr1] = S1 at *
    generalize T0 tb ++ [fd cs sp3 lf3 dr3] = S3 at *
    generalize run.map dEv = M at *
    generalize dNet n = dn at *
    simp -implicitDefEqProofs [-e_if, hsz', hlot']
  have rp : ∀ s, mReprF (mLst (msCons (mVar 3) (msCons (mVar 4) (msNil)))) [a0, some (Rf 2), some lap, some (dNet n), some (.tuple (run.map dEv)), s, none, none] S4 = .ok (.str z) S4 := fun s => by
    have ml : mkLst [dNet n, .tuple (run.map dEv)] S4 = .ok (.list [dNet n, .tuple (run.map dEv)]) S4 := if_pos (sz_le (show 2 ≤ 1000 by decide))
    have l1 : mLst (msCons (mVar 3) (msCons (mVar 4) (msNil))) [a0, some (Rf 2), some lap, some (dNet n), some (.tuple (run.map dEv)), s, none, none] S4 = .ok (.list [dNet n, .tuple (run.map dEv)]) S4 := ml
    show ((mLst _ _ S4).bind fun d st => lift (reprF st d) st) = _
    rw [l1, R.bind_ok, r2']; rfl
  have s3 : (sAsg (mReprF (mLst (msCons (mVar 3) (msCons (mVar 4) (msNil))))) (tgName 5)) [a0, some (Rf 2), some lap, some (dNet n), some (.tuple (run.map dEv)), none, none, none] S4 = .nx [a0, some (Rf 2), some lap, some (dNet n), some (.tuple (run.map dEv)), some (.str z), none, none] S4 := by
    rw [e_asg, rp]; rfl
  have mk2 : ∀ a b s, mkTup [a, b] s = .ok (.tuple [a, b]) s := fun _ _ _ => if_pos (sz_le (show 2 ≤ 1000 by decide))
  have mk5 : ∀ a b c d e s, mkLst [a, b, c, d, e] s = .ok (.list [a, b, c, d, e]) s := fun _ _ _ _ _ _ => if_pos (sz_le (show 5 ≤ 1000 by decide))
  have it : mIter (mLst (msCons (mSl (mVar 3) (moSome (mC (.int 2))) (moNone)) (msCons (mTup (msCons (mC (.int 0)) (msCons (mC (.str "more")) (msNil)))) (msCons (mTup (msCons (mC (.int 1)) (msCons (mC (.str "more")) (msNil)))) (msCons (mTup (msCons (mC (.int 3)) (msCons (mC (.str "more")) (msNil)))) (msCons (mTup (msCons (mC .none) (msCons (mC (.str "wait")) (msNil)))) (msNil))))))) [a0, some (Rf 2), some lap, some (dNet n), some (.tuple (run.map dEv)), some (.str z), none, none] S4 = .ok ⟨rests.map dRest, always⟩ S4 := by
    show _ = Pv.R.ok (⟨[.tuple [dOpt n.most, .str n.rule], .tuple [.int 0, .str "more"], .tuple [.int 1, .str "more"], .tuple [.int 3, .str "more"], .tuple [.none, .str "wait"]], always⟩ : Src) S4
    have so : ∀ ds s, srcOf (.list ds) s = .ok ⟨ds, always⟩ s := fun _ _ => rfl
    generalize S4 = S5 at *
    generalize dNet n = dn at *
    simp -implicitDefEqProofs [cut2, mk2, mk5, so]
  have s5 : (sIf (mTb (mCmp .NotEq (mReprF (mLst (msCons (mVar 3) (msCons (mVar 4) (msNil))))) (mVar 5))) (sRet (mC (.bool false))) (sNil)) [a0, some (Rf 2), some lap, some (dNet n), some (.tuple (run.map dEv)), some (.str z), none, none] S4 = .nx [a0, some (Rf 2), some lap, some (dNet n), some (.tuple (run.map dEv)), some (.str z), none, none] S4 := by
    have rp := rp (some (.str z))
    have ds : ∀ s, deref s (.str z) = .str z := fun _ => rfl
    rw [e_sif, e_tb, e_cmp, rp]
    generalize S4 = S5 at *
    generalize run.map dEv = M at *
    generalize dNet n = dn at *
    simp -implicitDefEqProofs [nez]
  refine ⟨[a0, some (Rf 2), some lap, some (dNet n), some (.tuple (run.map dEv)), some (.str z), none, none], sp4, lf4, dr4, ?_, rfl⟩
  have b0 : ∀ S (B : MS), (tgName 2 lap [a0, some (Rf 2), none, none, none, none, none, none] S).thenS B = B [a0, some (Rf 2), some lap, none, none, none, none, none] S := fun S B => rfl
  rw [b0]
  unfold l1_law
  rw [e_seq, s1, rs_nx, e_seq, s2, rs_nx, e_seq, s3, rs_nx, e_seq, e_for, it, th_ok, show wipeD [a0, some (Rf 2), some lap, some (dNet n), some (.tuple (run.map dEv)), some (.str z), none, none] [6, 7] = [a0, some (Rf 2), some lap, some (dNet n), some (.tuple (run.map dEv)), some (.str z), none, none] from rfl, lp, rs_nx, s5]
theorem law_ok (tb : Nat → Addr) (hd : ∀ i < 2, ∀ j < 2, tb i = tb j → i = j) : ∀ ns : List Int, ns.length ≤ 63 → ∃ st, F_law tb [Gs (ns.map .int)] [.tb (tb 0) "longest_chain.<locals>.<lambda>", .tb (tb 1) "_law_is_right.<locals>.<lambda>"] = .ok (.bool true) st := by
  intro ns hns
  have hcs := ints_ns ns
  have hne : tb 0 ≠ tb 1 := fun e => absurd (hd 0 (by decide) 1 (by decide) e) (by decide)
  have hcl : (ns.map PyData.int).length ≤ 63 := by rw [List.length_map]; exact hns
  have hf := q_feed hns (T0 tb)
  let Z : Sl := [some (Gs (ns.map .int)), some (Rf 2), none, none, none, none, none, none]
  obtain ⟨sl', st', e, h1, sp, lf, dr, h2⟩ := forL_inv (keep := always) (tg := tgName 2) (body := l1_law tb) (fg := [2, 3, 4, 5, 6, 7]) (fun k sl st => sl = Z ∧ ∃ sp lf dr, st = T0 tb ++ [fd (ns.map .int) sp lf dr]) 4 (fun _ => trivial) (ds := (List.range 4).map fun (j : Nat) => PyData.int (j : Int)) (k := 0) (sl := Z) (st := T0 tb ++ [fd (ns.map .int) 0 0 0]) (by simp) ⟨rfl, 0, 0, 0, rfl⟩ (by
    rintro d k sl st hd' hk ⟨rfl, sp, lf, dr, rfl⟩
    obtain ⟨sl', sp', lf', dr', q1, q2⟩ := q_lap1 tb hne hcs hcl d (some (Gs (ns.map .int))) sp lf dr
    exact ⟨sl', _, q1, q2, sp', lf', dr', rfl⟩)
  subst h1; subst h2
  have rg : mRng1 (mC (.int 4)) Z (T0 tb ++ [fd (ns.map .int) 0 0 0]) = .ok ⟨(List.range 4).map fun (j : Nat) => PyData.int (j : Int), always⟩ (T0 tb ++ [fd (ns.map .int) 0 0 0]) := rng1_at (k := 4) (by simp) (by decide)
  have hf' : F__law_feed [Gs (ns.map .int)] (T0 tb) = .ok (Rf 2) (T0 tb ++ [fd (ns.map .int) 0 0 0]) := hf
  refine ⟨T0 tb, ?_⟩
  unfold F_law b_law
  rw [fnP_e]
  have hd0 : sAsg (mCall F__law_feed (msCons (mVar 0) (msNil))) (tgName 1) (startD 8 [Gs (ns.map .int)]) (T0 tb) = .nx Z (T0 tb ++ [fd (ns.map .int) 0 0 0]) := by
    generalize T0 tb = T at *
    simp -implicitDefEqProofs [startD, hf']
    rfl
  rw [show ([.tb (tb 0) "longest_chain.<locals>.<lambda>", .tb (tb 1) "_law_is_right.<locals>.<lambda>"] : Sto) = T0 tb from rfl, e_seq, hd0, rs_nx, e_seq, e_for, rg, th_ok, show wipeD Z [2, 3, 4, 5, 6, 7] = Z from rfl, e, rs_nx]
  exact fin_app (T0_clean tb) rfl
end
end Gstampahead_k28_whole_longest_chains
set_option Elab.async false
set_option linter.all false
set_option maxRecDepth 100000
set_option maxHeartbeats 400000
namespace Gstampahead_k28_whole_longest_chains
open PySem PySem.Spec L2 Pv LamX
open PyProof.Rows hiding St
def top (i : Nat) : Stmt := PySem.Challenge.pw_stampahead_k28_whole_longest_chains.main.body.getD i (.Pass ⟨0, 0, 0, 0⟩)
abbrev s__law_feed : Stmt := top 26
abbrev s__law_draw : Stmt := top 27
abbrev s__law_any : Stmt := top 28
abbrev s__law_net : Stmt := top 31
abbrev s__law_letters : Stmt := top 36
abbrev s__law_before : Stmt := top 33
abbrev s__law_steps : Stmt := top 34
abbrev s__law_stamp : Stmt := top 32
abbrev s__law_lot : Stmt := top 37
abbrev s__law_stamps : Stmt := top 35
abbrev s__law_lengths : Stmt := top 38
abbrev s_want : Stmt := top 20
abbrev s_is_integer : Stmt := top 1
abbrev s_is_number : Stmt := top 2
abbrev s_is_index : Stmt := top 8
abbrev s_next_stamp : Stmt := top 4
abbrev s_stamps_by : Stmt := top 6
abbrev s_last_by : Stmt := top 5
abbrev s_causes_of : Stmt := top 22
abbrev s_longest_chain : Stmt := top 24
abbrev s__law_is_one : Stmt := top 39
abbrev s__law_said : Stmt := top 30
abbrev s__law_same : Stmt := top 29
abbrev s__law_is_right : Stmt := top 40
abbrev s_law : Stmt := top 41
abbrev i_NotUsable : Stmt := initOf (top 16)
structure Tx (P : Program) (w : World) (K : PySem.W.Frag) (mg : Str → Option Value) (cc : Nat → Addr) : Prop where
  d__law_feed : DefB K mg "_law_feed" s__law_feed ["_law_script"] (fun fd => True)
  d__law_draw : DefB K mg "_law_draw" s__law_draw ["_law_feed_here", "_law_size"] (fun fd => True)
  d__law_any : DefB K mg "_law_any" s__law_any ["_law_feed_here", "_law_some"] (fun fd => True)
  d__law_net : DefB K mg "_law_net" s__law_net ["_law_feed_here"] (fun fd => True)
  d__law_letters : DefB K mg "_law_letters" s__law_letters ["_law_net_here", "_law_lot_here", "_law_title", "_law_tick"] (fun fd => True)
  d__law_before : DefB K mg "_law_before" s__law_before ["_law_lot_here", "_law_spot"] (fun fd => True)
  d__law_steps : DefB K mg "_law_steps" s__law_steps ["_law_lot_here", "_law_spot"] (fun fd => True)
  d__law_stamp : DefB K mg "_law_stamp" s__law_stamp ["_law_net_here", "_law_near", "_law_reading"] (fun fd => True)
  d__law_lot : DefB K mg "_law_lot" s__law_lot ["_law_feed_here", "_law_net_here", "_law_size"] (fun fd => True)
  d__law_stamps : DefB K mg "_law_stamps" s__law_stamps ["_law_net_here", "_law_lot_here"] (fun fd => True)
  d__law_lengths : DefB K mg "_law_lengths" s__law_lengths ["_law_lot_here", "_law_stamps_here"] (fun fd => True)
  d_want : DefB K mg "want" s_want ["is_right", "word"] (fun fd => True)
  d_is_integer : DefB K mg "is_integer" s_is_integer ["thing"] (fun fd => True)
  d_is_number : DefB K mg "is_number" s_is_number ["thing"] (fun fd => True)
  d_is_index : DefB K mg "is_index" s_is_index ["run", "thing"] (fun fd => True)
  d_next_stamp : DefB K mg "next_stamp" s_next_stamp ["cluster", "last", "heard", "reading"] (fun fd => True)
  d_stamps_by : DefB K mg "stamps_by" s_stamps_by ["cluster", "run"] (fun fd => True)
  d_last_by : DefB K mg "last_by" s_last_by ["run", "k"] (fun fd => True)
  d_causes_of : DefB K mg "causes_of" s_causes_of ["run", "k"] (fun fd => True)
  d_longest_chain : DefC K mg "longest_chain" s_longest_chain ["cluster", "run", "k"] (cc 0) (fun fd => BindsK K fd ["cluster", "run", "k"] ["k", "run", "cluster"] (perm [2, 1, 0]) ∧ True)
  d__law_is_one : DefB K mg "_law_is_one" s__law_is_one ["_law_lot_here", "_law_stamps_here", "_law_told", "_law_spot"] (fun fd => True)
  d__law_said : DefB K mg "_law_said" s__law_said ["_law_ask"] (fun fd => True)
  d__law_same : DefB K mg "_law_same" s__law_same ["_law_told", "_law_due"] (fun fd => True)
  d__law_is_right : DefC K mg "_law_is_right" s__law_is_right ["_law_net_here", "_law_lot_here"] (cc 1) (fun fd => True)
  n_ValueError : mg "ValueError" = none
  n_bool : mg "bool" = none
  n_int : mg "int" = none
  n_isinstance : mg "isinstance" = none
  n_len : mg "len" = none
  n_list : mg "list" = none
  n_max : mg "max" = none
  n_range : mg "range" = none
  n_repr : mg "repr" = none
  n_tuple : mg "tuple" = none
  x_NotUsable : Exc2 P w K mg "NotUsable" "word" "at"
  m_StampError : ExmAt K mg "StampError" ["NotUsable"]
  f_at : ∀ c ∈ (["NotUsable"] : List Str), FldE K mg c "at"
  f_word : ∀ c ∈ (["NotUsable"] : List Str), FldE K mg c "word"
  i_ClusterError : ∀ c ∈ (["NotUsable"] : List Str), IsE K mg c "ClusterError" (([("NotUsable" : Str)] : List Str).contains c)
  i_InvalidPaper : ∀ c ∈ (["NotUsable"] : List Str), IsE K mg c "InvalidPaper" (([] : List Str).contains c)
  i_LiveError : ∀ c ∈ (["NotUsable"] : List Str), IsE K mg c "LiveError" (([] : List Str).contains c)
  i_NotUsable : ∀ c ∈ (["NotUsable"] : List Str), IsE K mg c "NotUsable" (([("NotUsable" : Str)] : List Str).contains c)
  i_PaperError : ∀ c ∈ (["NotUsable"] : List Str), IsE K mg c "PaperError" (([] : List Str).contains c)
  i_RunsAhead : ∀ c ∈ (["NotUsable"] : List Str), IsE K mg c "RunsAhead" (([] : List Str).contains c)
  i_Shut : ∀ c ∈ (["NotUsable"] : List Str), IsE K mg c "Shut" (([] : List Str).contains c)
  i_TextError : ∀ c ∈ (["NotUsable"] : List Str), IsE K mg c "TextError" (([] : List Str).contains c)
  i_ValueError : ∀ c ∈ (["NotUsable"] : List Str), IsEb K mg c "ValueError" (([("NotUsable" : Str)] : List Str).contains c)
section
variable {P : Program} {w : World} {K : PySem.W.Frag} {mg : Str → Option Value} {base : Heap} {cc tb : Nat → Addr}
abbrev N__law_feed : List Str := ["_law_script"]
theorem sc__law_feed : FnScope N__law_feed ["_law_script"] (defScope s__law_feed) := ⟨rfl, rfl, rfl, by decide +kernel, rfl, by decide +kernel, by decide +kernel⟩
theorem h__law_feed (t : Tx P w K mg cc) : HasB P w K mg base 1 "_law_feed" ["_law_script"] F__law_feed (fun fd => True) := by
  obtain ⟨f, fd, hF, hm, hb, hk⟩ := t.d__law_feed
  refine ⟨f, fd, ⟨fnG_of hF sc__law_feed (.inl rfl) ?_, hm, hF.kp, hb⟩, hk⟩
  intro cdv A outer s H E g hr tk po
  exact gss_one (gs_ret (ge_dct (.cons (ge_str) (ge_tolist t.n_list (ge_slice (ge_var 0) (go_none) (go_some (ge_int)))) (.cons (ge_str) (ge_int) (.cons (ge_str) (ge_int) (.cons (ge_str) (ge_int) (.nil)))))))
abbrev N__law_draw : List Str := ["_law_feed_here", "_law_size", "_law_digit", "_law_cells", "_law_place", "_law_cell", "_law_mixed"]
theorem sc__law_draw : FnScope N__law_draw ["_law_feed_here", "_law_size"] (defScope s__law_draw) := ⟨rfl, rfl, rfl, by decide +kernel, rfl, by decide +kernel, by decide +kernel⟩
theorem h__law_draw (t : Tx P w K mg cc) : HasB P w K mg base 1 "_law_draw" ["_law_feed_here", "_law_size"] F__law_draw (fun fd => True) := by
  obtain ⟨f, fd, hF, hm, hb, hk⟩ := t.d__law_draw
  refine ⟨f, fd, ⟨fnG_of hF sc__law_draw (.inr rfl) ?_, hm, hF.kp, hb⟩, hk⟩
  intro cdv A outer s H E g hr tk po
  exact gss_cons (gs_asg (ge_add (ge_ix g (ge_var 0) (ge_str)) (ge_int)) (gg_sub g (ge_var 0) (ge_str))) (gss_cons (gs_if (gt_cmp g (ge_ix g (ge_var 0) (ge_str)) (ge_int)) (gss_cons (gs_asg (ge_mod (ge_toint t.n_int (ge_ix g (ge_var 0) (ge_str))) (ge_var 1)) (gg_name g 2)) (gss_cons (gs_asg (ge_fdiv (ge_ix g (ge_var 0) (ge_str)) (ge_var 1)) (gg_sub g (ge_var 0) (ge_str))) (gss_one (gs_ret (ge_var 2))))) (gss_nil)) (gss_cons (gs_par2 g (i := 3) (j := 4) (ga_cons (ge_ix g (ge_var 0) (ge_str)) (ga_cons (ge_ix g (ge_var 0) (ge_str)) (ga_nil))) rfl rfl (by decide) rfl rfl rfl rfl) (gss_cons (gs_asg (ge_add (ge_var 4) (ge_int)) (gg_sub g (ge_var 0) (ge_str))) (gss_cons (gs_asg (ge_if (gt_cmp g (ge_var 3) (ge_lst (ga_nil))) (ge_ix g (ge_var 3) (ge_mod (ge_toint t.n_int (ge_var 4)) (ge_len t.n_len (ge_var 3)))) (ge_int)) (gg_name g 5)) (gss_cons (gs_if (gt_bool (gw_and (gt_cmp g (ge_var 5) (ge_pow (ge_int) (ge_int))) (gw_and1 (gt_cmp g (ge_var 4) (ge_len t.n_len (ge_var 3)))))) (gss_cons (gs_asg (ge_fdiv (ge_var 5) (ge_var 1)) (gg_sub g (ge_var 0) (ge_str))) (gss_one (gs_ret (ge_mod (ge_toint t.n_int (ge_var 5)) (ge_var 1))))) (gss_nil)) (gss_cons (gs_asg (ge_mod (ge_toint t.n_int (ge_add (ge_add (ge_mod (ge_toint t.n_int (ge_var 5)) (ge_int)) (ge_mulS (ge_int) (ge_ix g (ge_var 0) (ge_str)))) (ge_int))) (ge_int)) (gg_name g 6)) (gss_cons (gs_asg (ge_mod (ge_toint t.n_int (ge_add (ge_add (ge_mulS (ge_var 6) (ge_var 6)) (ge_mulS (ge_int) (ge_ix g (ge_var 0) (ge_str)))) (ge_int))) (ge_int)) (gg_name g 6)) (gss_one (gs_ret (ge_mod (ge_toint t.n_int (ge_fdiv (ge_mod (ge_toint t.n_int (ge_add (ge_mulS (ge_var 6) (ge_var 6)) (ge_mulS (ge_int) (ge_var 6)))) (ge_int)) (ge_int))) (ge_var 1)))))))))))
abbrev N__law_any : List Str := ["_law_feed_here", "_law_some"]
theorem sc__law_any : FnScope N__law_any ["_law_feed_here", "_law_some"] (defScope s__law_any) := ⟨rfl, rfl, rfl, by decide +kernel, rfl, by decide +kernel, by decide +kernel⟩
theorem h__law_any (t : Tx P w K mg cc) : HasB P w K mg base 2 "_law_any" ["_law_feed_here", "_law_some"] F__law_any (fun fd => True) := by
  obtain ⟨f, fd, hF, hm, hb, hk⟩ := t.d__law_any
  obtain ⟨f__law_draw, fd__law_draw, D__law_draw, _⟩ := h__law_draw (base := base) t
  refine ⟨f, fd, ⟨fnG_of hF sc__law_any (.inr rfl) ?_, hm, hF.kp, hb⟩, hk⟩
  intro cdv A outer s H E g hr tk po
  exact gss_one (gs_ret (ge_ix g (ge_var 1) (ge_call (D__law_draw.mono (by decide)) hr g tk (ga_cons (ge_var 0) (ga_cons (ge_len t.n_len (ge_var 1)) (ga_nil))) (ln_cons (ln_cons (ln_nil))))))
abbrev N__law_net : List Str := ["_law_feed_here", "_law_scale", "_law_pools", "_law_pool", "_law_picked", "_law_spots", "_law_lanes", "_law_titles", "_law_title", "_law_slow", "_law_fast", "_law_other", "_law_top", "_law_rule"]
theorem sc__law_net : FnScope N__law_net ["_law_feed_here"] (defScope s__law_net) := ⟨rfl, rfl, rfl, by decide +kernel, rfl, by decide +kernel, by decide +kernel⟩
theorem h__law_net (t : Tx P w K mg cc) : HasB P w K mg base 3 "_law_net" ["_law_feed_here"] F__law_net (fun fd => True) := by
  obtain ⟨f, fd, hF, hm, hb, hk⟩ := t.d__law_net
  obtain ⟨f__law_any, fd__law_any, D__law_any, _⟩ := h__law_any (base := base) t
  obtain ⟨f__law_draw, fd__law_draw, D__law_draw, _⟩ := h__law_draw (base := base) t
  refine ⟨f, fd, ⟨fnG_of hF sc__law_net (.inr rfl) ?_, hm, hF.kp, hb⟩, hk⟩
  intro cdv A outer s H E g hr tk po
  exact gss_cons (gs_asg (ge_call (D__law_any.mono (by decide)) hr g tk (ga_cons (ge_var 0) (ga_cons (ge_lst (ga_cons (ge_int) (ga_cons (ge_int) (ga_cons (ge_int) (ga_cons (ge_int) (ga_cons (ge_int) (ga_cons (ge_int) (ga_nil)))))))) (ga_nil))) (ln_cons (ln_cons (ln_nil)))) (gg_name g 1)) (gss_cons (gs_asg (ge_lst (ga_cons (ge_lst (ga_cons (ge_str) (ga_cons (ge_str) (ga_cons (ge_str) (ga_cons (ge_str) (ga_nil)))))) (ga_cons (ge_lst (ga_cons (ge_str) (ga_cons (ge_str) (ga_cons (ge_str) (ga_cons (ge_str) (ga_nil)))))) (ga_cons (ge_lst (ga_cons (ge_str) (ga_cons (ge_str) (ga_cons (ge_str) (ga_cons (ge_str) (ga_nil)))))) (ga_nil))))) (gg_name g 2)) (gss_cons (gs_asg (ge_call (D__law_any.mono (by decide)) hr g tk (ga_cons (ge_var 0) (ga_cons (ge_add (ge_var 2) (ge_lst (ga_cons (ge_lst (ga_cons (ge_str) (ga_cons (ge_str) (ga_cons (ge_str) (ga_cons (ge_str) (ga_nil)))))) (ga_nil)))) (ga_nil))) (ln_cons (ln_cons (ln_nil)))) (gg_name g 3)) (gss_cons (gs_par3 g (i := 4) (j := 5) (l := 6) (ga_cons (ge_lc [("_law_title", 8)] (.nm 8) g (gi_iter (ge_var 3)) (blkOk_by (N := N__law_net) (sc := defScope s__law_net) (by decide +kernel)) (fun _ _ _ _ _ gB1 => gct_name 8 gB1) (fun _ _ _ _ _ gB1 => gts_one (gt_cmp gB1 (ge_call (D__law_draw.mono (by decide)) hr gB1 L2.takes0 (ga_cons (ge_var 0) (ga_cons (ge_int) (ga_nil))) (ln_cons (ln_cons (ln_nil)))) (ge_int))) (fun _ _ _ _ _ gB1 => ge_var 8)) (ga_cons (ge_lstM (ga_nil)) (ga_cons (ge_lstM (ga_nil)) (ga_nil)))) rfl rfl rfl (by decide) (by decide) (by decide) rfl rfl rfl rfl rfl) (gss_cons (gs_asg (ge_if (gt_cmp g (ge_var 4) (ge_lst (ga_nil))) (ge_var 4) (ge_lst (ga_cons (ge_ix g (ge_var 3) (ge_int)) (ga_nil)))) (gg_name g 7)) (gss_cons (gs_for [8, 9, 10, 11] g po (gi_iter (ge_var 7)) (gg_name g 8) (gss_cons (gs_par2 g (i := 9) (j := 10) (ga_cons (ge_call (D__law_draw.mono (by decide)) hr g tk (ga_cons (ge_var 0) (ga_cons (ge_add (ge_mulS (ge_int) (ge_var 1)) (ge_int)) (ga_nil))) (ln_cons (ln_cons (ln_nil)))) (ga_cons (ge_call (D__law_draw.mono (by decide)) hr g tk (ga_cons (ge_var 0) (ga_cons (ge_add (ge_mulS (ge_int) (ge_var 1)) (ge_int)) (ga_nil))) (ln_cons (ln_cons (ln_nil)))) (ga_nil))) rfl rfl (by decide) rfl rfl rfl rfl) (gss_cons (gs_expr (ge_append (ge_var 5) (ge_tup (ga_cons (ge_var 8) (ga_cons (ge_var 9) (ga_cons (ge_var 10) (ga_cons (ge_call (D__law_any.mono (by decide)) hr g tk (ga_cons (ge_var 0) (ga_cons (ge_lst (ga_cons (ge_int) (ga_cons (ge_int) (ga_cons (ge_int) (ga_cons (ge_int) (ga_cons (ge_int) (ga_cons (ge_int) (ga_nil)))))))) (ga_nil))) (ln_cons (ln_cons (ln_nil)))) (ga_nil)))))))) (gss_one (gs_for [11] g po (gi_iter (ge_var 7)) (gg_name g 11) (gss_one (gs_if (gt_bool (gw_and (gt_cmp g (ge_var 11) (ge_var 8)) (gw_and1 (gt_cmp g (ge_call (D__law_draw.mono (by decide)) hr g tk (ga_cons (ge_var 0) (ga_cons (ge_int) (ga_nil))) (ln_cons (ln_cons (ln_nil)))) (ge_int))))) (gss_one (gs_expr (ge_append (ge_var 6) (ge_tup (ga_cons (ge_var 8) (ga_cons (ge_var 11) (ga_cons (ge_call (D__law_any.mono (by decide)) hr g tk (ga_cons (ge_var 0) (ga_cons (ge_lst (ga_cons (ge_int) (ga_cons (ge_int) (ga_cons (ge_int) (ga_cons (ge_call (D__law_draw.mono (by decide)) hr g tk (ga_cons (ge_var 0) (ga_cons (ge_mulS (ge_int) (ge_var 1)) (ga_nil))) (ln_cons (ln_cons (ln_nil)))) (ga_nil)))))) (ga_nil))) (ln_cons (ln_cons (ln_nil)))) (ga_nil)))))))) (gss_nil)))))))) (gss_cons (gs_asg (ge_call (D__law_any.mono (by decide)) hr g tk (ga_cons (ge_var 0) (ga_cons (ge_lst (ga_cons (ge_none) (ga_cons (ge_int) (ga_cons (ge_int) (ga_cons (ge_int) (ga_cons (ge_int) (ga_cons (ge_int) (ga_cons (ge_int) (ga_cons (ge_int) (ga_nil)))))))))) (ga_nil))) (ln_cons (ln_cons (ln_nil)))) (gg_name g 12)) (gss_cons (gs_asg (ge_if (gt_isN (ge_var 12)) (ge_str) (ge_call (D__law_any.mono (by decide)) hr g tk (ga_cons (ge_var 0) (ga_cons (ge_lst (ga_cons (ge_str) (ga_cons (ge_str) (ga_cons (ge_str) (ga_nil))))) (ga_nil))) (ln_cons (ln_cons (ln_nil))))) (gg_name g 13)) (gss_one (gs_ret (ge_tup (ga_cons (ge_totuple t.n_tuple (ge_var 5)) (ga_cons (ge_totuple t.n_tuple (ge_var 6)) (ga_cons (ge_var 12) (ga_cons (ge_var 13) (ga_nil)))))))))))))))
abbrev N__law_letters : List Str := ["_law_net_here", "_law_lot_here", "_law_title", "_law_tick", "_law_found", "_law_far", "_law_leasts", "_law_lane"]
theorem sc__law_letters : FnScope N__law_letters ["_law_net_here", "_law_lot_here", "_law_title", "_law_tick"] (defScope s__law_letters) := ⟨rfl, rfl, rfl, by decide +kernel, rfl, by decide +kernel, by decide +kernel⟩
theorem h__law_letters (t : Tx P w K mg cc) : HasB P w K mg base 1 "_law_letters" ["_law_net_here", "_law_lot_here", "_law_title", "_law_tick"] F__law_letters (fun fd => True) := by
  obtain ⟨f, fd, hF, hm, hb, hk⟩ := t.d__law_letters
  refine ⟨f, fd, ⟨fnG_of hF sc__law_letters (.inr rfl) ?_, hm, hF.kp, hb⟩, hk⟩
  intro cdv A outer s H E g hr tk po
  exact gss_cons (gs_asg (ge_lstM (ga_nil)) (gg_name g 4)) (gss_cons (gs_for [5, 6] g po (gi_range1 t.n_range (ge_len t.n_len (ge_var 1))) (gg_name g 5) (gss_cons (gs_setLc (i := 6) [("_law_lane", 7)] (.nm 7) g rfl rfl (sw_true rfl rfl rfl (by decide +kernel)) (gi_iter (ge_ix g (ge_var 0) (ge_int))) (blkOk_by (N := N__law_letters) (sc := defScope s__law_letters) (by decide +kernel)) (fun _ _ _ _ _ gB1 => gct_name 7 gB1) (fun _ _ _ _ _ gB1 => gts_one (gt_bool (gw_and (gt_cmp gB1 (ge_ix gB1 (ge_var 7) (ge_int)) (ge_ix gB1 (ge_ix gB1 (ge_var 1) (ge_var 5)) (ge_int))) (gw_and1 (gt_cmp gB1 (ge_ix gB1 (ge_var 7) (ge_int)) (ge_var 2)))))) (fun _ _ _ _ _ gB1 => ge_ix gB1 (ge_var 7) (ge_int))) (gss_one (gs_if (gt_bool (gw_and (gt_cmp g (ge_var 6) (ge_lst (ga_nil))) (gw_and1 (gt_cmp g (ge_sub (ge_var 3) (ge_ix g (ge_ix g (ge_var 1) (ge_var 5)) (ge_int))) (ge_ix g (ge_var 6) (ge_int)))))) (gss_one (gs_expr (ge_append (ge_var 4) (ge_var 5)))) (gss_nil))))) (gss_one (gs_ret (ge_var 4))))
abbrev N__law_before : List Str := ["_law_lot_here", "_law_spot", "_law_found", "_law_far"]
theorem sc__law_before : FnScope N__law_before ["_law_lot_here", "_law_spot"] (defScope s__law_before) := ⟨rfl, rfl, rfl, by decide +kernel, rfl, by decide +kernel, by decide +kernel⟩
theorem h__law_before (t : Tx P w K mg cc) : HasB P w K mg base 1 "_law_before" ["_law_lot_here", "_law_spot"] F__law_before (fun fd => True) := by
  obtain ⟨f, fd, hF, hm, hb, hk⟩ := t.d__law_before
  refine ⟨f, fd, ⟨fnG_of hF sc__law_before (.inr rfl) ?_, hm, hF.kp, hb⟩, hk⟩
  intro cdv A outer s H E g hr tk po
  exact gss_cons (gs_setLc (i := 2) [("_law_far", 3)] (.nm 3) g rfl rfl (sw_true rfl rfl rfl (by decide +kernel)) (gi_range1 t.n_range (ge_var 1)) (blkOk_by (N := N__law_before) (sc := defScope s__law_before) (by decide +kernel)) (fun _ _ _ _ _ gB1 => gct_name 3 gB1) (fun _ _ _ _ _ gB1 => gts_one (gt_cmp gB1 (ge_ix gB1 (ge_ix gB1 (ge_var 0) (ge_var 3)) (ge_int)) (ge_ix gB1 (ge_ix gB1 (ge_var 0) (ge_var 1)) (ge_int)))) (fun _ _ _ _ _ gB1 => ge_var 3)) (gss_one (gs_ret (ge_if (gt_cmp g (ge_var 2) (ge_lst (ga_nil))) (ge_ix g (ge_var 2) (ge_neg (ge_int))) (ge_none))))
abbrev N__law_steps : List Str := ["_law_lot_here", "_law_spot", "_law_far"]
theorem sc__law_steps : FnScope N__law_steps ["_law_lot_here", "_law_spot"] (defScope s__law_steps) := ⟨rfl, rfl, rfl, by decide +kernel, rfl, by decide +kernel, by decide +kernel⟩
theorem h__law_steps (t : Tx P w K mg cc) : HasB P w K mg base 2 "_law_steps" ["_law_lot_here", "_law_spot"] F__law_steps (fun fd => True) := by
  obtain ⟨f, fd, hF, hm, hb, hk⟩ := t.d__law_steps
  obtain ⟨f__law_before, fd__law_before, D__law_before, _⟩ := h__law_before (base := base) t
  refine ⟨f, fd, ⟨fnG_of hF sc__law_steps (.inr rfl) ?_, hm, hF.kp, hb⟩, hk⟩
  intro cdv A outer s H E g hr tk po
  exact gss_one (gs_ret (ge_lc [("_law_far", 2)] (.nm 2) g (gi_iter (ge_tup (ga_cons (ge_call (D__law_before.mono (by decide)) hr g tk (ga_cons (ge_var 0) (ga_cons (ge_var 1) (ga_nil))) (ln_cons (ln_cons (ln_nil)))) (ga_cons (ge_ix g (ge_ix g (ge_var 0) (ge_var 1)) (ge_int)) (ga_nil))))) (blkOk_by (N := N__law_steps) (sc := defScope s__law_steps) (by decide +kernel)) (fun _ _ _ _ _ gB1 => gct_name 2 gB1) (fun _ _ _ _ _ gB1 => gts_one (gt_notN (ge_var 2))) (fun _ _ _ _ _ gB1 => ge_var 2)))
abbrev N__law_stamp : List Str := ["_law_net_here", "_law_near", "_law_reading", "_law_marks", "_law_mark", "_law_count", "_law_own"]
theorem sc__law_stamp : FnScope N__law_stamp ["_law_net_here", "_law_near", "_law_reading"] (defScope s__law_stamp) := ⟨rfl, rfl, rfl, by decide +kernel, rfl, by decide +kernel, by decide +kernel⟩
theorem h__law_stamp (t : Tx P w K mg cc) : HasB P w K mg base 1 "_law_stamp" ["_law_net_here", "_law_near", "_law_reading"] F__law_stamp (fun fd => True) := by
  obtain ⟨f, fd, hF, hm, hb, hk⟩ := t.d__law_stamp
  refine ⟨f, fd, ⟨fnG_of hF sc__law_stamp (.inr rfl) ?_, hm, hF.kp, hb⟩, hk⟩
  intro cdv A outer s H E g hr tk po
  exact gss_cons (gs_setLc (i := 3) [("_law_own", 6)] (.nm 6) g rfl rfl (sw_true rfl rfl rfl (by decide +kernel)) (gi_iter (ge_var 1)) (blkOk_by (N := N__law_stamp) (sc := defScope s__law_stamp) (by decide +kernel)) (fun _ _ _ _ _ gB1 => gct_name 6 gB1) (fun _ _ _ _ _ gB1 => gts_nil) (fun _ _ _ _ _ gB1 => ge_ix gB1 (ge_var 6) (ge_int))) (gss_cons (gs_if (gt_bool (gw_or (gt_cmp g (ge_var 3) (ge_lst (ga_nil))) (gw_or1 (gt_cmp g (ge_var 2) (ge_max1 g t.n_max (ge_var 3)))))) (gss_one (gs_ret (ge_tup (ga_cons (ge_var 2) (ga_cons (ge_int) (ga_nil)))))) (gss_nil)) (gss_cons (gs_asg (ge_max1 g t.n_max (ge_var 3)) (gg_name g 4)) (gss_cons (gs_asg (ge_add (ge_int) (ge_max1 g t.n_max (ge_lc [("_law_own", 6)] (.nm 6) g (gi_iter (ge_var 1)) (blkOk_by (N := N__law_stamp) (sc := defScope s__law_stamp) (by decide +kernel)) (fun _ _ _ _ _ gB2 => gct_name 6 gB2) (fun _ _ _ _ _ gB2 => gts_one (gt_cmp gB2 (ge_ix gB2 (ge_var 6) (ge_int)) (ge_var 4))) (fun _ _ _ _ _ gB2 => ge_ix gB2 (ge_var 6) (ge_int))))) (gg_name g 5)) (gss_cons (gs_if (gt_bool (gw_or (gt_isN (ge_ix g (ge_var 0) (ge_int))) (gw_or1 (gt_cmp g (ge_var 5) (ge_ix g (ge_var 0) (ge_int)))))) (gss_one (gs_ret (ge_tup (ga_cons (ge_var 4) (ga_cons (ge_var 5) (ga_nil)))))) (gss_nil)) (gss_one (gs_ret (ge_if (gt_cmp g (ge_ix g (ge_var 0) (ge_int)) (ge_str)) (ge_tup (ga_cons (ge_add (ge_var 4) (ge_int)) (ga_cons (ge_int) (ga_nil)))) (ge_none))))))))
abbrev N__law_lot : List Str := ["_law_feed_here", "_law_net_here", "_law_size", "_law_tick", "_law_found", "_law_stamps_here", "_law_lap", "_law_title", "_law_slow", "_law_fast", "_law_rate", "_law_by", "_law_reading", "_law_far", "_law_letter", "_law_late", "_law_there", "_law_near", "_law_stamp_here", "_law_own", "_law_one"]
theorem sc__law_lot : FnScope N__law_lot ["_law_feed_here", "_law_net_here", "_law_size"] (defScope s__law_lot) := ⟨rfl, rfl, rfl, by decide +kernel, rfl, by decide +kernel, by decide +kernel⟩
theorem h__law_lot (t : Tx P w K mg cc) : HasB P w K mg base 3 "_law_lot" ["_law_feed_here", "_law_net_here", "_law_size"] F__law_lot (fun fd => True) := by
  obtain ⟨f, fd, hF, hm, hb, hk⟩ := t.d__law_lot
  obtain ⟨f__law_draw, fd__law_draw, D__law_draw, _⟩ := h__law_draw (base := base) t
  obtain ⟨f__law_any, fd__law_any, D__law_any, _⟩ := h__law_any (base := base) t
  obtain ⟨f__law_letters, fd__law_letters, D__law_letters, _⟩ := h__law_letters (base := base) t
  obtain ⟨f__law_steps, fd__law_steps, D__law_steps, _⟩ := h__law_steps (base := base) t
  obtain ⟨f__law_stamp, fd__law_stamp, D__law_stamp, _⟩ := h__law_stamp (base := base) t
  refine ⟨f, fd, ⟨fnG_of hF sc__law_lot (.inr rfl) ?_, hm, hF.kp, hb⟩, hk⟩
  intro cdv A outer s H E g hr tk po
  exact gss_cons (gs_asg (ge_tup (ga_cons (ge_sub (ge_call (D__law_draw.mono (by decide)) hr g tk (ga_cons (ge_var 0) (ga_cons (ge_int) (ga_nil))) (ln_cons (ln_cons (ln_nil)))) (ge_int)) (ga_cons (ge_tup (ga_nil)) (ga_cons (ge_lstM (ga_nil)) (ga_nil))))) (gg_tup g (ggs_cons (gg_name g 3) (ggs_cons (gg_name g 4) (ggs_cons (gg_name g 5) (ggs_nil)))))) (gss_cons (gs_for [6, 7, 8, 9, 10, 11, 12, 13, 14, 15, 16, 17, 18] g po (gi_range1 t.n_range (ge_var 2)) (gg_name g 6) (gss_cons (gs_asg (ge_add (ge_var 3) (ge_call (D__law_any.mono (by decide)) hr g tk (ga_cons (ge_var 0) (ga_cons (ge_lst (ga_cons (ge_int) (ga_cons (ge_int) (ga_cons (ge_int) (ga_cons (ge_int) (ga_cons (ge_int) (ga_cons (ge_int) (ga_cons (ge_int) (ga_cons (ge_call (D__law_draw.mono (by decide)) hr g tk (ga_cons (ge_var 0) (ga_cons (ge_int) (ga_nil))) (ln_cons (ln_cons (ln_nil)))) (ga_nil)))))))))) (ga_nil))) (ln_cons (ln_cons (ln_nil))))) (gg_name g 3)) (gss_cons (gs_asg (ge_call (D__law_any.mono (by decide)) hr g tk (ga_cons (ge_var 0) (ga_cons (ge_ix g (ge_var 1) (ge_int)) (ga_nil))) (ln_cons (ln_cons (ln_nil)))) (gg_tup g (ggs_cons (gg_name g 7) (ggs_cons (gg_name g 8) (ggs_cons (gg_name g 9) (ggs_cons (gg_name g 10) (ggs_nil))))))) (gss_cons (gs_asg (ge_sub (ge_call (D__law_draw.mono (by decide)) hr g tk (ga_cons (ge_var 0) (ga_cons (ge_add (ge_add (ge_var 8) (ge_var 9)) (ge_int)) (ga_nil))) (ln_cons (ln_cons (ln_nil)))) (ge_var 8)) (gg_name g 11)) (gss_cons (gs_asg (ge_add (ge_var 3) (ge_call (D__law_any.mono (by decide)) hr g tk (ga_cons (ge_var 0) (ga_cons (ge_lst (ga_cons (ge_neg (ge_var 8)) (ga_cons (ge_neg (ge_var 8)) (ga_cons (ge_var 9) (ga_cons (ge_var 11) (ga_nil)))))) (ga_nil))) (ln_cons (ln_cons (ln_nil))))) (gg_name g 12)) (gss_cons (gs_asg (ge_call (D__law_letters.mono (by decide)) hr g tk (ga_cons (ge_var 1) (ga_cons (ge_var 4) (ga_cons (ge_var 7) (ga_cons (ge_var 3) (ga_nil))))) (ln_cons (ln_cons (ln_cons (ln_cons (ln_nil)))))) (gg_name g 13)) (gss_cons (gs_asg (ge_none) (gg_name g 14)) (gss_cons (gs_if (gt_cmp g (ge_var 13) (ge_lst (ga_nil))) (gss_one (gs_asg (ge_call (D__law_any.mono (by decide)) hr g tk (ga_cons (ge_var 0) (ga_cons (ge_lst (ga_cons (ge_none) (ga_cons (ge_ix g (ge_var 13) (ge_neg (ge_int))) (ga_cons (ge_ix g (ge_var 13) (ge_neg (ge_int))) (ga_cons (ge_call (D__law_any.mono (by decide)) hr g tk (ga_cons (ge_var 0) (ga_cons (ge_var 13) (ga_nil))) (ln_cons (ln_cons (ln_nil)))) (ga_nil)))))) (ga_nil))) (ln_cons (ln_cons (ln_nil)))) (gg_name g 14))) (gss_nil)) (gss_cons (gs_asg (ge_add (ge_var 4) (ge_tup (ga_cons (ge_tup (ga_cons (ge_var 7) (ga_cons (ge_var 3) (ga_cons (ge_var 12) (ga_cons (ge_var 14) (ga_nil)))))) (ga_nil)))) (gg_name g 15)) (gss_cons (gs_setLc (i := 16) [("_law_own", 19)] (.nm 19) g rfl rfl (sw_true rfl rfl rfl (by decide +kernel)) (gi_iter (ge_var 4)) (blkOk_by (N := N__law_lot) (sc := defScope s__law_lot) (by decide +kernel)) (fun _ _ _ _ _ gB1 => gct_name 19 gB1) (fun _ _ _ _ _ gB1 => gts_one (gt_bool (gw_and (gt_cmp gB1 (ge_ix gB1 (ge_var 19) (ge_int)) (ge_var 7)) (gw_and1 (gt_cmp gB1 (ge_ix gB1 (ge_var 19) (ge_int)) (ge_var 3)))))) (fun _ _ _ _ _ gB1 => ge_var 19)) (gss_cons (gs_setLc (i := 17) [("_law_one", 20)] (.nm 20) g rfl rfl (sw_true rfl rfl rfl (by decide +kernel)) (gi_iter (ge_call (D__law_steps.mono (by decide)) hr g tk (ga_cons (ge_var 15) (ga_cons (ge_len t.n_len (ge_var 4)) (ga_nil))) (ln_cons (ln_cons (ln_nil))))) (blkOk_by (N := N__law_lot) (sc := defScope s__law_lot) (by decide +kernel)) (fun _ _ _ _ _ gB2 => gct_name 20 gB2) (fun _ _ _ _ _ gB2 => gts_nil) (fun _ _ _ _ _ gB2 => ge_ix gB2 (ge_var 5) (ge_var 20))) (gss_cons (gs_asg (ge_call (D__law_stamp.mono (by decide)) hr g tk (ga_cons (ge_var 1) (ga_cons (ge_var 17) (ga_cons (ge_var 12) (ga_nil)))) (ln_cons (ln_cons (ln_cons (ln_nil))))) (gg_name g 18)) (gss_one (gs_if (gt_bool (gw_and (gt_cmp g (ge_len t.n_len (ge_var 16)) (ge_var 10)) (gw_and1 (gt_notN (ge_var 18))))) (gss_cons (gs_asg (ge_var 15) (gg_name g 4)) (gss_one (gs_expr (ge_append (ge_var 5) (ge_var 18))))) (gss_nil))))))))))))))) (gss_one (gs_ret (ge_var 4))))
abbrev N__law_stamps : List Str := ["_law_net_here", "_law_lot_here", "_law_found", "_law_spot", "_law_stamp_here", "_law_far"]
theorem sc__law_stamps : FnScope N__law_stamps ["_law_net_here", "_law_lot_here"] (defScope s__law_stamps) := ⟨rfl, rfl, rfl, by decide +kernel, rfl, by decide +kernel, by decide +kernel⟩
theorem h__law_stamps (t : Tx P w K mg cc) : HasB P w K mg base 3 "_law_stamps" ["_law_net_here", "_law_lot_here"] F__law_stamps (fun fd => True) := by
  obtain ⟨f, fd, hF, hm, hb, hk⟩ := t.d__law_stamps
  obtain ⟨f__law_stamp, fd__law_stamp, D__law_stamp, _⟩ := h__law_stamp (base := base) t
  obtain ⟨f__law_steps, fd__law_steps, D__law_steps, _⟩ := h__law_steps (base := base) t
  refine ⟨f, fd, ⟨fnG_of hF sc__law_stamps (.inr rfl) ?_, hm, hF.kp, hb⟩, hk⟩
  intro cdv A outer s H E g hr tk po
  exact gss_cons (gs_asg (ge_lstM (ga_nil)) (gg_name g 2)) (gss_cons (gs_for [3, 4] g po (gi_range1 t.n_range (ge_len t.n_len (ge_var 1))) (gg_name g 3) (gss_cons (gs_asg (ge_call (D__law_stamp.mono (by decide)) hr g tk (ga_cons (ge_var 0) (ga_cons (ge_lc [("_law_far", 5)] (.nm 5) g (gi_iter (ge_call (D__law_steps.mono (by decide)) hr g tk (ga_cons (ge_var 1) (ga_cons (ge_var 3) (ga_nil))) (ln_cons (ln_cons (ln_nil))))) (blkOk_by (N := N__law_stamps) (sc := defScope s__law_stamps) (by decide +kernel)) (fun _ _ _ _ _ gB1 => gct_name 5 gB1) (fun _ _ _ _ _ gB1 => gts_nil) (fun _ _ _ _ _ gB1 => ge_ix gB1 (ge_var 2) (ge_var 5))) (ga_cons (ge_ix g (ge_ix g (ge_var 1) (ge_var 3)) (ge_int)) (ga_nil)))) (ln_cons (ln_cons (ln_cons (ln_nil))))) (gg_name g 4)) (gss_cons (gs_if (gt_isN (ge_var 4)) (gss_one (gs_ret (ge_none))) (gss_nil)) (gss_one (gs_expr (ge_append (ge_var 2) (ge_var 4))))))) (gss_one (gs_ret (ge_var 2))))
abbrev N__law_lengths : List Str := ["_law_lot_here", "_law_stamps_here", "_law_found", "_law_spot", "_law_some", "_law_far"]
theorem sc__law_lengths : FnScope N__law_lengths ["_law_lot_here", "_law_stamps_here"] (defScope s__law_lengths) := ⟨rfl, rfl, rfl, by decide +kernel, rfl, by decide +kernel, by decide +kernel⟩
theorem h__law_lengths (t : Tx P w K mg cc) : HasB P w K mg base 3 "_law_lengths" ["_law_lot_here", "_law_stamps_here"] F__law_lengths (fun fd => True) := by
  obtain ⟨f, fd, hF, hm, hb, hk⟩ := t.d__law_lengths
  obtain ⟨f__law_steps, fd__law_steps, D__law_steps, _⟩ := h__law_steps (base := base) t
  refine ⟨f, fd, ⟨fnG_of hF sc__law_lengths (.inr rfl) ?_, hm, hF.kp, hb⟩, hk⟩
  intro cdv A outer s H E g hr tk po
  exact gss_cons (gs_asg (ge_lstM (ga_nil)) (gg_name g 2)) (gss_cons (gs_for [3, 4] g po (gi_range1 t.n_range (ge_len t.n_len (ge_var 0))) (gg_name g 3) (gss_cons (gs_setLc (i := 4) [("_law_far", 5)] (.nm 5) g rfl rfl (sw_true rfl rfl rfl (by decide +kernel)) (gi_iter (ge_call (D__law_steps.mono (by decide)) hr g tk (ga_cons (ge_var 0) (ga_cons (ge_var 3) (ga_nil))) (ln_cons (ln_cons (ln_nil))))) (blkOk_by (N := N__law_lengths) (sc := defScope s__law_lengths) (by decide +kernel)) (fun _ _ _ _ _ gB1 => gct_name 5 gB1) (fun _ _ _ _ _ gB1 => gts_one (gt_cmp gB1 (ge_ix gB1 (ge_ix gB1 (ge_var 1) (ge_var 5)) (ge_int)) (ge_ix gB1 (ge_ix gB1 (ge_var 1) (ge_var 3)) (ge_int)))) (fun _ _ _ _ _ gB1 => ge_ix gB1 (ge_var 2) (ge_var 5))) (gss_one (gs_expr (ge_append (ge_var 2) (ge_add (ge_int) (ge_max1 g t.n_max (ge_add (ge_var 4) (ge_lst (ga_cons (ge_int) (ga_nil))))))))))) (gss_one (gs_ret (ge_var 2))))
abbrev N_want : List Str := ["is_right", "word"]
theorem sc_want : FnScope N_want ["is_right", "word"] (defScope s_want) := ⟨rfl, rfl, rfl, by decide +kernel, rfl, by decide +kernel, by decide +kernel⟩
theorem h_want (t : Tx P w K mg cc) : HasB P w K mg base 3 "want" ["is_right", "word"] F_want (fun fd => True) := by
  obtain ⟨f, fd, hF, hm, hb, hk⟩ := t.d_want
  obtain ⟨Cx_NotUsable, fI_NotUsable, fdI_NotUsable, psI_NotUsable, X_NotUsable⟩ := t.x_NotUsable
  refine ⟨f, fd, ⟨fnG_of hF sc_want (.inr rfl) ?_, hm, hF.kp, hb⟩, hk⟩
  intro cdv A outer s H E g hr tk po
  exact gss_one (gs_if (gt_not (gt_val (ge_var 0))) (gss_one (gs_raise2 (X_NotUsable _ rfl rfl rfl rfl) g (hr.mono (by decide)) tk (ga_cons (ge_var 1) (ga_cons (ge_neg (ge_int)) (ga_nil))))) (gss_nil))
abbrev N_is_integer : List Str := ["thing"]
theorem sc_is_integer : FnScope N_is_integer ["thing"] (defScope s_is_integer) := ⟨rfl, rfl, rfl, by decide +kernel, rfl, by decide +kernel, by decide +kernel⟩
theorem h_is_integer (t : Tx P w K mg cc) : HasB P w K mg base 1 "is_integer" ["thing"] F_is_integer (fun fd => True) := by
  obtain ⟨f, fd, hF, hm, hb, hk⟩ := t.d_is_integer
  refine ⟨f, fd, ⟨fnG_of hF sc_is_integer (.inr rfl) ?_, hm, hF.kp, hb⟩, hk⟩
  intro cdv A outer s H E g hr tk po
  exact gss_one (gs_ret (ge_and (ge_isi .int t.n_isinstance t.n_int (ge_var 0)) (ge_one (ge_not (ge_isi .bool t.n_isinstance t.n_bool (ge_var 0))))))
abbrev N_is_number : List Str := ["thing"]
theorem sc_is_number : FnScope N_is_number ["thing"] (defScope s_is_number) := ⟨rfl, rfl, rfl, by decide +kernel, rfl, by decide +kernel, by decide +kernel⟩
theorem h_is_number (t : Tx P w K mg cc) : HasB P w K mg base 2 "is_number" ["thing"] F_is_number (fun fd => True) := by
  obtain ⟨f, fd, hF, hm, hb, hk⟩ := t.d_is_number
  obtain ⟨f_is_integer, fd_is_integer, D_is_integer, _⟩ := h_is_integer (base := base) t
  refine ⟨f, fd, ⟨fnG_of hF sc_is_number (.inr rfl) ?_, hm, hF.kp, hb⟩, hk⟩
  intro cdv A outer s H E g hr tk po
  exact gss_one (gs_ret (ge_and (ge_call (D_is_integer.mono (by decide)) hr g tk (ga_cons (ge_var 0) (ga_nil)) (ln_cons (ln_nil))) (ge_one (ge_cmp g (ge_var 0) (ge_int)))))
abbrev N_is_index : List Str := ["run", "thing"]
theorem sc_is_index : FnScope N_is_index ["run", "thing"] (defScope s_is_index) := ⟨rfl, rfl, rfl, by decide +kernel, rfl, by decide +kernel, by decide +kernel⟩
theorem h_is_index (t : Tx P w K mg cc) : HasB P w K mg base 3 "is_index" ["run", "thing"] F_is_index (fun fd => True) := by
  obtain ⟨f, fd, hF, hm, hb, hk⟩ := t.d_is_index
  obtain ⟨f_is_number, fd_is_number, D_is_number, _⟩ := h_is_number (base := base) t
  refine ⟨f, fd, ⟨fnG_of hF sc_is_index (.inr rfl) ?_, hm, hF.kp, hb⟩, hk⟩
  intro cdv A outer s H E g hr tk po
  exact gss_one (gs_ret (ge_and (ge_call (D_is_number.mono (by decide)) hr g tk (ga_cons (ge_var 1) (ga_nil)) (ln_cons (ln_nil))) (ge_one (ge_cmp g (ge_var 1) (ge_len t.n_len (ge_var 0))))))
abbrev N_next_stamp : List Str := ["cluster", "last", "heard", "reading", "known", "mark", "count", "most", "rule", "stamp"]
theorem sc_next_stamp : FnScope N_next_stamp ["cluster", "last", "heard", "reading"] (defScope s_next_stamp) := ⟨rfl, rfl, rfl, by decide +kernel, rfl, by decide +kernel, by decide +kernel⟩
theorem h_next_stamp (t : Tx P w K mg cc) : HasB P w K mg base 1 "next_stamp" ["cluster", "last", "heard", "reading"] F_next_stamp (fun fd => True) := by
  obtain ⟨f, fd, hF, hm, hb, hk⟩ := t.d_next_stamp
  refine ⟨f, fd, ⟨fnG_of hF sc_next_stamp (.inr rfl) ?_, hm, hF.kp, hb⟩, hk⟩
  intro cdv A outer s H E g hr tk po
  exact gss_cons (gs_setLc (i := 4) [("stamp", 9)] (.nm 9) g rfl rfl (sw_true rfl rfl rfl (by decide +kernel)) (gi_iter (ge_tup (ga_cons (ge_var 1) (ga_cons (ge_var 2) (ga_nil))))) (blkOk_by (N := N_next_stamp) (sc := defScope s_next_stamp) (by decide +kernel)) (fun _ _ _ _ _ gB1 => gct_name 9 gB1) (fun _ _ _ _ _ gB1 => gts_one (gt_notN (ge_var 9))) (fun _ _ _ _ _ gB1 => ge_var 9)) (gss_cons (gs_asg (ge_maxDf g t.n_max (ge_lc [("stamp", 9)] (.nm 9) g (gi_iter (ge_var 4)) (blkOk_by (N := N_next_stamp) (sc := defScope s_next_stamp) (by decide +kernel)) (fun _ _ _ _ _ gB2 => gct_name 9 gB2) (fun _ _ _ _ _ gB2 => gts_nil) (fun _ _ _ _ _ gB2 => ge_ix gB2 (ge_var 9) (ge_int))) (ge_sub (ge_var 3) (ge_int))) (gg_name g 5)) (gss_cons (gs_if (gt_cmp g (ge_var 3) (ge_var 5)) (gss_one (gs_ret (ge_tup (ga_cons (ge_var 3) (ga_cons (ge_int) (ga_nil)))))) (gss_nil)) (gss_cons (gs_asg (ge_add (ge_int) (ge_max1 g t.n_max (ge_lc [("stamp", 9)] (.nm 9) g (gi_iter (ge_var 4)) (blkOk_by (N := N_next_stamp) (sc := defScope s_next_stamp) (by decide +kernel)) (fun _ _ _ _ _ gB3 => gct_name 9 gB3) (fun _ _ _ _ _ gB3 => gts_one (gt_cmp gB3 (ge_ix gB3 (ge_var 9) (ge_int)) (ge_var 5))) (fun _ _ _ _ _ gB3 => ge_ix gB3 (ge_var 9) (ge_int))))) (gg_name g 6)) (gss_cons (gs_asg (ge_slice (ge_var 0) (go_some (ge_int)) (go_none)) (gg_tup g (ggs_cons (gg_name g 7) (ggs_cons (gg_name g 8) (ggs_nil))))) (gss_cons (gs_if (gt_bool (gw_or (gt_isN (ge_var 7)) (gw_or1 (gt_cmp g (ge_var 6) (ge_var 7))))) (gss_one (gs_ret (ge_tup (ga_cons (ge_var 5) (ga_cons (ge_var 6) (ga_nil)))))) (gss_nil)) (gss_one (gs_ret (ge_if (gt_cmp g (ge_var 8) (ge_str)) (ge_tup (ga_cons (ge_add (ge_var 5) (ge_int)) (ga_cons (ge_int) (ga_nil)))) (ge_none)))))))))
abbrev N_stamps_by : List Str := ["cluster", "run", "latest", "found", "host", "tick", "reading", "letter", "heard", "stamp"]
theorem sc_stamps_by : FnScope N_stamps_by ["cluster", "run"] (defScope s_stamps_by) := ⟨rfl, rfl, rfl, by decide +kernel, rfl, by decide +kernel, by decide +kernel⟩
theorem h_stamps_by (t : Tx P w K mg cc) : HasB P w K mg base 2 "stamps_by" ["cluster", "run"] F_stamps_by (fun fd => True) := by
  obtain ⟨f, fd, hF, hm, hb, hk⟩ := t.d_stamps_by
  obtain ⟨f_next_stamp, fd_next_stamp, D_next_stamp, _⟩ := h_next_stamp (base := base) t
  refine ⟨f, fd, ⟨fnG_of hF sc_stamps_by (.inr rfl) ?_, hm, hF.kp, hb⟩, hk⟩
  intro cdv A outer s H E g hr tk po
  exact gss_cons (gs_asg (ge_newK) (gg_name g 2)) (gss_cons (gs_asg (ge_lstM (ga_nil)) (gg_name g 3)) (gss_cons (gs_for [4, 5, 6, 7, 8, 9] g po (gi_iter (ge_var 1)) (gg_tup g (ggs_cons (gg_name g 4) (ggs_cons (gg_name g 5) (ggs_cons (gg_name g 6) (ggs_cons (gg_name g 7) (ggs_nil)))))) (gss_cons (gs_asg (ge_if (gt_isN (ge_var 7)) (ge_none) (ge_ix g (ge_var 3) (ge_var 7))) (gg_name g 8)) (gss_cons (gs_asg (ge_call (D_next_stamp.mono (by decide)) hr g tk (ga_cons (ge_var 0) (ga_cons (ge_get2 g (ge_var 2) (ge_var 4) (ge_none)) (ga_cons (ge_var 8) (ga_cons (ge_var 6) (ga_nil))))) (ln_cons (ln_cons (ln_cons (ln_cons (ln_nil)))))) (gg_name g 9)) (gss_cons (gs_asg (ge_var 9) (gg_sub g (ge_var 2) (ge_var 4))) (gss_cons (gs_expr (ge_append (ge_var 3) (ge_var 9))) (gss_one (gs_if (gt_isN (ge_var 9)) (gss_one (gs_ret (ge_var 3))) (gss_nil)))))))) (gss_one (gs_ret (ge_var 3)))))
abbrev N_last_by : List Str := ["run", "k", "found", "j"]
theorem sc_last_by : FnScope N_last_by ["run", "k"] (defScope s_last_by) := ⟨rfl, rfl, rfl, by decide +kernel, rfl, by decide +kernel, by decide +kernel⟩
theorem h_last_by (t : Tx P w K mg cc) : HasB P w K mg base 1 "last_by" ["run", "k"] F_last_by (fun fd => True) := by
  obtain ⟨f, fd, hF, hm, hb, hk⟩ := t.d_last_by
  refine ⟨f, fd, ⟨fnG_of hF sc_last_by (.inr rfl) ?_, hm, hF.kp, hb⟩, hk⟩
  intro cdv A outer s H E g hr tk po
  exact gss_cons (gs_setLc (i := 2) [("j", 3)] (.nm 3) g rfl rfl (sw_true rfl rfl rfl (by decide +kernel)) (gi_range1 t.n_range (ge_var 1)) (blkOk_by (N := N_last_by) (sc := defScope s_last_by) (by decide +kernel)) (fun _ _ _ _ _ gB1 => gct_name 3 gB1) (fun _ _ _ _ _ gB1 => gts_one (gt_cmp gB1 (ge_ix gB1 (ge_ix gB1 (ge_var 0) (ge_var 3)) (ge_int)) (ge_ix gB1 (ge_ix gB1 (ge_var 0) (ge_var 1)) (ge_int)))) (fun _ _ _ _ _ gB1 => ge_var 3)) (gss_one (gs_ret (ge_if (gt_cmp g (ge_len t.n_len (ge_var 2)) (ge_int)) (ge_ix g (ge_var 2) (ge_neg (ge_int))) (ge_none))))
abbrev N_causes_of : List Str := ["run", "k", "j"]
theorem sc_causes_of : FnScope N_causes_of ["run", "k"] (defScope s_causes_of) := ⟨rfl, rfl, rfl, by decide +kernel, rfl, by decide +kernel, by decide +kernel⟩
theorem h_causes_of (t : Tx P w K mg cc) : HasB P w K mg base 2 "causes_of" ["run", "k"] F_causes_of (fun fd => True) := by
  obtain ⟨f, fd, hF, hm, hb, hk⟩ := t.d_causes_of
  obtain ⟨f_last_by, fd_last_by, D_last_by, _⟩ := h_last_by (base := base) t
  refine ⟨f, fd, ⟨fnG_of hF sc_causes_of (.inr rfl) ?_, hm, hF.kp, hb⟩, hk⟩
  intro cdv A outer s H E g hr tk po
  exact gss_one (gs_ret (ge_lc [("j", 2)] (.nm 2) g (gi_iter (ge_tup (ga_cons (ge_call (D_last_by.mono (by decide)) hr g tk (ga_cons (ge_var 0) (ga_cons (ge_var 1) (ga_nil))) (ln_cons (ln_cons (ln_nil)))) (ga_cons (ge_ix g (ge_ix g (ge_var 0) (ge_var 1)) (ge_int)) (ga_nil))))) (blkOk_by (N := N_causes_of) (sc := defScope s_causes_of) (by decide +kernel)) (fun _ _ _ _ _ gB1 => gct_name 2 gB1) (fun _ _ _ _ _ gB1 => gts_one (gt_notN (ge_var 2))) (fun _ _ _ _ _ gB1 => ge_var 2)))
abbrev N_longest_chain : List Str := ["cluster", "run", "k", "stamps", "found", "near", "j"]
theorem sc_longest_chain : FnScope N_longest_chain ["cluster", "run", "k"] (defScope s_longest_chain) := ⟨rfl, rfl, rfl, by decide +kernel, rfl, by decide +kernel, by decide +kernel⟩
theorem h_longest_chain (t : Tx P w K mg cc) (tB : ∀ j < 2, TabB base mg (cc j) (tb j)) : HasB P w K mg base 4 "longest_chain" ["cluster", "run", "k"] (F_longest_chain tb) (fun fd => BindsK K fd ["cluster", "run", "k"] ["k", "run", "cluster"] (perm [2, 1, 0]) ∧ True) := by
  obtain ⟨f, fd, hF, kp, hm, hb, hk⟩ := t.d_longest_chain
  obtain ⟨f_want, fd_want, D_want, _⟩ := h_want (base := base) t
  obtain ⟨f_is_index, fd_is_index, D_is_index, _⟩ := h_is_index (base := base) t
  obtain ⟨f_stamps_by, fd_stamps_by, D_stamps_by, _⟩ := h_stamps_by (base := base) t
  obtain ⟨f_causes_of, fd_causes_of, D_causes_of, _⟩ := h_causes_of (base := base) t
  refine ⟨f, fd, ⟨fnG_cd hF sc_longest_chain (.inr rfl) ?_, hm, kp, hb⟩, hk⟩
  intro A outer s H E g hr tk po
  exact gss_cons (gs_expr (ge_call (D_want.mono (by decide)) hr g tk (ga_cons (ge_call (D_is_index.mono (by decide)) hr g tk (ga_cons (ge_var 1) (ga_cons (ge_var 2) (ga_nil))) (ln_cons (ln_cons (ln_nil)))) (ga_cons (ge_str) (ga_nil))) (ln_cons (ln_cons (ln_nil))))) (gss_cons (gs_asg (ge_call (D_stamps_by.mono (by decide)) hr g tk (ga_cons (ge_var 0) (ga_cons (ge_var 1) (ga_nil))) (ln_cons (ln_cons (ln_nil)))) (gg_name g 3)) (gss_cons (gs_asg (ge_lst (ga_cons (ge_var 2) (ga_nil))) (gg_name g 4)) (gss_cons (gs_asg (ge_lst (ga_cons (ge_var 2) (ga_nil))) (gg_name g 5)) (gss_cons (gs_while [] 100000 po (gt_cmp g (ge_len t.n_len (ge_var 5)) (ge_int)) (gss_cons (gs_setLc (i := 5) [("j", 6)] (.nm 6) g rfl rfl (sw_true rfl rfl rfl (by decide +kernel)) (gi_iter (ge_call (D_causes_of.mono (by decide)) hr g tk (ga_cons (ge_var 1) (ga_cons (ge_ix g (ge_var 4) (ge_int)) (ga_nil))) (ln_cons (ln_cons (ln_nil))))) (blkOk_by (N := N_longest_chain) (sc := defScope s_longest_chain) (by decide +kernel)) (fun _ _ _ _ _ gB1 => gct_name 6 gB1) (fun _ _ _ _ _ gB1 => gts_one (gt_cmp gB1 (ge_ix gB1 (ge_ix gB1 (ge_var 3) (ge_var 6)) (ge_int)) (ge_ix gB1 (ge_ix gB1 (ge_var 3) (ge_var 2)) (ge_int)))) (fun _ _ _ _ _ gB1 => ge_var 6)) (gss_one (gs_if (gt_cmp g (ge_len t.n_len (ge_var 5)) (ge_int)) (gss_one (gs_asg (ge_lst (ga_cons (ge_maxK (hr.mono (Nat.zero_le _)) g ⟨_, tB 0 (by decide), rfl⟩ t.n_max (ge_var 5) (keyp_ix2 (lamS1_by (sc := defScope s_longest_chain) (by decide +kernel)) (by decide +kernel) rfl rfl (by decide +kernel) (by decide +kernel)) (lamS1_by (sc := defScope s_longest_chain) (by decide +kernel))) (ga_star (ge_var 4) (ga_nil)))) (gg_name g 4))) (gss_nil))))) (gss_one (gs_ret (ge_totuple t.n_tuple (ge_var 4))))))))
abbrev N__law_is_one : List Str := ["_law_lot_here", "_law_stamps_here", "_law_told", "_law_spot", "_law_one", "_law_place"]
theorem sc__law_is_one : FnScope N__law_is_one ["_law_lot_here", "_law_stamps_here", "_law_told", "_law_spot"] (defScope s__law_is_one) := ⟨rfl, rfl, rfl, by decide +kernel, rfl, by decide +kernel, by decide +kernel⟩
theorem h__law_is_one (t : Tx P w K mg cc) : HasB P w K mg base 3 "_law_is_one" ["_law_lot_here", "_law_stamps_here", "_law_told", "_law_spot"] F__law_is_one (fun fd => True) := by
  obtain ⟨f, fd, hF, hm, hb, hk⟩ := t.d__law_is_one
  obtain ⟨f__law_steps, fd__law_steps, D__law_steps, _⟩ := h__law_steps (base := base) t
  refine ⟨f, fd, ⟨fnG_of hF sc__law_is_one (.inr rfl) ?_, hm, hF.kp, hb⟩, hk⟩
  intro cdv A outer s H E g hr tk po
  exact gss_cons (gs_if (gt_bool (gw_or (gt_not (gt_val (ge_isi .tuple t.n_isinstance t.n_tuple (ge_var 2)))) (gw_or1 (gt_cmp g (ge_var 2) (ge_tup (ga_nil)))))) (gss_one (gs_ret (ge_bool))) (gss_nil)) (gss_cons (gs_for [4] g po (gi_iter (ge_var 2)) (gg_name g 4) (gss_cons (gs_if (gt_bool (gw_or (gt_not (gt_val (ge_isi .int t.n_isinstance t.n_int (ge_var 4)))) (gw_or1 (gt_val (ge_isi .bool t.n_isinstance t.n_bool (ge_var 4)))))) (gss_one (gs_ret (ge_bool))) (gss_nil)) (gss_one (gs_if (gt_not (gt_chain g (ge_int) (ge_var 4) (ge_len t.n_len (ge_var 0)))) (gss_one (gs_ret (ge_bool))) (gss_nil))))) (gss_cons (gs_if (gt_cmp g (ge_ix g (ge_var 2) (ge_neg (ge_int))) (ge_var 3)) (gss_one (gs_ret (ge_bool))) (gss_nil)) (gss_cons (gs_if (gt_cmp g (ge_lc [("_law_one", 4)] (.nm 4) g (gi_iter (ge_var 2)) (blkOk_by (N := N__law_is_one) (sc := defScope s__law_is_one) (by decide +kernel)) (fun _ _ _ _ _ gB1 => gct_name 4 gB1) (fun _ _ _ _ _ gB1 => gts_one (gt_cmp gB1 (ge_ix gB1 (ge_ix gB1 (ge_var 1) (ge_var 4)) (ge_int)) (ge_ix gB1 (ge_ix gB1 (ge_var 1) (ge_var 3)) (ge_int)))) (fun _ _ _ _ _ gB1 => ge_var 4)) (ge_lst (ga_nil))) (gss_one (gs_ret (ge_bool))) (gss_nil)) (gss_cons (gs_for [5] g po (gi_range2 t.n_range (ge_int) (ge_len t.n_len (ge_var 2))) (gg_name g 5) (gss_one (gs_if (gt_cmp g (ge_ix g (ge_var 2) (ge_sub (ge_var 5) (ge_int))) (ge_call (D__law_steps.mono (by decide)) hr g tk (ga_cons (ge_var 0) (ga_cons (ge_ix g (ge_var 2) (ge_var 5)) (ga_nil))) (ln_cons (ln_cons (ln_nil))))) (gss_one (gs_ret (ge_bool))) (gss_nil)))) (gss_one (gs_ret (ge_bool)))))))
abbrev N__law_said : List Str := ["_law_ask", "e", "_law_homes"]
theorem sc__law_said : FnScope N__law_said ["_law_ask"] (defScope s__law_said) := ⟨rfl, rfl, rfl, by decide +kernel, rfl, by decide +kernel, by decide +kernel⟩
theorem hs__law_said (t : Tx P w K mg cc) : Said P w K mg base "_law_said" sF__law_said := by
  obtain ⟨f, fd, hF, hm, hb, _⟩ := t.d__law_said
  obtain ⟨CS, hme, hcs⟩ := t.m_StampError
  refine said_of (Ng := N__law_said) (u := "told") (a := "_law_ask") (n := "e") (C := "StampError") (cs := cs__law_said) (i := 1) (bh := b__law_said) hF hm hb sc__law_said (by rfl) hme hcs ind__law_said ?_
  intro cdv A outer s H b dd c oe pn hc u g0
  exact gss_cons (gs_asg (ge_lstM (ga_cons (ge_isE u (t.i_PaperError c hc) t.n_isinstance (ge_var 1)) (ga_cons (ge_isE u (t.i_ClusterError c hc) t.n_isinstance (ge_var 1)) (ga_cons (ge_isE u (t.i_LiveError c hc) t.n_isinstance (ge_var 1)) (ga_nil))))) (gg_name g0 2)) (gss_cons (gs_expr (ge_append (ge_var 2) (ge_isE u (t.i_TextError c hc) t.n_isinstance (ge_var 1)))) (gss_cons (gs_if (gt_bool (gw_or (gt_cmp g0 (ge_count g0 (ge_var 2) (ge_bool)) (ge_int)) (gw_or1 (gt_not (gt_val (ge_isEb u (t.i_ValueError c hc) t.n_isinstance t.n_ValueError (ge_var 1))))))) (gss_one (gs_ret (ge_tup (ga_cons (ge_str) (ga_nil))))) (gss_nil)) (gss_cons (gs_if (gt_bool (gw_and (gt_val (ge_ix g0 (ge_var 2) (ge_int))) (gw_and1 (gt_val (ge_isE u (t.i_InvalidPaper c hc) t.n_isinstance (ge_var 1)))))) (gss_one (gs_ret (ge_tup (ga_cons (ge_str) (ga_cons (ge_fld u (t.f_word c hc) (ge_var 1)) (ga_cons (ge_fld u (t.f_at c hc) (ge_var 1)) (ga_nil))))))) (gss_nil)) (gss_cons (gs_if (gt_bool (gw_and (gt_val (ge_ix g0 (ge_var 2) (ge_int))) (gw_and (gt_val (ge_isE u (t.i_NotUsable c hc) t.n_isinstance (ge_var 1))) (gw_and (gt_not (gt_val (ge_isE u (t.i_RunsAhead c hc) t.n_isinstance (ge_var 1)))) (gw_and1 (gt_not (gt_val (ge_isE u (t.i_Shut c hc) t.n_isinstance (ge_var 1))))))))) (gss_one (gs_ret (ge_tup (ga_cons (ge_str) (ga_cons (ge_fld u (t.f_word c hc) (ge_var 1)) (ga_cons (ge_fld u (t.f_at c hc) (ge_var 1)) (ga_nil))))))) (gss_nil)) (gss_one (gs_ret (ge_tup (ga_cons (ge_str) (ga_nil)))))))))
abbrev N__law_same : List Str := ["_law_told", "_law_due"]
theorem sc__law_same : FnScope N__law_same ["_law_told", "_law_due"] (defScope s__law_same) := ⟨rfl, rfl, rfl, by decide +kernel, rfl, by decide +kernel, by decide +kernel⟩
theorem h__law_same (t : Tx P w K mg cc) : HasB P w K mg base 1 "_law_same" ["_law_told", "_law_due"] F__law_same (fun fd => True) := by
  obtain ⟨f, fd, hF, hm, hb, hk⟩ := t.d__law_same
  refine ⟨f, fd, ⟨fnG_of hF sc__law_same (.inr rfl) ?_, hm, hF.kp, hb⟩, hk⟩
  intro cdv A outer s H E g hr tk po
  exact gss_one (gs_ret (ge_cmp g (ge_reprF g t.n_repr (ge_var 0)) (ge_reprF g t.n_repr (ge_var 1))))
abbrev N__law_is_right : List Str := ["_law_net_here", "_law_lot_here", "_law_stamps_here", "_law_lengths_here", "_law_spot", "_law_answers", "_law_told", "_law_odd", "_law_one"]
theorem sc__law_is_right : FnScope N__law_is_right ["_law_net_here", "_law_lot_here"] (defScope s__law_is_right) := ⟨rfl, rfl, rfl, by decide +kernel, rfl, by decide +kernel, by decide +kernel⟩
theorem h__law_is_right (t : Tx P w K mg cc) (tB : ∀ j < 2, TabB base mg (cc j) (tb j)) : HasB P w K mg base 7 "_law_is_right" ["_law_net_here", "_law_lot_here"] (F__law_is_right tb) (fun fd => True) := by
  obtain ⟨f, fd, hF, kp, hm, hb, hk⟩ := t.d__law_is_right
  obtain ⟨f__law_stamps, fd__law_stamps, D__law_stamps, _⟩ := h__law_stamps (base := base) t
  obtain ⟨f__law_lengths, fd__law_lengths, D__law_lengths, _⟩ := h__law_lengths (base := base) t
  obtain ⟨f_longest_chain, fd_longest_chain, D_longest_chain, BK_longest_chain_k_run_cluster, _⟩ := h_longest_chain (base := base) t tB
  obtain ⟨f__law_is_one, fd__law_is_one, D__law_is_one, _⟩ := h__law_is_one (base := base) t
  have S__law_said := hs__law_said (base := base) t
  obtain ⟨f__law_same, fd__law_same, D__law_same, _⟩ := h__law_same (base := base) t
  refine ⟨f, fd, ⟨fnG_cd hF sc__law_is_right (.inr rfl) ?_, hm, kp, hb⟩, hk⟩
  intro A outer s H E g hr tk po
  exact gss_cons (gs_asg (ge_call (D__law_stamps.mono (by decide)) hr g tk (ga_cons (ge_var 0) (ga_cons (ge_var 1) (ga_nil))) (ln_cons (ln_cons (ln_nil)))) (gg_name g 2)) (gss_cons (gs_asg (ge_call (D__law_lengths.mono (by decide)) hr g tk (ga_cons (ge_var 1) (ga_cons (ge_var 2) (ga_nil))) (ln_cons (ln_cons (ln_nil)))) (gg_name g 3)) (gss_cons (gs_for [4, 5, 6] g po (gi_range1 t.n_range (ge_len t.n_len (ge_var 1))) (gg_name g 4) (gss_cons (gs_asg (ge_lst (ga_cons (ge_call (D_longest_chain.mono (by decide)) hr g tk (ga_cons (ge_var 0) (ga_cons (ge_var 1) (ga_cons (ge_var 4) (ga_nil)))) (ln_cons (ln_cons (ln_cons (ln_nil))))) (ga_cons (ge_callK0 (g' := perm [2, 1, 0]) (D_longest_chain.mono (by decide)) BK_longest_chain_k_run_cluster hr g tk (gk_cons (ge_var 4) (gk_cons (ge_var 1) (gk_cons (ge_var 0) (gk_nil)))) (ln_cons (ln_cons (ln_cons (ln_nil))))) (ga_nil)))) (gg_name g 5)) (gss_one (gs_for [6] g po (gi_iter (ge_var 5)) (gg_name g 6) (gss_cons (gs_if (gt_not (gt_val (ge_call (D__law_is_one.mono (by decide)) hr g tk (ga_cons (ge_var 1) (ga_cons (ge_var 2) (ga_cons (ge_var 6) (ga_cons (ge_var 4) (ga_nil))))) (ln_cons (ln_cons (ln_cons (ln_cons (ln_nil)))))))) (gss_one (gs_ret (ge_bool))) (gss_nil)) (gss_cons (gs_if (gt_cmp g (ge_len t.n_len (ge_var 6)) (ge_ix g (ge_var 3) (ge_var 4))) (gss_one (gs_ret (ge_bool))) (gss_nil)) (gss_one (gs_if (gt_cmp g (ge_lc [("_law_one", 8)] (.nm 8) g (gi_iter (ge_var 6)) (blkOk_by (N := N__law_is_right) (sc := defScope s__law_is_right) (by decide +kernel)) (fun _ _ _ _ _ gB1 => gct_name 8 gB1) (fun _ _ _ _ _ gB1 => gts_nil) (fun _ _ _ _ _ gB1 => ge_ix gB1 (ge_ix gB1 (ge_var 2) (ge_var 8)) (ge_int))) (ge_listR g t.n_list t.n_range (ge_len t.n_len (ge_var 6)))) (gss_one (gs_ret (ge_bool))) (gss_nil))))))))) (gss_cons (gs_for [6, 7] g po (gi_iter (ge_lst (ga_cons (ge_none) (ga_cons (ge_bool) (ga_cons (ge_bool) (ga_cons (ge_neg (ge_int)) (ga_cons (ge_len t.n_len (ge_var 1)) (ga_cons (ge_add (ge_len t.n_len (ge_var 1)) (ge_int)) (ga_cons (ge_pow (ge_int) (ge_int)) (ga_cons (ge_str) (ga_cons (ge_tup (ga_cons (ge_int) (ga_nil))) (ga_cons (ge_lst (ga_cons (ge_int) (ga_nil))) (ga_nil))))))))))))) (gg_name g 7) (gss_cons (gs_asg (ge_lstM (ga_cons (ge_said S__law_said hr g ⟨_, tB 1 (by decide), rfl⟩ (fun _ _ _ _ _ _ _ rL2 gL3 kL4 => ge_call (D_longest_chain.mono (by decide)) rL2 gL3 kL4 (ga_cons (ge_var 0) (ga_cons (ge_var 1) (ga_cons (ge_var 7) (ga_nil)))) (ln_cons (ln_cons (ln_cons (ln_nil))))) (lamS_by (sc := defScope s__law_is_right) (by decide +kernel))) (ga_nil))) (gg_name g 6)) (gss_cons (gs_expr (ge_append (ge_var 6) (ge_said S__law_said hr g ⟨_, tB 1 (by decide), rfl⟩ (fun _ _ _ _ _ _ _ rL5 gL6 kL7 => ge_callK0 (g' := perm [2, 1, 0]) (D_longest_chain.mono (by decide)) BK_longest_chain_k_run_cluster rL5 gL6 kL7 (gk_cons (ge_var 7) (gk_cons (ge_var 1) (gk_cons (ge_var 0) (gk_nil)))) (ln_cons (ln_cons (ln_cons (ln_nil))))) (lamS_by (sc := defScope s__law_is_right) (by decide +kernel))))) (gss_one (gs_if (gt_not (gt_val (ge_call (D__law_same.mono (by decide)) hr g tk (ga_cons (ge_var 6) (ga_cons (ge_mulS (ge_lst (ga_cons (ge_tup (ga_cons (ge_str) (ga_cons (ge_str) (ga_cons (ge_neg (ge_int)) (ga_nil))))) (ga_nil))) (ge_int)) (ga_nil))) (ln_cons (ln_cons (ln_nil)))))) (gss_one (gs_ret (ge_bool))) (gss_nil)))))) (gss_one (gs_ret (ge_bool))))))
abbrev N_law : List Str := ["_law_script", "_law_feed_here", "_law_lap", "_law_net_here", "_law_lot_here", "_law_before_here", "_law_rest", "_law_late"]
theorem sc_law : FnScope N_law ["_law_script"] (defScope s_law) := ⟨rfl, rfl, rfl, by decide +kernel, rfl, by decide +kernel, by decide +kernel⟩
theorem h_law (t : Tx P w K mg cc) (tB : ∀ j < 2, TabB base mg (cc j) (tb j)) {f : Addr} {fd : FuncData} (hF : Fun K "law" "law" s_law f fd) : FnG P w K mg base 8 f fd ["_law_script"] (F_law tb) := by
  obtain ⟨f__law_feed, fd__law_feed, D__law_feed, _⟩ := h__law_feed (base := base) t
  obtain ⟨f__law_net, fd__law_net, D__law_net, _⟩ := h__law_net (base := base) t
  obtain ⟨f__law_lot, fd__law_lot, D__law_lot, _⟩ := h__law_lot (base := base) t
  obtain ⟨f__law_draw, fd__law_draw, D__law_draw, _⟩ := h__law_draw (base := base) t
  obtain ⟨f__law_stamps, fd__law_stamps, D__law_stamps, _⟩ := h__law_stamps (base := base) t
  obtain ⟨f__law_is_right, fd__law_is_right, D__law_is_right, _⟩ := h__law_is_right (base := base) t tB
  refine fnG_of hF sc_law (.inr rfl) ?_
  intro cdv A outer s H E g hr tk po
  exact gss_cons (gs_asg (ge_call (D__law_feed.mono (by decide)) hr g tk (ga_cons (ge_var 0) (ga_nil)) (ln_cons (ln_nil))) (gg_name g 1)) (gss_cons (gs_for [2, 3, 4, 5, 6, 7] g po (gi_range1 t.n_range (ge_int)) (gg_name g 2) (gss_cons (gs_asg (ge_call (D__law_net.mono (by decide)) hr g tk (ga_cons (ge_var 1) (ga_nil)) (ln_cons (ln_nil))) (gg_name g 3)) (gss_cons (gs_asg (ge_call (D__law_lot.mono (by decide)) hr g tk (ga_cons (ge_var 1) (ga_cons (ge_var 3) (ga_cons (ge_if (gt_cmp g (ge_call (D__law_draw.mono (by decide)) hr g tk (ga_cons (ge_var 1) (ga_cons (ge_int) (ga_nil))) (ln_cons (ln_cons (ln_nil)))) (ge_int)) (ge_call (D__law_draw.mono (by decide)) hr g tk (ga_cons (ge_var 1) (ga_cons (ge_int) (ga_nil))) (ln_cons (ln_cons (ln_nil)))) (ge_int)) (ga_nil)))) (ln_cons (ln_cons (ln_cons (ln_nil))))) (gg_name g 4)) (gss_cons (gs_asg (ge_reprF g t.n_repr (ge_lst (ga_cons (ge_var 3) (ga_cons (ge_var 4) (ga_nil))))) (gg_name g 5)) (gss_cons (gs_for [6, 7] g po (gi_iter (ge_lst (ga_cons (ge_slice (ge_var 3) (go_some (ge_int)) (go_none)) (ga_cons (ge_tup (ga_cons (ge_int) (ga_cons (ge_str) (ga_nil)))) (ga_cons (ge_tup (ga_cons (ge_int) (ga_cons (ge_str) (ga_nil)))) (ga_cons (ge_tup (ga_cons (ge_int) (ga_cons (ge_str) (ga_nil)))) (ga_cons (ge_tup (ga_cons (ge_none) (ga_cons (ge_str) (ga_nil)))) (ga_nil)))))))) (gg_name g 6) (gss_cons (gs_asg (ge_add (ge_slice (ge_var 3) (go_none) (go_some (ge_int))) (ge_var 6)) (gg_name g 7)) (gss_one (gs_if (gt_bool (gw_and (gt_notN (ge_call (D__law_stamps.mono (by decide)) hr g tk (ga_cons (ge_var 7) (ga_cons (ge_var 4) (ga_nil))) (ln_cons (ln_cons (ln_nil))))) (gw_and1 (gt_not (gt_val (ge_call (D__law_is_right.mono (by decide)) hr g tk (ga_cons (ge_var 7) (ga_cons (ge_var 4) (ga_nil))) (ln_cons (ln_cons (ln_nil))))))))) (gss_one (gs_ret (ge_bool))) (gss_nil))))) (gss_one (gs_if (gt_cmp g (ge_reprF g t.n_repr (ge_lst (ga_cons (ge_var 3) (ga_cons (ge_var 4) (ga_nil))))) (ge_var 5)) (gss_one (gs_ret (ge_bool))) (gss_nil)))))))) (gss_one (gs_ret (ge_bool))))
end
theorem all_mk {w : World} {K : PySem.W.Frag} {h : Heap} {mg : Str → Option Value} {fa : Addr} (X : K.In h) (G : h.Ns mainGlobals mg) (hfa : mg "law" = some (.ref fa))
    {f0 : Addr} {od0 an0 : Option Addr} {sl0 : Array (Option Value)} {oc0 kV0 dc0 pm0 cd0 ct0 : Value}
    (a0 : PySem.W.nsIn K mainGlobals "_law_feed" = some (some (.ref f0)))
    (l0 : K.lookup f0 = some ⟨oc0, od0, .func (PySem.W.fnOf "_law_feed" "_law_feed" (defArgs s__law_feed) (defBody s__law_feed) (defScope s__law_feed) .none kV0 dc0 pm0 an0 cd0 ct0), sl0⟩)
    (c0 : PySem.W.codeIn K cd0 "_law_feed" = true)
    (k0 : PySem.W.keepIn K (.ref f0) = true)
    {f1 : Addr} {od1 an1 : Option Addr} {sl1 : Array (Option Value)} {oc1 kV1 dc1 pm1 cd1 ct1 : Value}
    (a1 : PySem.W.nsIn K mainGlobals "_law_draw" = some (some (.ref f1)))
    (l1 : K.lookup f1 = some ⟨oc1, od1, .func (PySem.W.fnOf "_law_draw" "_law_draw" (defArgs s__law_draw) (defBody s__law_draw) (defScope s__law_draw) .none kV1 dc1 pm1 an1 cd1 ct1), sl1⟩)
    (c1 : PySem.W.codeIn K cd1 "_law_draw" = true)
    (k1 : PySem.W.keepIn K (.ref f1) = true)
    {f2 : Addr} {od2 an2 : Option Addr} {sl2 : Array (Option Value)} {oc2 kV2 dc2 pm2 cd2 ct2 : Value}
    (a2 : PySem.W.nsIn K mainGlobals "_law_any" = some (some (.ref f2)))
    (l2 : K.lookup f2 = some ⟨oc2, od2, .func (PySem.W.fnOf "_law_any" "_law_any" (defArgs s__law_any) (defBody s__law_any) (defScope s__law_any) .none kV2 dc2 pm2 an2 cd2 ct2), sl2⟩)
    (c2 : PySem.W.codeIn K cd2 "_law_any" = true)
    (k2 : PySem.W.keepIn K (.ref f2) = true)
    {f3 : Addr} {od3 an3 : Option Addr} {sl3 : Array (Option Value)} {oc3 kV3 dc3 pm3 cd3 ct3 : Value}
    (a3 : PySem.W.nsIn K mainGlobals "_law_net" = some (some (.ref f3)))
    (l3 : K.lookup f3 = some ⟨oc3, od3, .func (PySem.W.fnOf "_law_net" "_law_net" (defArgs s__law_net) (defBody s__law_net) (defScope s__law_net) .none kV3 dc3 pm3 an3 cd3 ct3), sl3⟩)
    (c3 : PySem.W.codeIn K cd3 "_law_net" = true)
    (k3 : PySem.W.keepIn K (.ref f3) = true)
    {f4 : Addr} {od4 an4 : Option Addr} {sl4 : Array (Option Value)} {oc4 kV4 dc4 pm4 cd4 ct4 : Value}
    (a4 : PySem.W.nsIn K mainGlobals "_law_letters" = some (some (.ref f4)))
    (l4 : K.lookup f4 = some ⟨oc4, od4, .func (PySem.W.fnOf "_law_letters" "_law_letters" (defArgs s__law_letters) (defBody s__law_letters) (defScope s__law_letters) .none kV4 dc4 pm4 an4 cd4 ct4), sl4⟩)
    (c4 : PySem.W.codeIn K cd4 "_law_letters" = true)
    (k4 : PySem.W.keepIn K (.ref f4) = true)
    {f5 : Addr} {od5 an5 : Option Addr} {sl5 : Array (Option Value)} {oc5 kV5 dc5 pm5 cd5 ct5 : Value}
    (a5 : PySem.W.nsIn K mainGlobals "_law_before" = some (some (.ref f5)))
    (l5 : K.lookup f5 = some ⟨oc5, od5, .func (PySem.W.fnOf "_law_before" "_law_before" (defArgs s__law_before) (defBody s__law_before) (defScope s__law_before) .none kV5 dc5 pm5 an5 cd5 ct5), sl5⟩)
    (c5 : PySem.W.codeIn K cd5 "_law_before" = true)
    (k5 : PySem.W.keepIn K (.ref f5) = true)
    {f6 : Addr} {od6 an6 : Option Addr} {sl6 : Array (Option Value)} {oc6 kV6 dc6 pm6 cd6 ct6 : Value}
    (a6 : PySem.W.nsIn K mainGlobals "_law_steps" = some (some (.ref f6)))
    (l6 : K.lookup f6 = some ⟨oc6, od6, .func (PySem.W.fnOf "_law_steps" "_law_steps" (defArgs s__law_steps) (defBody s__law_steps) (defScope s__law_steps) .none kV6 dc6 pm6 an6 cd6 ct6), sl6⟩)
    (c6 : PySem.W.codeIn K cd6 "_law_steps" = true)
    (k6 : PySem.W.keepIn K (.ref f6) = true)
    {f7 : Addr} {od7 an7 : Option Addr} {sl7 : Array (Option Value)} {oc7 kV7 dc7 pm7 cd7 ct7 : Value}
    (a7 : PySem.W.nsIn K mainGlobals "_law_stamp" = some (some (.ref f7)))
    (l7 : K.lookup f7 = some ⟨oc7, od7, .func (PySem.W.fnOf "_law_stamp" "_law_stamp" (defArgs s__law_stamp) (defBody s__law_stamp) (defScope s__law_stamp) .none kV7 dc7 pm7 an7 cd7 ct7), sl7⟩)
    (c7 : PySem.W.codeIn K cd7 "_law_stamp" = true)
    (k7 : PySem.W.keepIn K (.ref f7) = true)
    {f8 : Addr} {od8 an8 : Option Addr} {sl8 : Array (Option Value)} {oc8 kV8 dc8 pm8 cd8 ct8 : Value}
    (a8 : PySem.W.nsIn K mainGlobals "_law_lot" = some (some (.ref f8)))
    (l8 : K.lookup f8 = some ⟨oc8, od8, .func (PySem.W.fnOf "_law_lot" "_law_lot" (defArgs s__law_lot) (defBody s__law_lot) (defScope s__law_lot) .none kV8 dc8 pm8 an8 cd8 ct8), sl8⟩)
    (c8 : PySem.W.codeIn K cd8 "_law_lot" = true)
    (k8 : PySem.W.keepIn K (.ref f8) = true)
    {f9 : Addr} {od9 an9 : Option Addr} {sl9 : Array (Option Value)} {oc9 kV9 dc9 pm9 cd9 ct9 : Value}
    (a9 : PySem.W.nsIn K mainGlobals "_law_stamps" = some (some (.ref f9)))
    (l9 : K.lookup f9 = some ⟨oc9, od9, .func (PySem.W.fnOf "_law_stamps" "_law_stamps" (defArgs s__law_stamps) (defBody s__law_stamps) (defScope s__law_stamps) .none kV9 dc9 pm9 an9 cd9 ct9), sl9⟩)
    (c9 : PySem.W.codeIn K cd9 "_law_stamps" = true)
    (k9 : PySem.W.keepIn K (.ref f9) = true)
    {f10 : Addr} {od10 an10 : Option Addr} {sl10 : Array (Option Value)} {oc10 kV10 dc10 pm10 cd10 ct10 : Value}
    (a10 : PySem.W.nsIn K mainGlobals "_law_lengths" = some (some (.ref f10)))
    (l10 : K.lookup f10 = some ⟨oc10, od10, .func (PySem.W.fnOf "_law_lengths" "_law_lengths" (defArgs s__law_lengths) (defBody s__law_lengths) (defScope s__law_lengths) .none kV10 dc10 pm10 an10 cd10 ct10), sl10⟩)
    (c10 : PySem.W.codeIn K cd10 "_law_lengths" = true)
    (k10 : PySem.W.keepIn K (.ref f10) = true)
    {f11 : Addr} {od11 an11 : Option Addr} {sl11 : Array (Option Value)} {oc11 kV11 dc11 pm11 cd11 ct11 : Value}
    (a11 : PySem.W.nsIn K mainGlobals "want" = some (some (.ref f11)))
    (l11 : K.lookup f11 = some ⟨oc11, od11, .func (PySem.W.fnOf "want" "want" (defArgs s_want) (defBody s_want) (defScope s_want) .none kV11 dc11 pm11 an11 cd11 ct11), sl11⟩)
    (c11 : PySem.W.codeIn K cd11 "want" = true)
    (k11 : PySem.W.keepIn K (.ref f11) = true)
    {f12 : Addr} {od12 an12 : Option Addr} {sl12 : Array (Option Value)} {oc12 kV12 dc12 pm12 cd12 ct12 : Value}
    (a12 : PySem.W.nsIn K mainGlobals "is_integer" = some (some (.ref f12)))
    (l12 : K.lookup f12 = some ⟨oc12, od12, .func (PySem.W.fnOf "is_integer" "is_integer" (defArgs s_is_integer) (defBody s_is_integer) (defScope s_is_integer) .none kV12 dc12 pm12 an12 cd12 ct12), sl12⟩)
    (c12 : PySem.W.codeIn K cd12 "is_integer" = true)
    (k12 : PySem.W.keepIn K (.ref f12) = true)
    {f13 : Addr} {od13 an13 : Option Addr} {sl13 : Array (Option Value)} {oc13 kV13 dc13 pm13 cd13 ct13 : Value}
    (a13 : PySem.W.nsIn K mainGlobals "is_number" = some (some (.ref f13)))
    (l13 : K.lookup f13 = some ⟨oc13, od13, .func (PySem.W.fnOf "is_number" "is_number" (defArgs s_is_number) (defBody s_is_number) (defScope s_is_number) .none kV13 dc13 pm13 an13 cd13 ct13), sl13⟩)
    (c13 : PySem.W.codeIn K cd13 "is_number" = true)
    (k13 : PySem.W.keepIn K (.ref f13) = true)
    {f14 : Addr} {od14 an14 : Option Addr} {sl14 : Array (Option Value)} {oc14 kV14 dc14 pm14 cd14 ct14 : Value}
    (a14 : PySem.W.nsIn K mainGlobals "is_index" = some (some (.ref f14)))
    (l14 : K.lookup f14 = some ⟨oc14, od14, .func (PySem.W.fnOf "is_index" "is_index" (defArgs s_is_index) (defBody s_is_index) (defScope s_is_index) .none kV14 dc14 pm14 an14 cd14 ct14), sl14⟩)
    (c14 : PySem.W.codeIn K cd14 "is_index" = true)
    (k14 : PySem.W.keepIn K (.ref f14) = true)
    {f15 : Addr} {od15 an15 : Option Addr} {sl15 : Array (Option Value)} {oc15 kV15 dc15 pm15 cd15 ct15 : Value}
    (a15 : PySem.W.nsIn K mainGlobals "next_stamp" = some (some (.ref f15)))
    (l15 : K.lookup f15 = some ⟨oc15, od15, .func (PySem.W.fnOf "next_stamp" "next_stamp" (defArgs s_next_stamp) (defBody s_next_stamp) (defScope s_next_stamp) .none kV15 dc15 pm15 an15 cd15 ct15), sl15⟩)
    (c15 : PySem.W.codeIn K cd15 "next_stamp" = true)
    (k15 : PySem.W.keepIn K (.ref f15) = true)
    {f16 : Addr} {od16 an16 : Option Addr} {sl16 : Array (Option Value)} {oc16 kV16 dc16 pm16 cd16 ct16 : Value}
    (a16 : PySem.W.nsIn K mainGlobals "stamps_by" = some (some (.ref f16)))
    (l16 : K.lookup f16 = some ⟨oc16, od16, .func (PySem.W.fnOf "stamps_by" "stamps_by" (defArgs s_stamps_by) (defBody s_stamps_by) (defScope s_stamps_by) .none kV16 dc16 pm16 an16 cd16 ct16), sl16⟩)
    (c16 : PySem.W.codeIn K cd16 "stamps_by" = true)
    (k16 : PySem.W.keepIn K (.ref f16) = true)
    {f17 : Addr} {od17 an17 : Option Addr} {sl17 : Array (Option Value)} {oc17 kV17 dc17 pm17 cd17 ct17 : Value}
    (a17 : PySem.W.nsIn K mainGlobals "last_by" = some (some (.ref f17)))
    (l17 : K.lookup f17 = some ⟨oc17, od17, .func (PySem.W.fnOf "last_by" "last_by" (defArgs s_last_by) (defBody s_last_by) (defScope s_last_by) .none kV17 dc17 pm17 an17 cd17 ct17), sl17⟩)
    (c17 : PySem.W.codeIn K cd17 "last_by" = true)
    (k17 : PySem.W.keepIn K (.ref f17) = true)
    {f18 : Addr} {od18 an18 : Option Addr} {sl18 : Array (Option Value)} {oc18 kV18 dc18 pm18 cd18 ct18 : Value}
    (a18 : PySem.W.nsIn K mainGlobals "causes_of" = some (some (.ref f18)))
    (l18 : K.lookup f18 = some ⟨oc18, od18, .func (PySem.W.fnOf "causes_of" "causes_of" (defArgs s_causes_of) (defBody s_causes_of) (defScope s_causes_of) .none kV18 dc18 pm18 an18 cd18 ct18), sl18⟩)
    (c18 : PySem.W.codeIn K cd18 "causes_of" = true)
    (k18 : PySem.W.keepIn K (.ref f18) = true)
    {f19 c0t P0t : Addr} {od19 an19 odt19 : Option Addr} {sl19 slt19 : Array (Option Value)} {oc19 kV19 dc19 pm19 ct19 oct19 : Value} {vs19 : Array Value}
    (a19 : PySem.W.nsIn K mainGlobals "longest_chain" = some (some (.ref f19)))
    (l19 : K.lookup f19 = some ⟨oc19, od19, .func (PySem.W.fnOf "longest_chain" "longest_chain" (defArgs s_longest_chain) (defBody s_longest_chain) (defScope s_longest_chain) .none kV19 dc19 pm19 an19 (.ref c0t) ct19), sl19⟩)
    (c19 : PySem.W.codeIn K (.ref c0t) "longest_chain" = true)
    (k19 : PySem.W.keepIn K (.ref f19) = true)
    (lt19 : K.lookup c0t = some ⟨oct19, odt19, .fields vs19, slt19⟩)
    (p19 : vs19[11]? = some (.ref P0t))
    {f20 : Addr} {od20 an20 : Option Addr} {sl20 : Array (Option Value)} {oc20 kV20 dc20 pm20 cd20 ct20 : Value}
    (a20 : PySem.W.nsIn K mainGlobals "_law_is_one" = some (some (.ref f20)))
    (l20 : K.lookup f20 = some ⟨oc20, od20, .func (PySem.W.fnOf "_law_is_one" "_law_is_one" (defArgs s__law_is_one) (defBody s__law_is_one) (defScope s__law_is_one) .none kV20 dc20 pm20 an20 cd20 ct20), sl20⟩)
    (c20 : PySem.W.codeIn K cd20 "_law_is_one" = true)
    (k20 : PySem.W.keepIn K (.ref f20) = true)
    {f21 : Addr} {od21 an21 : Option Addr} {sl21 : Array (Option Value)} {oc21 kV21 dc21 pm21 cd21 ct21 : Value}
    (a21 : PySem.W.nsIn K mainGlobals "_law_said" = some (some (.ref f21)))
    (l21 : K.lookup f21 = some ⟨oc21, od21, .func (PySem.W.fnOf "_law_said" "_law_said" (defArgs s__law_said) (defBody s__law_said) (defScope s__law_said) .none kV21 dc21 pm21 an21 cd21 ct21), sl21⟩)
    (c21 : PySem.W.codeIn K cd21 "_law_said" = true)
    (k21 : PySem.W.keepIn K (.ref f21) = true)
    {f22 : Addr} {od22 an22 : Option Addr} {sl22 : Array (Option Value)} {oc22 kV22 dc22 pm22 cd22 ct22 : Value}
    (a22 : PySem.W.nsIn K mainGlobals "_law_same" = some (some (.ref f22)))
    (l22 : K.lookup f22 = some ⟨oc22, od22, .func (PySem.W.fnOf "_law_same" "_law_same" (defArgs s__law_same) (defBody s__law_same) (defScope s__law_same) .none kV22 dc22 pm22 an22 cd22 ct22), sl22⟩)
    (c22 : PySem.W.codeIn K cd22 "_law_same" = true)
    (k22 : PySem.W.keepIn K (.ref f22) = true)
    {f23 c1t P1t : Addr} {od23 an23 odt23 : Option Addr} {sl23 slt23 : Array (Option Value)} {oc23 kV23 dc23 pm23 ct23 oct23 : Value} {vs23 : Array Value}
    (a23 : PySem.W.nsIn K mainGlobals "_law_is_right" = some (some (.ref f23)))
    (l23 : K.lookup f23 = some ⟨oc23, od23, .func (PySem.W.fnOf "_law_is_right" "_law_is_right" (defArgs s__law_is_right) (defBody s__law_is_right) (defScope s__law_is_right) .none kV23 dc23 pm23 an23 (.ref c1t) ct23), sl23⟩)
    (c23 : PySem.W.codeIn K (.ref c1t) "_law_is_right" = true)
    (k23 : PySem.W.keepIn K (.ref f23) = true)
    (lt23 : K.lookup c1t = some ⟨oct23, odt23, .fields vs23, slt23⟩)
    (p23 : vs23[11]? = some (.ref P1t))
    {f24 : Addr} {od24 an24 : Option Addr} {sl24 : Array (Option Value)} {oc24 kV24 dc24 pm24 cd24 ct24 : Value}
    (a24 : PySem.W.nsIn K mainGlobals "law" = some (some (.ref f24)))
    (l24 : K.lookup f24 = some ⟨oc24, od24, .func (PySem.W.fnOf "law" "law" (defArgs s_law) (defBody s_law) (defScope s_law) .none kV24 dc24 pm24 an24 cd24 ct24), sl24⟩)
    (c24 : PySem.W.codeIn K cd24 "law" = true)
    (k24 : PySem.W.keepIn K (.ref f24) = true)
    (z_ValueError : PySem.W.nsIn K mainGlobals "ValueError" = some none)
    (z_bool : PySem.W.nsIn K mainGlobals "bool" = some none)
    (z_int : PySem.W.nsIn K mainGlobals "int" = some none)
    (z_isinstance : PySem.W.nsIn K mainGlobals "isinstance" = some none)
    (z_len : PySem.W.nsIn K mainGlobals "len" = some none)
    (z_list : PySem.W.nsIn K mainGlobals "list" = some none)
    (z_max : PySem.W.nsIn K mainGlobals "max" = some none)
    (z_range : PySem.W.nsIn K mainGlobals "range" = some none)
    (z_repr : PySem.W.nsIn K mainGlobals "repr" = some none)
    (z_tuple : PySem.W.nsIn K mainGlobals "tuple" = some none)
    (x_sg : PySem.W.specialIn K (.builtin "object.__class__") "__get__" = some (some (.builtin "getset_descriptor.__get__")))
    (x_tk : PySem.W.takesIn K (.builtin "object.__class__") = some true)
    (x_any : PySem.W.nsIn K PySem.cStatics "thirdparty.any" = some none)
    (z_super : PySem.W.nsIn K mainGlobals "super" = some none)
    {C_ClusterError : Addr}
    (y_ClusterError : PySem.W.nsIn K mainGlobals "ClusterError" = some (some (.ref C_ClusterError)))
    {C_InvalidPaper : Addr}
    (y_InvalidPaper : PySem.W.nsIn K mainGlobals "InvalidPaper" = some (some (.ref C_InvalidPaper)))
    {C_LiveError : Addr}
    (y_LiveError : PySem.W.nsIn K mainGlobals "LiveError" = some (some (.ref C_LiveError)))
    {C_NotUsable : Addr}
    (y_NotUsable : PySem.W.nsIn K mainGlobals "NotUsable" = some (some (.ref C_NotUsable)))
    {C_PaperError : Addr}
    (y_PaperError : PySem.W.nsIn K mainGlobals "PaperError" = some (some (.ref C_PaperError)))
    {C_RunsAhead : Addr}
    (y_RunsAhead : PySem.W.nsIn K mainGlobals "RunsAhead" = some (some (.ref C_RunsAhead)))
    {C_Shut : Addr}
    (y_Shut : PySem.W.nsIn K mainGlobals "Shut" = some (some (.ref C_Shut)))
    {C_StampError : Addr}
    (y_StampError : PySem.W.nsIn K mainGlobals "StampError" = some (some (.ref C_StampError)))
    {C_TextError : Addr}
    (y_TextError : PySem.W.nsIn K mainGlobals "TextError" = some (some (.ref C_TextError)))
    {nm_NotUsable qn_NotUsable : Str} {N_NotUsable : Addr} {bs_NotUsable bm_NotUsable sub_NotUsable : List Value} {sn_NotUsable : List Str} {ab_NotUsable : Bool} {col_NotUsable : Option Bool} {dd_NotUsable : Option Addr} {m0_NotUsable m1_NotUsable m2_NotUsable m3_NotUsable m5_NotUsable : Option Value}
    (xL_NotUsable : K.lookup C_NotUsable = some (excClassObj nm_NotUsable qn_NotUsable C_NotUsable N_NotUsable bs_NotUsable bm_NotUsable true sn_NotUsable sub_NotUsable ab_NotUsable col_NotUsable dd_NotUsable m0_NotUsable m1_NotUsable m2_NotUsable m3_NotUsable m5_NotUsable "ValueError.__new__"))
    (bm_NotUsable_ok : PySem.HandSPX.refsVE bm_NotUsable = true)
    (sa_NotUsable : PySem.W.findIn K (.ref C_NotUsable) "__setattr__" = some (some (.builtin "object.__setattr__")))
    (ga_NotUsable : PySem.W.findIn K (.ref C_NotUsable) "__getattribute__" = some (some (.builtin "BaseException.__getattribute__")))
    (gg_NotUsable : PySem.W.findIn K (.ref C_NotUsable) "__getattr__" = some none)
    (cl_NotUsable : PySem.W.findIn K (.ref C_NotUsable) "__class__" = some (some (.builtin "object.__class__")))
    (eC_NotUsable : PySem.W.subIn K (.ref C_NotUsable) (.type "BaseException") = some true)
    (vC_NotUsable : PySem.W.subIn K (.ref C_NotUsable) (.type "ValueError") = some true)
    (tC_NotUsable : PySem.W.typeIn K (.ref C_NotUsable) = some (.type "type"))
    (kC_NotUsable : PySem.W.keepIn K (.ref C_NotUsable) = true)
    (hC_NotUsable : PySem.W.hasDictIn K C_NotUsable = true)
    (mC_NotUsable : PySem.W.mroIn K C_NotUsable (.ref C_NotUsable) = some true)
    (mO_NotUsable : PySem.W.mroIn K C_NotUsable (.type "object") = some true)
    (sup_NotUsable : PySem.W.ks_superIn K C_NotUsable C_NotUsable "__init__" = some (some (.builtin "ValueError.__init__")))
    (self_NotUsable : PySem.W.subIn K (.ref C_NotUsable) (.ref C_NotUsable) = some true)
    (n_at_NotUsable : PySem.W.findIn K (.ref C_NotUsable) "at" = some none)
    (n_word_NotUsable : PySem.W.findIn K (.ref C_NotUsable) "word" = some none)
    {fI_NotUsable cda_NotUsable cce_NotUsable : Addr} {oci_NotUsable dci_NotUsable pmi_NotUsable cti_NotUsable cli_NotUsable ccl_NotUsable : Value} {odi_NotUsable ani_NotUsable cld_NotUsable cdd_NotUsable : Option Addr} {osl_NotUsable csl_NotUsable ccs_NotUsable : Array (Option Value)} {vsi_NotUsable : Array Value}
    (ini_NotUsable : PySem.W.findIn K (.ref C_NotUsable) "__init__" = some (some (.ref fI_NotUsable)))
    (ty_NotUsable : PySem.W.typeIn K (.ref fI_NotUsable) = some (.type "function"))
    (lk_NotUsable : K.lookup fI_NotUsable = some ⟨oci_NotUsable, odi_NotUsable, .func (PySem.W.ksFn "__init__" "NotUsable.__init__" (defArgs i_NotUsable) (defBody i_NotUsable) (defScope i_NotUsable) .none .none dci_NotUsable pmi_NotUsable ani_NotUsable (.ref cda_NotUsable) cti_NotUsable cce_NotUsable), osl_NotUsable⟩)
    (cdi_NotUsable : PySem.W.codeIn K (.ref cda_NotUsable) "NotUsable.__init__" = true)
    (lc_NotUsable : K.lookup cda_NotUsable = some ⟨ccl_NotUsable, cdd_NotUsable, .fields vsi_NotUsable, ccs_NotUsable⟩)
    (hv_NotUsable : ∃ file tf, vsi_NotUsable[2]? = some (.str file tf) ∧ ((PySem.Challenge.pw_stampahead_k28_whole_longest_chains.main.file : Str) == file) = true)
    (cell_NotUsable : K.lookup cce_NotUsable = some ⟨cli_NotUsable, cld_NotUsable, .cell (some (.ref C_NotUsable)), csl_NotUsable⟩)
    (eC_ClusterError : PySem.W.subIn K (.ref C_ClusterError) (.type "BaseException") = some true)
    (tC_ClusterError : PySem.W.typeIn K (.ref C_ClusterError) = some (.type "type"))
    (iC_ClusterError : PySem.W.isClsIn K C_ClusterError = true)
    (s_NotUsable_ClusterError : PySem.W.subIn K (.ref C_NotUsable) (.ref C_ClusterError) = some true)
    (eC_InvalidPaper : PySem.W.subIn K (.ref C_InvalidPaper) (.type "BaseException") = some true)
    (tC_InvalidPaper : PySem.W.typeIn K (.ref C_InvalidPaper) = some (.type "type"))
    (iC_InvalidPaper : PySem.W.isClsIn K C_InvalidPaper = true)
    (s_NotUsable_InvalidPaper : PySem.W.subIn K (.ref C_NotUsable) (.ref C_InvalidPaper) = some false)
    (eC_LiveError : PySem.W.subIn K (.ref C_LiveError) (.type "BaseException") = some true)
    (tC_LiveError : PySem.W.typeIn K (.ref C_LiveError) = some (.type "type"))
    (iC_LiveError : PySem.W.isClsIn K C_LiveError = true)
    (s_NotUsable_LiveError : PySem.W.subIn K (.ref C_NotUsable) (.ref C_LiveError) = some false)
    (iC_NotUsable : PySem.W.isClsIn K C_NotUsable = true)
    (eC_PaperError : PySem.W.subIn K (.ref C_PaperError) (.type "BaseException") = some true)
    (tC_PaperError : PySem.W.typeIn K (.ref C_PaperError) = some (.type "type"))
    (iC_PaperError : PySem.W.isClsIn K C_PaperError = true)
    (s_NotUsable_PaperError : PySem.W.subIn K (.ref C_NotUsable) (.ref C_PaperError) = some false)
    (eC_RunsAhead : PySem.W.subIn K (.ref C_RunsAhead) (.type "BaseException") = some true)
    (tC_RunsAhead : PySem.W.typeIn K (.ref C_RunsAhead) = some (.type "type"))
    (iC_RunsAhead : PySem.W.isClsIn K C_RunsAhead = true)
    (s_NotUsable_RunsAhead : PySem.W.subIn K (.ref C_NotUsable) (.ref C_RunsAhead) = some false)
    (eC_Shut : PySem.W.subIn K (.ref C_Shut) (.type "BaseException") = some true)
    (tC_Shut : PySem.W.typeIn K (.ref C_Shut) = some (.type "type"))
    (iC_Shut : PySem.W.isClsIn K C_Shut = true)
    (s_NotUsable_Shut : PySem.W.subIn K (.ref C_NotUsable) (.ref C_Shut) = some false)
    (eC_StampError : PySem.W.subIn K (.ref C_StampError) (.type "BaseException") = some true)
    (tC_StampError : PySem.W.typeIn K (.ref C_StampError) = some (.type "type"))
    (iC_StampError : PySem.W.isClsIn K C_StampError = true)
    (s_NotUsable_StampError : PySem.W.subIn K (.ref C_NotUsable) (.ref C_StampError) = some true)
    (eC_TextError : PySem.W.subIn K (.ref C_TextError) (.type "BaseException") = some true)
    (tC_TextError : PySem.W.typeIn K (.ref C_TextError) = some (.type "type"))
    (iC_TextError : PySem.W.isClsIn K C_TextError = true)
    (s_NotUsable_TextError : PySem.W.subIn K (.ref C_NotUsable) (.ref C_TextError) = some false)
    : ∃ fd : FuncData, (∀ (s : Shared) (v : Value), BindsTo s fd ⟨[v], []⟩ [("_law_script", v)]) ∧ ∀ base : Heap, K.In base → base.Ns mainGlobals mg → (∀ p ∈ ([(c0t, P0t, "longest_chain.<locals>.<lambda>"), (c1t, P1t, "_law_is_right.<locals>.<lambda>")] : List Tb3), TabB base mg p.1 p.2.1) → FnG PySem.Challenge.pw_stampahead_k28_whole_longest_chains w K mg base 8 fa fd ["_law_script"] (F_law (tbL [P0t, P1t])) := by
  have XT : XTop K := ⟨x_sg, x_tk, x_any⟩
  have R_NotUsable : XRaw K C_NotUsable := ⟨⟨nm_NotUsable, qn_NotUsable, N_NotUsable, bs_NotUsable, bm_NotUsable, sn_NotUsable, sub_NotUsable, ab_NotUsable, col_NotUsable, dd_NotUsable, m0_NotUsable, m1_NotUsable, m2_NotUsable, m3_NotUsable, m5_NotUsable, xL_NotUsable, bm_NotUsable_ok⟩, sa_NotUsable, ga_NotUsable, gg_NotUsable, cl_NotUsable, eC_NotUsable, vC_NotUsable, tC_NotUsable, kC_NotUsable, hC_NotUsable, mC_NotUsable, mO_NotUsable, sup_NotUsable⟩
  have Y_ClusterError : YRaw K C_ClusterError := ⟨eC_ClusterError, tC_ClusterError, iC_ClusterError⟩
  have Y_InvalidPaper : YRaw K C_InvalidPaper := ⟨eC_InvalidPaper, tC_InvalidPaper, iC_InvalidPaper⟩
  have Y_LiveError : YRaw K C_LiveError := ⟨eC_LiveError, tC_LiveError, iC_LiveError⟩
  have Y_NotUsable : YRaw K C_NotUsable := ⟨eC_NotUsable, tC_NotUsable, iC_NotUsable⟩
  have Y_PaperError : YRaw K C_PaperError := ⟨eC_PaperError, tC_PaperError, iC_PaperError⟩
  have Y_RunsAhead : YRaw K C_RunsAhead := ⟨eC_RunsAhead, tC_RunsAhead, iC_RunsAhead⟩
  have Y_Shut : YRaw K C_Shut := ⟨eC_Shut, tC_Shut, iC_Shut⟩
  have Y_StampError : YRaw K C_StampError := ⟨eC_StampError, tC_StampError, iC_StampError⟩
  have Y_TextError : YRaw K C_TextError := ⟨eC_TextError, tC_TextError, iC_TextError⟩
  have E_NotUsable : Exc2 PySem.Challenge.pw_stampahead_k28_whole_longest_chains w K mg "NotUsable" "word" "at" := by
    obtain ⟨file, tf, hv, hfile⟩ := hv_NotUsable
    exact exc2_mk (is := i_NotUsable) (x1 := "word") (x2 := "at") R_NotUsable XT (PySem.W.mg_of X G y_NotUsable) ini_NotUsable ty_NotUsable lk_NotUsable cdi_NotUsable lc_NotUsable hv hfile cell_NotUsable (PySem.W.mg_none_of X G z_super) n_word_NotUsable n_at_NotUsable (by rfl) (by rfl) (by intro env; rfl) _ (by intro env; rfl) ⟨_, rfl, rfl⟩ (fun us hl => match us, hl with | [_, _, _], _ => rfl) rfl rfl rfl (by decide +kernel) (by decide +kernel) (by decide +kernel) rfl rfl (by decide +kernel) ⟨by decide +kernel, by decide +kernel⟩ ⟨by decide +kernel, by decide +kernel⟩
  have F0 := fun_mk (x := "_law_feed") (qual := "_law_feed") (st := s__law_feed) l0 c0 k0
  have b0 := F0.binds (ps := ["_law_script"]) fun _ _ _ _ _ _ us hl => match us, hl with | [_], _ => rfl
  have F1 := fun_mk (x := "_law_draw") (qual := "_law_draw") (st := s__law_draw) l1 c1 k1
  have b1 := F1.binds (ps := ["_law_feed_here", "_law_size"]) fun _ _ _ _ _ _ us hl => match us, hl with | [_, _], _ => rfl
  have F2 := fun_mk (x := "_law_any") (qual := "_law_any") (st := s__law_any) l2 c2 k2
  have b2 := F2.binds (ps := ["_law_feed_here", "_law_some"]) fun _ _ _ _ _ _ us hl => match us, hl with | [_, _], _ => rfl
  have F3 := fun_mk (x := "_law_net") (qual := "_law_net") (st := s__law_net) l3 c3 k3
  have b3 := F3.binds (ps := ["_law_feed_here"]) fun _ _ _ _ _ _ us hl => match us, hl with | [_], _ => rfl
  have F4 := fun_mk (x := "_law_letters") (qual := "_law_letters") (st := s__law_letters) l4 c4 k4
  have b4 := F4.binds (ps := ["_law_net_here", "_law_lot_here", "_law_title", "_law_tick"]) fun _ _ _ _ _ _ us hl => match us, hl with | [_, _, _, _], _ => rfl
  have F5 := fun_mk (x := "_law_before") (qual := "_law_before") (st := s__law_before) l5 c5 k5
  have b5 := F5.binds (ps := ["_law_lot_here", "_law_spot"]) fun _ _ _ _ _ _ us hl => match us, hl with | [_, _], _ => rfl
  have F6 := fun_mk (x := "_law_steps") (qual := "_law_steps") (st := s__law_steps) l6 c6 k6
  have b6 := F6.binds (ps := ["_law_lot_here", "_law_spot"]) fun _ _ _ _ _ _ us hl => match us, hl with | [_, _], _ => rfl
  have F7 := fun_mk (x := "_law_stamp") (qual := "_law_stamp") (st := s__law_stamp) l7 c7 k7
  have b7 := F7.binds (ps := ["_law_net_here", "_law_near", "_law_reading"]) fun _ _ _ _ _ _ us hl => match us, hl with | [_, _, _], _ => rfl
  have F8 := fun_mk (x := "_law_lot") (qual := "_law_lot") (st := s__law_lot) l8 c8 k8
  have b8 := F8.binds (ps := ["_law_feed_here", "_law_net_here", "_law_size"]) fun _ _ _ _ _ _ us hl => match us, hl with | [_, _, _], _ => rfl
  have F9 := fun_mk (x := "_law_stamps") (qual := "_law_stamps") (st := s__law_stamps) l9 c9 k9
  have b9 := F9.binds (ps := ["_law_net_here", "_law_lot_here"]) fun _ _ _ _ _ _ us hl => match us, hl with | [_, _], _ => rfl
  have F10 := fun_mk (x := "_law_lengths") (qual := "_law_lengths") (st := s__law_lengths) l10 c10 k10
  have b10 := F10.binds (ps := ["_law_lot_here", "_law_stamps_here"]) fun _ _ _ _ _ _ us hl => match us, hl with | [_, _], _ => rfl
  have F11 := fun_mk (x := "want") (qual := "want") (st := s_want) l11 c11 k11
  have b11 := F11.binds (ps := ["is_right", "word"]) fun _ _ _ _ _ _ us hl => match us, hl with | [_, _], _ => rfl
  have F12 := fun_mk (x := "is_integer") (qual := "is_integer") (st := s_is_integer) l12 c12 k12
  have b12 := F12.binds (ps := ["thing"]) fun _ _ _ _ _ _ us hl => match us, hl with | [_], _ => rfl
  have F13 := fun_mk (x := "is_number") (qual := "is_number") (st := s_is_number) l13 c13 k13
  have b13 := F13.binds (ps := ["thing"]) fun _ _ _ _ _ _ us hl => match us, hl with | [_], _ => rfl
  have F14 := fun_mk (x := "is_index") (qual := "is_index") (st := s_is_index) l14 c14 k14
  have b14 := F14.binds (ps := ["run", "thing"]) fun _ _ _ _ _ _ us hl => match us, hl with | [_, _], _ => rfl
  have F15 := fun_mk (x := "next_stamp") (qual := "next_stamp") (st := s_next_stamp) l15 c15 k15
  have b15 := F15.binds (ps := ["cluster", "last", "heard", "reading"]) fun _ _ _ _ _ _ us hl => match us, hl with | [_, _, _, _], _ => rfl
  have F16 := fun_mk (x := "stamps_by") (qual := "stamps_by") (st := s_stamps_by) l16 c16 k16
  have b16 := F16.binds (ps := ["cluster", "run"]) fun _ _ _ _ _ _ us hl => match us, hl with | [_, _], _ => rfl
  have F17 := fun_mk (x := "last_by") (qual := "last_by") (st := s_last_by) l17 c17 k17
  have b17 := F17.binds (ps := ["run", "k"]) fun _ _ _ _ _ _ us hl => match us, hl with | [_, _], _ => rfl
  have F18 := fun_mk (x := "causes_of") (qual := "causes_of") (st := s_causes_of) l18 c18 k18
  have b18 := F18.binds (ps := ["run", "k"]) fun _ _ _ _ _ _ us hl => match us, hl with | [_, _], _ => rfl
  have F19 := cd_of (x := "longest_chain") (st := s_longest_chain) l19 c19
  have b19 : Binds K _ ["cluster", "run", "k"] [] := .all fun us hl => (match us, hl with | [_, _, _], _ => rfl : bindArgs (PySem.W.fnOf "longest_chain" "longest_chain" (defArgs s_longest_chain) (defBody s_longest_chain) (defScope s_longest_chain) .none kV19 dc19 pm19 an19 (.ref c0t) ct19) ⟨us, []⟩ = pure ((["cluster", "run", "k"] : List Str).zip us))
  have G19 := fun_mk (x := "longest_chain") (qual := "longest_chain") (st := s_longest_chain) l19 c19 k19
  have bk19_0 := bk_perm (ps := ["cluster", "run", "k"]) (ks := ["k", "run", "cluster"]) [2, 1, 0] G19 rfl (by decide) fun _ _ _ _ _ _ us hl => match us, hl with | [_, _, _], _ => rfl
  have F20 := fun_mk (x := "_law_is_one") (qual := "_law_is_one") (st := s__law_is_one) l20 c20 k20
  have b20 := F20.binds (ps := ["_law_lot_here", "_law_stamps_here", "_law_told", "_law_spot"]) fun _ _ _ _ _ _ us hl => match us, hl with | [_, _, _, _], _ => rfl
  have F21 := fun_mk (x := "_law_said") (qual := "_law_said") (st := s__law_said) l21 c21 k21
  have b21 := F21.binds (ps := ["_law_ask"]) fun _ _ _ _ _ _ us hl => match us, hl with | [_], _ => rfl
  have F22 := fun_mk (x := "_law_same") (qual := "_law_same") (st := s__law_same) l22 c22 k22
  have b22 := F22.binds (ps := ["_law_told", "_law_due"]) fun _ _ _ _ _ _ us hl => match us, hl with | [_, _], _ => rfl
  have F23 := cd_of (x := "_law_is_right") (st := s__law_is_right) l23 c23
  have b23 : Binds K _ ["_law_net_here", "_law_lot_here"] [] := .all fun us hl => (match us, hl with | [_, _], _ => rfl : bindArgs (PySem.W.fnOf "_law_is_right" "_law_is_right" (defArgs s__law_is_right) (defBody s__law_is_right) (defScope s__law_is_right) .none kV23 dc23 pm23 an23 (.ref c1t) ct23) ⟨us, []⟩ = pure ((["_law_net_here", "_law_lot_here"] : List Str).zip us))
  have F24 := fun_mk (x := "law") (qual := "law") (st := s_law) l24 c24 k24
  have T : Tx PySem.Challenge.pw_stampahead_k28_whole_longest_chains w K mg (tbL [c0t, c1t]) := {
    d__law_feed := ⟨_, _, F0, PySem.W.mg_of X G a0, b0, trivial⟩
    d__law_draw := ⟨_, _, F1, PySem.W.mg_of X G a1, b1, trivial⟩
    d__law_any := ⟨_, _, F2, PySem.W.mg_of X G a2, b2, trivial⟩
    d__law_net := ⟨_, _, F3, PySem.W.mg_of X G a3, b3, trivial⟩
    d__law_letters := ⟨_, _, F4, PySem.W.mg_of X G a4, b4, trivial⟩
    d__law_before := ⟨_, _, F5, PySem.W.mg_of X G a5, b5, trivial⟩
    d__law_steps := ⟨_, _, F6, PySem.W.mg_of X G a6, b6, trivial⟩
    d__law_stamp := ⟨_, _, F7, PySem.W.mg_of X G a7, b7, trivial⟩
    d__law_lot := ⟨_, _, F8, PySem.W.mg_of X G a8, b8, trivial⟩
    d__law_stamps := ⟨_, _, F9, PySem.W.mg_of X G a9, b9, trivial⟩
    d__law_lengths := ⟨_, _, F10, PySem.W.mg_of X G a10, b10, trivial⟩
    d_want := ⟨_, _, F11, PySem.W.mg_of X G a11, b11, trivial⟩
    d_is_integer := ⟨_, _, F12, PySem.W.mg_of X G a12, b12, trivial⟩
    d_is_number := ⟨_, _, F13, PySem.W.mg_of X G a13, b13, trivial⟩
    d_is_index := ⟨_, _, F14, PySem.W.mg_of X G a14, b14, trivial⟩
    d_next_stamp := ⟨_, _, F15, PySem.W.mg_of X G a15, b15, trivial⟩
    d_stamps_by := ⟨_, _, F16, PySem.W.mg_of X G a16, b16, trivial⟩
    d_last_by := ⟨_, _, F17, PySem.W.mg_of X G a17, b17, trivial⟩
    d_causes_of := ⟨_, _, F18, PySem.W.mg_of X G a18, b18, trivial⟩
    d_longest_chain := ⟨_, _, F19, k19, PySem.W.mg_of X G a19, b19, bk19_0, trivial⟩
    d__law_is_one := ⟨_, _, F20, PySem.W.mg_of X G a20, b20, trivial⟩
    d__law_said := ⟨_, _, F21, PySem.W.mg_of X G a21, b21, trivial⟩
    d__law_same := ⟨_, _, F22, PySem.W.mg_of X G a22, b22, trivial⟩
    d__law_is_right := ⟨_, _, F23, k23, PySem.W.mg_of X G a23, b23, trivial⟩
    n_ValueError := PySem.W.mg_none_of X G z_ValueError
    n_bool := PySem.W.mg_none_of X G z_bool
    n_int := PySem.W.mg_none_of X G z_int
    n_isinstance := PySem.W.mg_none_of X G z_isinstance
    n_len := PySem.W.mg_none_of X G z_len
    n_list := PySem.W.mg_none_of X G z_list
    n_max := PySem.W.mg_none_of X G z_max
    n_range := PySem.W.mg_none_of X G z_range
    n_repr := PySem.W.mg_none_of X G z_repr
    n_tuple := PySem.W.mg_none_of X G z_tuple
    x_NotUsable := E_NotUsable
    m_StampError := ⟨_, (PySem.W.mg_of X G y_StampError), List.forall_mem_cons.mpr ⟨(fun D e => by rw [PySem.W.mg_of X G y_NotUsable] at e; cases e; exact Y_StampError.exm s_NotUsable_StampError), (fun _ h => nomatch h)⟩⟩
    f_at := List.forall_mem_cons.mpr ⟨fldE_mk R_NotUsable (PySem.W.mg_of X G y_NotUsable) n_at_NotUsable, (fun _ h => nomatch h)⟩
    f_word := List.forall_mem_cons.mpr ⟨fldE_mk R_NotUsable (PySem.W.mg_of X G y_NotUsable) n_word_NotUsable, (fun _ h => nomatch h)⟩
    i_ClusterError := List.forall_mem_cons.mpr ⟨(by have e : ([("NotUsable" : Str)] : List Str).contains ("NotUsable" : Str) = true := (by decide +kernel); rw [e]; exact isE_mk R_NotUsable XT (PySem.W.mg_of X G y_NotUsable) (PySem.W.mg_of X G y_ClusterError) Y_ClusterError s_NotUsable_ClusterError self_NotUsable), (fun _ h => nomatch h)⟩
    i_InvalidPaper := List.forall_mem_cons.mpr ⟨(by have e : ([] : List Str).contains ("NotUsable" : Str) = false := (by decide +kernel); rw [e]; exact isE_mk R_NotUsable XT (PySem.W.mg_of X G y_NotUsable) (PySem.W.mg_of X G y_InvalidPaper) Y_InvalidPaper s_NotUsable_InvalidPaper self_NotUsable), (fun _ h => nomatch h)⟩
    i_LiveError := List.forall_mem_cons.mpr ⟨(by have e : ([] : List Str).contains ("NotUsable" : Str) = false := (by decide +kernel); rw [e]; exact isE_mk R_NotUsable XT (PySem.W.mg_of X G y_NotUsable) (PySem.W.mg_of X G y_LiveError) Y_LiveError s_NotUsable_LiveError self_NotUsable), (fun _ h => nomatch h)⟩
    i_NotUsable := List.forall_mem_cons.mpr ⟨(by have e : ([("NotUsable" : Str)] : List Str).contains ("NotUsable" : Str) = true := (by decide +kernel); rw [e]; exact isE_mk R_NotUsable XT (PySem.W.mg_of X G y_NotUsable) (PySem.W.mg_of X G y_NotUsable) Y_NotUsable self_NotUsable self_NotUsable), (fun _ h => nomatch h)⟩
    i_PaperError := List.forall_mem_cons.mpr ⟨(by have e : ([] : List Str).contains ("NotUsable" : Str) = false := (by decide +kernel); rw [e]; exact isE_mk R_NotUsable XT (PySem.W.mg_of X G y_NotUsable) (PySem.W.mg_of X G y_PaperError) Y_PaperError s_NotUsable_PaperError self_NotUsable), (fun _ h => nomatch h)⟩
    i_RunsAhead := List.forall_mem_cons.mpr ⟨(by have e : ([] : List Str).contains ("NotUsable" : Str) = false := (by decide +kernel); rw [e]; exact isE_mk R_NotUsable XT (PySem.W.mg_of X G y_NotUsable) (PySem.W.mg_of X G y_RunsAhead) Y_RunsAhead s_NotUsable_RunsAhead self_NotUsable), (fun _ h => nomatch h)⟩
    i_Shut := List.forall_mem_cons.mpr ⟨(by have e : ([] : List Str).contains ("NotUsable" : Str) = false := (by decide +kernel); rw [e]; exact isE_mk R_NotUsable XT (PySem.W.mg_of X G y_NotUsable) (PySem.W.mg_of X G y_Shut) Y_Shut s_NotUsable_Shut self_NotUsable), (fun _ h => nomatch h)⟩
    i_TextError := List.forall_mem_cons.mpr ⟨(by have e : ([] : List Str).contains ("NotUsable" : Str) = false := (by decide +kernel); rw [e]; exact isE_mk R_NotUsable XT (PySem.W.mg_of X G y_NotUsable) (PySem.W.mg_of X G y_TextError) Y_TextError s_NotUsable_TextError self_NotUsable), (fun _ h => nomatch h)⟩
    i_ValueError := List.forall_mem_cons.mpr ⟨(by have e : ([("NotUsable" : Str)] : List Str).contains ("NotUsable" : Str) = true := (by decide +kernel); rw [e]; exact isEb_mk R_NotUsable XT (PySem.W.mg_of X G y_NotUsable) (by decide +kernel) vC_NotUsable), (fun _ h => nomatch h)⟩ }
  have e := hfa.symm.trans (PySem.W.mg_of X G a24)
  cases e
  exact ⟨_, bl_of F24 fun _ _ _ _ _ _ _ => rfl, (fun base _ _ hTB => h_law T (fun j hj => match j, hj with | 0, _ => hTB (c0t, P0t, "longest_chain.<locals>.<lambda>") (by simp) | 1, _ => hTB (c1t, P1t, "_law_is_right.<locals>.<lambda>") (by simp)) F24)⟩
end Gstampahead_k28_whole_longest_chains
open PySem PySem.W PyProof.Rows
set_option maxRecDepth 100000 in
set_option maxHeartbeats 0 in
theorem PySem.Challenge.cw_stampahead_k28_whole_longest_chains_holds : PySem.Challenge.rw_stampahead_k28_whole_longest_chains.Holds := by
  w_on; o_law; k_head; (case hw => w_witness2)
  k_fill
  refine' Pv.walk_GT (l := PySem.Challenge.rw_stampahead_k28_whole_longest_chains) (k := 8) (x := "_law_script") (F := Gstampahead_k28_whole_longest_chains.F_law (Pv.tbL [_, _])) [(_, _, "longest_chain.<locals>.<lambda>"), (_, _, "_law_is_right.<locals>.<lambda>")] rfl (by decide) rfl ⟨rfl, by decide, by decide⟩ (fun w h Y => PySem.W.km_in_of Y) ?nd ?C ?F ?L
  case F =>
    intro w mg fa h KX G hmg
    refine' Gstampahead_k28_whole_longest_chains.all_mk KX G hmg ?a0 ?l0 ?c0 ?k0 ?a1 ?l1 ?c1 ?k1 ?a2 ?l2 ?c2 ?k2 ?a3 ?l3 ?c3 ?k3 ?a4 ?l4 ?c4 ?k4 ?a5 ?l5 ?c5 ?k5 ?a6 ?l6 ?c6 ?k6 ?a7 ?l7 ?c7 ?k7 ?a8 ?l8 ?c8 ?k8 ?a9 ?l9 ?c9 ?k9 ?a10 ?l10 ?c10 ?k10 ?a11 ?l11 ?c11 ?k11 ?a12 ?l12 ?c12 ?k12 ?a13 ?l13 ?c13 ?k13 ?a14 ?l14 ?c14 ?k14 ?a15 ?l15 ?c15 ?k15 ?a16 ?l16 ?c16 ?k16 ?a17 ?l17 ?c17 ?k17 ?a18 ?l18 ?c18 ?k18 ?a19 ?l19 ?c19 ?k19 ?lt19 ?p19 ?a20 ?l20 ?c20 ?k20 ?a21 ?l21 ?c21 ?k21 ?a22 ?l22 ?c22 ?k22 ?a23 ?l23 ?c23 ?k23 ?lt23 ?p23 ?a24 ?l24 ?c24 ?k24 ?z_ValueError ?z_bool ?z_int ?z_isinstance ?z_len ?z_list ?z_max ?z_range ?z_repr ?z_tuple ?x_sg ?x_tk ?x_any ?z_super ?y_ClusterError ?y_InvalidPaper ?y_LiveError ?y_NotUsable ?y_PaperError ?y_RunsAhead ?y_Shut ?y_StampError ?y_TextError ?xL_NotUsable ?bm_NotUsable_ok ?sa_NotUsable ?ga_NotUsable ?gg_NotUsable ?cl_NotUsable ?eC_NotUsable ?vC_NotUsable ?tC_NotUsable ?kC_NotUsable ?hC_NotUsable ?mC_NotUsable ?mO_NotUsable ?sup_NotUsable ?self_NotUsable ?n_at_NotUsable ?n_word_NotUsable ?ini_NotUsable ?ty_NotUsable ?lk_NotUsable ?cdi_NotUsable ?lc_NotUsable ?hv_NotUsable ?cell_NotUsable ?eC_ClusterError ?tC_ClusterError ?iC_ClusterError ?s_NotUsable_ClusterError ?eC_InvalidPaper ?tC_InvalidPaper ?iC_InvalidPaper ?s_NotUsable_InvalidPaper ?eC_LiveError ?tC_LiveError ?iC_LiveError ?s_NotUsable_LiveError ?iC_NotUsable ?eC_PaperError ?tC_PaperError ?iC_PaperError ?s_NotUsable_PaperError ?eC_RunsAhead ?tC_RunsAhead ?iC_RunsAhead ?s_NotUsable_RunsAhead ?eC_Shut ?tC_Shut ?iC_Shut ?s_NotUsable_Shut ?eC_StampError ?tC_StampError ?iC_StampError ?s_NotUsable_StampError ?eC_TextError ?tC_TextError ?iC_TextError ?s_NotUsable_TextError
    case a0 => k_is
    case l0 => k_is
    case c0 => k_is
    case k0 => k_is
    case a1 => k_is
    case l1 => k_is
    case c1 => k_is
    case k1 => k_is
    case a2 => k_is
    case l2 => k_is
    case c2 => k_is
    case k2 => k_is
    case a3 => k_is
    case l3 => k_is
    case c3 => k_is
    case k3 => k_is
    case a4 => k_is
    case l4 => k_is
    case c4 => k_is
    case k4 => k_is
    case a5 => k_is
    case l5 => k_is
    case c5 => k_is
    case k5 => k_is
    case a6 => k_is
    case l6 => k_is
    case c6 => k_is
    case k6 => k_is
    case a7 => k_is
    case l7 => k_is
    case c7 => k_is
    case k7 => k_is
    case a8 => k_is
    case l8 => k_is
    case c8 => k_is
    case k8 => k_is
    case a9 => k_is
    case l9 => k_is
    case c9 => k_is
    case k9 => k_is
    case a10 => k_is
    case l10 => k_is
    case c10 => k_is
    case k10 => k_is
    case a11 => k_is
    case l11 => k_is
    case c11 => k_is
    case k11 => k_is
    case a12 => k_is
    case l12 => k_is
    case c12 => k_is
    case k12 => k_is
    case a13 => k_is
    case l13 => k_is
    case c13 => k_is
    case k13 => k_is
    case a14 => k_is
    case l14 => k_is
    case c14 => k_is
    case k14 => k_is
    case a15 => k_is
    case l15 => k_is
    case c15 => k_is
    case k15 => k_is
    case a16 => k_is
    case l16 => k_is
    case c16 => k_is
    case k16 => k_is
    case a17 => k_is
    case l17 => k_is
    case c17 => k_is
    case k17 => k_is
    case a18 => k_is
    case l18 => k_is
    case c18 => k_is
    case k18 => k_is
    case a19 => k_is
    case l19 => k_is
    case c19 => k_is
    case k19 => k_is
    case lt19 => k_is
    case p19 => rfl
    case a20 => k_is
    case l20 => k_is
    case c20 => k_is
    case k20 => k_is
    case a21 => k_is
    case l21 => k_is
    case c21 => k_is
    case k21 => k_is
    case a22 => k_is
    case l22 => k_is
    case c22 => k_is
    case k22 => k_is
    case a23 => k_is
    case l23 => k_is
    case c23 => k_is
    case k23 => k_is
    case lt23 => k_is
    case p23 => rfl
    case a24 => k_is
    case l24 => k_is
    case c24 => k_is
    case k24 => k_is
    case z_ValueError => k_is
    case z_bool => k_is
    case z_int => k_is
    case z_isinstance => k_is
    case z_len => k_is
    case z_list => k_is
    case z_max => k_is
    case z_range => k_is
    case z_repr => k_is
    case z_tuple => k_is
    case x_sg => k_is
    case x_tk => k_is
    case x_any => k_is
    case z_super => k_is
    case y_ClusterError => k_is
    case y_InvalidPaper => k_is
    case y_LiveError => k_is
    case y_NotUsable => k_is
    case y_PaperError => k_is
    case y_RunsAhead => k_is
    case y_Shut => k_is
    case y_StampError => k_is
    case y_TextError => k_is
    case xL_NotUsable => k_is
    case bm_NotUsable_ok => decide +kernel
    case sa_NotUsable => k_is
    case ga_NotUsable => k_is
    case gg_NotUsable => k_is
    case cl_NotUsable => k_is
    case eC_NotUsable => k_is
    case vC_NotUsable => k_is
    case tC_NotUsable => k_is
    case kC_NotUsable => k_is
    case hC_NotUsable => k_is
    case mC_NotUsable => k_is
    case mO_NotUsable => k_is
    case sup_NotUsable => kernel_rfl
    case self_NotUsable => k_is
    case n_at_NotUsable => k_is
    case n_word_NotUsable => k_is
    case ini_NotUsable => k_is
    case ty_NotUsable => k_is
    case lk_NotUsable => k_is
    case cdi_NotUsable => k_is
    case lc_NotUsable => k_is
    case hv_NotUsable => exact ⟨_, _, rfl, by decide +kernel⟩
    case cell_NotUsable => k_is
    case eC_ClusterError => k_is
    case tC_ClusterError => k_is
    case iC_ClusterError => k_is
    case s_NotUsable_ClusterError => k_is
    case eC_InvalidPaper => k_is
    case tC_InvalidPaper => k_is
    case iC_InvalidPaper => k_is
    case s_NotUsable_InvalidPaper => k_is
    case eC_LiveError => k_is
    case tC_LiveError => k_is
    case iC_LiveError => k_is
    case s_NotUsable_LiveError => k_is
    case iC_NotUsable => k_is
    case eC_PaperError => k_is
    case tC_PaperError => k_is
    case iC_PaperError => k_is
    case s_NotUsable_PaperError => k_is
    case eC_RunsAhead => k_is
    case tC_RunsAhead => k_is
    case iC_RunsAhead => k_is
    case s_NotUsable_RunsAhead => k_is
    case eC_Shut => k_is
    case tC_Shut => k_is
    case iC_Shut => k_is
    case s_NotUsable_Shut => k_is
    case eC_StampError => k_is
    case tC_StampError => k_is
    case iC_StampError => k_is
    case s_NotUsable_StampError => k_is
    case eC_TextError => k_is
    case tC_TextError => k_is
    case iC_TextError => k_is
    case s_NotUsable_TextError => k_is
  case L => exact Gstampahead_k28_whole_longest_chains.law_ok _ (by decide)
  case nd => decide
  case C => exact fun w h Y => ⟨List.forall_mem_cons.mpr ⟨PySem.W.km_tabs_of Y _ (by k_mem), List.forall_mem_cons.mpr ⟨PySem.W.km_tabs_of Y _ (by k_mem), (fun _ h => nomatch h)⟩⟩, List.forall_mem_cons.mpr ⟨(by kernel_rfl), List.forall_mem_cons.mpr ⟨(by kernel_rfl), (fun _ h => nomatch h)⟩⟩, List.forall_mem_cons.mpr ⟨(by kernel_rfl), List.forall_mem_cons.mpr ⟨(by kernel_rfl), (fun _ h => nomatch h)⟩⟩⟩
#print axioms PySem.Challenge.cw_stampahead_k28_whole_longest_chains_holds
