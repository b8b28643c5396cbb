import PyProof.Rows.All
import Wide.All
import OpenK.AllK
import Wide.FinOn
import PyProof.Rows.IntBool
import PyProof.Rows.RuleB_bool
import PyProof.ReprRoads
import PyProof.CallFns
import KE.GoesEnum
import PyProof.Rows.StrJoinMade
import PyProof.StrLawsRepr
import KE.SortData
import KE.DataFind
import KE.DataMinMax
import KE.KExcSuper
import KE.KExcIs
import KE.KNestM
import PyProof.StrBlock2
import KE.IntTextLaws
import PyProof.SetRoads
import KE.KDictCopyH
import KE.KDictWalk
import PyProof.ListStr
import KE.KDictPairs
import KE.KDictZip
import KE.SortKeyHeap
import KE.DataMinKey
import KE.KeyNested
import HandS.ForMost
import HandS.Exc
import HandS.WordsExc
import HandS.Lambda
import HandS.Flow
import HandS.Wide
import HandS.TupAny
import HandS.TupLe
import HandS.IsInst
import HandS.Conv
import HandS.RaiseMore
import HandS.Iter
import HandS.Zip
import HandS.Comp
import HandS.Small
import HandS.Style
import HandS.Words
import HandS.ExcOwn
import HandS.Codes
import HandS.Ends
import HandS.TupMul
import HandS.WordsDict
import HandS.SortKw
import HandS.DictComp
import HandS.ExcInit
import HandS.ExcIs
import HandS.ExcField
import HandS.EndTab
import HandS.SetFor
import HandS.Strs
import HandS.TupSets
import HandS.HotCalls
import HandS.Defaults
import HandS.Star
import HandS.Deep
import HandS.NoneIn
import HandS.WrittenGet
import HandS.FStr
import PySem.Challenge.RW_stampahead_k76_events_written
set_option Elab.async false
set_option linter.all false
set_option maxRecDepth 100000
set_option maxHeartbeats 4000000
namespace Pv
open PySem PySem.Spec L2
open PyProof.Rows hiding St
abbrev D := PyData
/-- the r-th object of the store -/
@[reducible] def Rf (r : Nat) : D := .dict [(.int (r : Int), .none)]
inductive MO where
  /-- a list that may grow; a list that is read alone (the script) -/
  | lst (ds : List D) | ro (ds : List D)
  | dct (kvs : List (Key × D)) | dctT (kvs : List (List Key × D))
  /-- the table of the code objects of a def that makes lambdas: where it stands, their name -/
  | tb (P : Addr) (q : Str)
abbrev Sto := List MO
def tbs : Sto → List (Addr × Str)
  | [] => []
  | .tb P q :: st => (P, q) :: tbs st
  | _ :: st => tbs st
def noTb : MO → Bool
  | .tb _ _ => false
  | _ => true
theorem tbs_app (st : Sto) {m : MO} (h : noTb m = true) : tbs (st ++ [m]) = tbs st := by
  induction st with
  | nil => cases m with
    | tb P q => cases h
    | _ => rfl
  | cons o st ih => cases o <;> simp [tbs, ih]
theorem tbs_set {m : MO} (h : noTb m = true) : ∀ (st : Sto) (r : Nat), ∀ p ∈ tbs (st.set r m), p ∈ tbs st
  | [], _, p, hp => by cases hp
  | o :: st, 0, p, hp => by
    have hp' : p ∈ tbs (m :: st) := hp
    have : tbs (m :: st) = tbs st := by cases m <;> first | rfl | cases h
    rw [this] at hp'
    cases o <;> simp [tbs, hp']
  | o :: st, r + 1, p, hp => by
    have hp' : p ∈ tbs (o :: st.set r m) := hp
    cases o with
    | tb P q =>
      rcases List.mem_cons.mp hp' with e | e
      · subst e; exact List.mem_cons_self
      · exact List.mem_cons_of_mem _ (tbs_set h st r p e)
    | _ => exact tbs_set h st r p hp'
abbrev Sl := List (Option D)
/-- F: the part of the heap that never changes; rho: where the store's objects stand -/
structure Wd where
  F : Hp
  rho : List Addr
/-- a tuple whose object is known: the module's own, or one that was laid down so -/
def SqZ (K : PySem.W.Frag) (F : Hp) (a : Addr) (xs : List V) : Prop :=
  (∃ (o : Obj) (its : Array Value) (n : Nat), K.lookup a = some o ∧ o.cls = .type "tuple" ∧ o.dict = none ∧ o.data = .seq its n ∧ its.size ≤ sizeLine ∧ Vals xs its.toList) ∨ ∃ o : Obj, F a = some (.frz o (.tup xs)) ∧ o.dict = none
theorem SqZ.mono {K : PySem.W.Frag} {F F' : Hp} {a : Addr} {xs : List V} (hf : ∀ b o, F b = some o → F' b = some o) (h : SqZ K F a xs) : SqZ K F' a xs := h.imp id fun ⟨o, h1, h2⟩ => ⟨o, hf _ _ h1, h2⟩
theorem SqZ.T {K : PySem.W.Frag} {F F' : Hp} {a : Addr} {xs : List V} (hf : ∀ b o, F b = some o → F' b = some o) (h : SqZ K F a xs) : SqT K F' a xs := by
  rcases h with ⟨o, its, n, h1, h2, _, h4, h5, h6⟩ | ⟨o, h1, _⟩
  · exact .inr ⟨o, its, n, h1, h2, h4, h5, h6⟩
  · exact .inl (.inr ⟨o, hf _ _ h1⟩)
/-- a tuple of the module's own -/
@[reducible] def Gc (ds : List D) : D := .dict [(.none, .tuple ds)]
/-- a list that is read alone: the script, a list of the module's own -/
@[reducible] def Gs (ds : List D) : D := .dict [(.none, .list ds)]
/-- a caught exception: where it and its dict stand, its class, its fields -/
@[reducible] def Ec (a dd : Nat) (c : Str) (ns fs : List D) : D := .dict [(.bool true, .tuple [.int (a : Int), .int (dd : Int), .str c, .tuple ns, .tuple fs])]
def nmD : List D → List Str
  | [] => []
  | .str x :: ds => x :: nmD ds
  | _ :: ds => nmD ds
mutual
def rep (K : PySem.W.Frag) (W : Wd) (v : V) : D → Prop
  | .none => v = .non
  | .bool b => v = .bl b
  | .int i => v = .int i
  | .str x => v = .str x
  | .list ds => ∃ a xs, v = .ref a ∧ W.F a = some (.lst xs) ∧ repL K W xs ds
  | .tuple ds => ∃ a xs, v = .ref a ∧ W.F a = some (.tup xs) ∧ repL K W xs ds
  | .dict [(.int i, .none)] => ∃ (r : Nat) (a : Addr), i = (r : Int) ∧ v = .ref a ∧ W.rho[r]? = some a
  | .dict [(.none, .tuple ds)] => ∃ a xs, v = .ref a ∧ SqZ K W.F a xs ∧ repL K W xs ds
  | .dict [(.none, .list ds)] => ∃ a xs, v = .ref a ∧ SqL K W.F a xs ∧ repL K W xs ds
  | .dict [(.bool true, .tuple [.int a, .int dd, .str _, .tuple ns, .tuple fs])] => v = .ref a.toNat ∧ ∃ xs, W.F dd.toNat = some (.xd ((nmD ns).zip xs)) ∧ repL K W xs fs
  | .dict _ => False
def repL (K : PySem.W.Frag) (W : Wd) (vs : List V) : List D → Prop
  | [] => vs = []
  | d :: ds => ∃ v us, vs = v :: us ∧ rep K W v d ∧ repL K W us ds
end
/-- pairs: the keys are the same, the values are told -/
def repP {κ : Type} (K : PySem.W.Frag) (W : Wd) : List (κ × V) → List (κ × D) → Prop := Paired fun p q => p.1 = q.1 ∧ rep K W p.2 q.2
def repO (K : PySem.W.Frag) (W : Wd) (H : Hp) (a : Addr) : MO → Prop
  | .lst ds => ∃ xs, H a = some (.lst xs) ∧ repL K W xs ds
  | .ro ds => ∃ o xs, H a = some (.frz o (.lst xs)) ∧ repL K W xs ds
  | .dct kvs => ∃ ks, H a = some (.dK ks) ∧ repP K W ks kvs
  | .dctT kvs => ∃ ks, H a = some (.dT ks) ∧ repP K W ks kvs
  | .tb P _ => a = P ∧ ∃ ps, H a = some (.tbl ps)
structure HR (K : PySem.W.Frag) (W : Wd) (H : Hp) (st : Sto) : Prop where
  len : W.rho.length = st.length
  nd : W.rho.Nodup
  sub : ∀ b o, W.F b = some o → H b = some o
  obj : ∀ (r : Nat) (a : Addr) (m : MO), W.rho[r]? = some a → st[r]? = some m → W.F a = none ∧ repO K W H a m
  tab : LamX.Tabs (tbs st) H
  nt : ∀ b ps, W.F b ≠ some (.tbl ps)
/-- nothing stands there, or the table of a def's code objects (it may be written anew) -/
def Nn (H : Hp) (a : Addr) : Prop := ∀ o, H a = some o → ∃ ps, o = .tbl ps
theorem Nn.of {H : Hp} {a : Addr} (h : H a = none) : Nn H a := fun o e => by rw [h] at e; cases e
/-- nothing stands there, or a tuple that the store does not hold -/
def Nt (W : Wd) (H : Hp) (b : Addr) : Prop := Nn H b ∨ (b ∉ W.rho ∧ ∃ xs, H b = some (.tup xs))
theorem Nt.of {W : Wd} {H : Hp} {a : Addr} (h : H a = none) : Nt W H a := .inl (.of h)
theorem Nt.some {W : Wd} {H : Hp} {b : Addr} {u : HO} (z : Nt W H b) (e : H b = some u) (hu : ∀ ps, u ≠ .tbl ps) : ∃ xs, u = .tup xs := by
  rcases z with z | ⟨_, xs, h⟩
  · obtain ⟨ps, y⟩ := z u e; exact absurd y (hu ps)
  · rw [e] at h; cases h; exact ⟨xs, rfl⟩
structure Ext (W : Wd) (H : Hp) (W' : Wd) (H' : Hp) : Prop where
  fr : ∀ b o, W.F b = some o → W'.F b = some o
  rh : ∃ r, W'.rho = W.rho ++ r ∧ ∀ a ∈ r, Nn H a
  out : ∀ b o, H b = some o → b ∉ W.rho → (∀ ps, o ≠ .tbl ps) → H' b = some o
  non : ∀ b, Nn H' b → Nn H b
  nf : ∀ b o, W'.F b = some o → W.F b = some o ∨ Nt W H b
section
variable {K : PySem.W.Frag} {W W' W'' : Wd} {H H' H'' : Hp} {st st' : Sto} {v : V} {vs us : List V} {d : D} {ds es : List D} {a : Addr}
/-- a thing that is neither a table nor a code object -/
def plainO : HO → Bool
  | .tbl _ => false
  | .ext _ => false
  | _ => true
theorem plainO_tbl {o : HO} (h : plainO o = true) : ∀ ps, o ≠ .tbl ps := fun ps e => by subst e; cases h
theorem tabs_new {T : List (Addr × Str)} {o : HO} (t : LamX.Tabs T H) (hp : H a = none) : LamX.Tabs T (upd H a o) := t.ext fun b u e => by
  have hb : b ≠ a := fun z => by subst z; rw [hp] at e; cases e
  rw [upd_ne hb]; exact e
theorem tabs_set {T : List (Addr × Str)} {o u : HO} (t : LamX.Tabs T H) (hp : H a = some u) (hu : plainO u = true) : LamX.Tabs T (upd H a o) := fun p hm => by
  obtain ⟨ps, h1, h2, h3⟩ := t p hm
  refine ⟨ps, ?_, h2, fun pos cv hc => ?_⟩
  · have hb : p.1 ≠ a := fun z => by rw [z, hp] at h1; cases h1; cases hu
    rw [upd_ne hb]; exact h1
  · obtain ⟨c, e1, e2⟩ := h3 pos cv hc
    have hb : c ≠ a := fun z => by rw [z, hp] at e2; cases e2; cases hu
    exact ⟨c, e1, by rw [upd_ne hb]; exact e2⟩
theorem Ext.refl : Ext W H W H := ⟨fun _ _ h => h, ⟨[], by simp, fun _ h => by cases h⟩, fun _ _ h _ _ => h, fun _ h => h, fun _ _ h => .inl h⟩
theorem Ext.trans (e : Ext W H W' H') (f : Ext W' H' W'' H'') : Ext W H W'' H'' := by
  obtain ⟨r, hr, hn⟩ := e.rh
  obtain ⟨q, hq, hm⟩ := f.rh
  refine ⟨fun b o h => f.fr b o (e.fr b o h), ⟨r ++ q, by rw [hq, hr, List.append_assoc], fun a ha => ?_⟩, fun b o h hb htb => ?_, fun b h => e.non b (f.non b h), fun b o h => ?_⟩
  · rcases List.mem_append.mp ha with h | h
    · exact hn a h
    · exact e.non a (hm a h)
  · refine f.out b o (e.out b o h hb htb) ?_ htb
    rw [hr]
    intro hx
    rcases List.mem_append.mp hx with h' | h'
    · exact hb h'
    · obtain ⟨ps, z⟩ := hn b h' o h; exact htb ps z
  · rcases f.nf b o h with h | h
    · exact e.nf b o h
    · rcases h with h | ⟨hb, xs, h⟩
      · exact .inr (.inl (e.non b h))
      · refine .inr ?_
        have hb' : b ∉ W.rho := fun z => hb (by rw [hr]; exact List.mem_append_left _ z)
        cases q : H b with
        | none => exact .inl (.of q)
        | some u =>
          by_cases t : ∃ ps, u = .tbl ps
          · obtain ⟨ps, rfl⟩ := t
            exact .inl (fun o e => by rw [q] at e; cases e; exact ⟨ps, rfl⟩)
          · have y := e.out b u q hb' (fun ps z => t ⟨ps, z⟩)
            rw [h] at y; cases y
            exact .inr ⟨hb', xs, q⟩
theorem sqL_mono {F F' : Hp} {xs : List V} (hf : ∀ b o, F b = some o → F' b = some o) (h : SqL K F a xs) : SqL K F' a xs := by
  rcases h with (h | ⟨o, h⟩) | h
  · exact .inl (.inl (hf _ _ h))
  · exact .inl (.inr ⟨o, hf _ _ h⟩)
  · exact .inr h
theorem rep_dict {kvs : List (D × D)} (h : rep K W v (.dict kvs)) : (∃ (r : Nat) (a : Addr), kvs = [(.int (r : Int), .none)] ∧ v = .ref a ∧ W.rho[r]? = some a) ∨
    (∃ ds a xs, kvs = [(.none, .tuple ds)] ∧ v = .ref a ∧ SqZ K W.F a xs ∧ repL K W xs ds) ∨
    (∃ ds a xs, kvs = [(.none, .list ds)] ∧ v = .ref a ∧ SqL K W.F a xs ∧ repL K W xs ds) ∨
    ∃ (a dd : Int) (c : Str) (ns fs : List D), kvs = [(.bool true, .tuple [.int a, .int dd, .str c, .tuple ns, .tuple fs])] := by
  match kvs, h with
  | [(.int i, .none)], ⟨r, a, e1, e2, e3⟩ => subst e1; exact .inl ⟨r, a, rfl, e2, e3⟩
  | [(.none, .tuple ds)], ⟨a, xs, e1, e2, e3⟩ => exact .inr (.inl ⟨ds, a, xs, rfl, e1, e2, e3⟩)
  | [(.none, .list ds)], ⟨a, xs, e1, e2, e3⟩ => exact .inr (.inr (.inl ⟨ds, a, xs, rfl, e1, e2, e3⟩))
  | [(.bool true, .tuple [.int a, .int dd, .str c, .tuple ns, .tuple fs])], _ => exact .inr (.inr (.inr ⟨a, dd, c, ns, fs, rfl⟩))
mutual
theorem rep_mono (hf : ∀ b o, W.F b = some o → W'.F b = some o) (hr : ∀ (r : Nat) (a : Addr), W.rho[r]? = some a → W'.rho[r]? = some a) : ∀ {v : V} (d : D), rep K W v d → rep K W' v d
  | _, .none, h => h
  | _, .bool _, h => h
  | _, .int _, h => h
  | _, .str _, h => h
  | _, .list ds, ⟨a, xs, e, h, l⟩ => ⟨a, xs, e, hf _ _ h, repL_mono hf hr ds l⟩
  | _, .tuple ds, ⟨a, xs, e, h, l⟩ => ⟨a, xs, e, hf _ _ h, repL_mono hf hr ds l⟩
  | _, .dict [(.int _, .none)], ⟨r, a, e1, e2, h⟩ => ⟨r, a, e1, e2, hr r a h⟩
  | _, .dict [(.none, .tuple ds)], ⟨a, xs, e, h, l⟩ => ⟨a, xs, e, h.mono hf, repL_mono hf hr ds l⟩
  | _, .dict [(.none, .list ds)], ⟨a, xs, e, h, l⟩ => ⟨a, xs, e, sqL_mono hf h, repL_mono hf hr ds l⟩
  | _, .dict [(.bool true, .tuple [.int _, .int _, .str _, .tuple _, .tuple fs])], ⟨e, xs, h, l⟩ => ⟨e, xs, hf _ _ h, repL_mono hf hr fs l⟩
theorem repL_mono (hf : ∀ b o, W.F b = some o → W'.F b = some o) (hr : ∀ (r : Nat) (a : Addr), W.rho[r]? = some a → W'.rho[r]? = some a) : ∀ {vs : List V} (ds : List D), repL K W vs ds → repL K W' vs ds
  | _, [], h => h
  | _, d :: ds, ⟨v, us, e, h, l⟩ => ⟨v, us, e, rep_mono hf hr d h, repL_mono hf hr ds l⟩
end
theorem Ext.at (e : Ext W H W' H') (r : Nat) (a : Addr) (h : W.rho[r]? = some a) : W'.rho[r]? = some a := by
  obtain ⟨q, hq, _⟩ := e.rh
  have hlt : r < W.rho.length := (List.getElem?_eq_some_iff.mp h).1
  rw [hq, List.getElem?_append_left hlt]; exact h
theorem Ext.rep (e : Ext W H W' H') (h : rep K W v d) : Pv.rep K W' v d := rep_mono e.fr e.at d h
theorem Ext.repL (e : Ext W H W' H') (h : repL K W vs ds) : Pv.repL K W' vs ds := repL_mono e.fr e.at ds h
theorem repP_mono {κ : Type} {ks : List (κ × V)} {kvs : List (κ × D)} (hf : ∀ b o, W.F b = some o → W'.F b = some o) (hr : ∀ (r : Nat) (a : Addr), W.rho[r]? = some a → W'.rho[r]? = some a) (h : repP K W ks kvs) : repP K W' ks kvs :=
  Paired.mapP h fun _ _ z => ⟨z.1, rep_mono hf hr _ z.2⟩
theorem repO_mono {m : MO} (hf : ∀ b o, W.F b = some o → W'.F b = some o) (hr : ∀ (r : Nat) (a : Addr), W.rho[r]? = some a → W'.rho[r]? = some a) (hH : ∀ o, H a = some o → H' a = some o) (h : repO K W H a m) : repO K W' H' a m := by
  cases m with
  | lst ds => obtain ⟨xs, h1, h2⟩ := h; exact ⟨xs, hH _ h1, repL_mono hf hr ds h2⟩
  | ro ds => obtain ⟨o, xs, h1, h2⟩ := h; exact ⟨o, xs, hH _ h1, repL_mono hf hr ds h2⟩
  | dct kvs => obtain ⟨xs, h1, h2⟩ := h; exact ⟨xs, hH _ h1, repP_mono hf hr h2⟩
  | dctT kvs => obtain ⟨xs, h1, h2⟩ := h; exact ⟨xs, hH _ h1, repP_mono hf hr h2⟩
  | tb P q => obtain ⟨e, ps, h1⟩ := h; exact ⟨e, ps, hH _ h1⟩
theorem repO.some {m : MO} (h : repO K W H a m) : ∃ o, H a = some o := by
  cases m with
  | lst ds => obtain ⟨xs, h1, _⟩ := h; exact ⟨_, h1⟩
  | ro ds => obtain ⟨o, xs, h1, _⟩ := h; exact ⟨_, h1⟩
  | dct kvs => obtain ⟨xs, h1, _⟩ := h; exact ⟨_, h1⟩
  | dctT kvs => obtain ⟨xs, h1, _⟩ := h; exact ⟨_, h1⟩
  | tb P q => obtain ⟨e, ps, h1⟩ := h; exact ⟨_, h1⟩
theorem repO_plain {m : MO} (h : repO K W H a m) (ht : noTb m = true) : ∃ o, H a = some o ∧ plainO o = true := by
  cases m with
  | tb P q => cases ht
  | lst ds => obtain ⟨xs, h1, _⟩ := h; exact ⟨_, h1, rfl⟩
  | ro ds => obtain ⟨o, xs, h1, _⟩ := h; exact ⟨_, h1, rfl⟩
  | dct ds => obtain ⟨xs, h1, _⟩ := h; exact ⟨_, h1, rfl⟩
  | dctT ds => obtain ⟨xs, h1, _⟩ := h; exact ⟨_, h1, rfl⟩
theorem HR.at (h : HR K W H st) {r : Nat} (e : W.rho[r]? = some a) : ∃ m, st[r]? = some m ∧ W.F a = none ∧ repO K W H a m := by
  have hlt : r < st.length := by rw [← h.len]; exact (List.getElem?_eq_some_iff.mp e).1
  have hm : st[r]? = some st[r] := List.getElem?_eq_getElem hlt
  obtain ⟨p, q⟩ := h.obj r a _ e hm
  exact ⟨_, hm, p, q⟩
theorem HR.at' (h : HR K W H st) {r : Nat} {m : MO} (e : st[r]? = some m) : ∃ a, W.rho[r]? = some a ∧ W.F a = none ∧ repO K W H a m := by
  have hlt : r < W.rho.length := by rw [h.len]; exact (List.getElem?_eq_some_iff.mp e).1
  have hm : W.rho[r]? = some W.rho[r] := List.getElem?_eq_getElem hlt
  obtain ⟨p, q⟩ := h.obj r _ m hm e
  exact ⟨_, hm, p, q⟩
theorem HR.mem (h : HR K W H st) (ha : a ∈ W.rho) : ∃ o, H a = some o := by
  obtain ⟨r, hr⟩ := List.mem_iff_getElem?.mp ha
  obtain ⟨m, _, _, q⟩ := h.at hr
  exact q.some
theorem HR.free (h : HR K W H st) (hp : H a = none) : a ∉ W.rho := fun ha => by
  obtain ⟨o, e⟩ := h.mem ha
  rw [e] at hp; cases hp
theorem HR.freeF (h : HR K W H st) (hp : H a = none) : W.F a = none := by
  cases q : W.F a with
  | none => rfl
  | some o => rw [h.sub _ _ q] at hp; cases hp
/-- a new thing that never changes -/
theorem HR.new {o : HO} (h : HR K W H st) (hp : H a = none) (ho : plainO o = true := by rfl) : HR K ⟨upd W.F a o, W.rho⟩ (upd H a o) st ∧ Ext W H ⟨upd W.F a o, W.rho⟩ (upd H a o) := by
  have hf : ∀ b u, W.F b = some u → upd W.F a o b = some u := fun b u e => by
    have hb : b ≠ a := fun z => by subst z; rw [h.freeF hp] at e; cases e
    rw [upd_ne hb]; exact e
  have hn := h.free hp
  refine ⟨⟨h.len, h.nd, fun b u e => ?_, fun r b m e1 e2 => ?_, tabs_new h.tab hp, fun b ps e => ?_⟩, ⟨hf, ⟨[], by simp, fun _ z => by cases z⟩, fun b u e _ _ => ?_, fun b e => ?_, fun b u e => ?_⟩⟩
  · have e' : upd W.F a o b = some u := e
    by_cases hb : b = a
    · subst hb; rw [upd_same] at e' ⊢; exact e'
    · rw [upd_ne hb] at e' ⊢; exact h.sub b u e'
  · have hb : b ≠ a := fun z => hn (by rw [← z]; exact List.mem_of_getElem? e1)
    obtain ⟨p, q⟩ := h.obj r b m e1 e2
    exact ⟨by show upd W.F a o b = none; rw [upd_ne hb]; exact p, repO_mono (W := W) hf (fun _ _ z => z) (fun u z => by rw [upd_ne hb]; exact z) q⟩
  · have e' : upd W.F a o b = some (.tbl ps) := e
    by_cases hb : b = a
    · subst hb; rw [upd_same] at e'; cases e'; cases ho
    · rw [upd_ne hb] at e'; exact h.nt b ps e'
  · have hb : b ≠ a := fun z => by subst z; rw [hp] at e; cases e
    rw [upd_ne hb]; exact e
  · by_cases hb : b = a
    · subst hb; exact .of hp
    · exact fun u z => e u (by rw [upd_ne hb]; exact z)
  · have e' : upd W.F a o b = some u := e
    by_cases hb : b = a
    · subst hb; exact .inr (.of hp)
    · rw [upd_ne hb] at e'; exact .inl e'
/-- a new object of the store -/
theorem HR.newM {o : HO} {m : MO} (h : HR K W H st) (hp : H a = none) (ho : repO K ⟨W.F, W.rho ++ [a]⟩ (upd H a o) a m) (hm : noTb m = true := by rfl) :
    HR K ⟨W.F, W.rho ++ [a]⟩ (upd H a o) (st ++ [m]) ∧ Ext W H ⟨W.F, W.rho ++ [a]⟩ (upd H a o) := by
  have hn := h.free hp
  have hx : Ext W H ⟨W.F, W.rho ++ [a]⟩ (upd H a o) := by
    refine ⟨fun _ _ e => e, ⟨[a], rfl, fun b hb => ?_⟩, fun b u e _ _ => ?_, fun b e => ?_, fun _ _ e => .inl e⟩
    · have : b = a := by simpa using hb
      subst this; exact .of hp
    · have hb : b ≠ a := fun z => by subst z; rw [hp] at e; cases e
      rw [upd_ne hb]; exact e
    · by_cases hb : b = a
      · subst hb; exact .of hp
      · exact fun u z => e u (by rw [upd_ne hb]; exact z)
  refine ⟨⟨by simp [h.len], ?_, fun b u e => ?_, fun r b m' e1 e2 => ?_, by rw [tbs_app st hm]; exact tabs_new h.tab hp, h.nt⟩, hx⟩
  · exact List.nodup_append.mpr ⟨h.nd, by simp, fun x hx' y hy => by
      have hy' : y = a := by simpa using hy
      rw [hy']
      exact fun z => hn (z ▸ hx')⟩
  · have hb : b ≠ a := fun z => by subst z; rw [h.freeF hp] at e; cases e
    rw [upd_ne hb]; exact h.sub b u e
  · by_cases hr : r < W.rho.length
    · rw [List.getElem?_append_left hr] at e1
      rw [List.getElem?_append_left (by rw [← h.len]; exact hr)] at e2
      have hb : b ≠ a := fun z => hn (by rw [← z]; exact List.mem_of_getElem? e1)
      obtain ⟨p, q⟩ := h.obj r b m' e1 e2
      exact ⟨p, repO_mono (W := W) hx.fr hx.at (fun u z => by rw [upd_ne hb]; exact z) q⟩
    · rw [List.getElem?_append_right (by omega)] at e1
      rw [List.getElem?_append_right (by rw [← h.len]; omega)] at e2
      rw [h.len] at e1
      cases hk : r - st.length with
      | zero =>
        rw [hk] at e1 e2
        simp at e1 e2
        subst e1; subst e2
        exact ⟨h.freeF hp, ho⟩
      | succ k => rw [hk] at e1; simp at e1
/-- an object of the store is changed -/
theorem HR.set {o : HO} {m m0 : MO} {r : Nat} (h : HR K W H st) (hr : W.rho[r]? = some a) (hm0 : st[r]? = some m0) (ho : repO K W (upd H a o) a m) (ht0 : noTb m0 = true := by rfl) (ht : noTb m = true := by rfl) : HR K W (upd H a o) (st.set r m) ∧ Ext W H W (upd H a o) := by
  obtain ⟨hF, hO⟩ := h.obj r a m0 hr hm0
  obtain ⟨u0, hu0, hpl⟩ := repO_plain hO ht0
  have hno : ∀ ps, o ≠ .tbl ps := fun ps z => by
    obtain ⟨u1, hu1, hp1⟩ := repO_plain ho ht
    rw [upd_same] at hu1; cases hu1; exact plainO_tbl hp1 ps z
  have ham : a ∈ W.rho := List.mem_of_getElem? hr
  refine ⟨⟨by rw [List.length_set]; exact h.len, h.nd, fun b u e => ?_, fun q b m' e1 e2 => ?_, fun p hp => tabs_set h.tab hu0 hpl p (tbs_set ht st r p hp), h.nt⟩, ⟨fun _ _ e => e, ⟨[], by simp, fun _ z => by cases z⟩, fun b u e hb _ => ?_, fun b e => ?_, fun _ _ e => .inl e⟩⟩
  · have hb : b ≠ a := fun z => by subst z; rw [hF] at e; cases e
    rw [upd_ne hb]; exact h.sub b u e
  · by_cases hq : q = r
    · subst hq
      rw [hr] at e1; cases e1
      rw [List.getElem?_set_self (by rw [← h.len]; exact (List.getElem?_eq_some_iff.mp hr).1)] at e2
      cases e2
      exact ⟨hF, ho⟩
    · rw [List.getElem?_set_ne (Ne.symm hq)] at e2
      have hb : b ≠ a := fun z => by
        subst z
        exact hq ((List.getElem?_inj (List.getElem?_eq_some_iff.mp e1).1 h.nd).mp (e1.trans hr.symm))
      obtain ⟨p, q'⟩ := h.obj q b m' e1 e2
      exact ⟨p, repO_mono (W := W) (fun _ _ z => z) (fun _ _ z => z) (fun u z => by rw [upd_ne hb]; exact z) q'⟩
  · have hb : b ≠ a := fun z => hb (z ▸ ham)
    rw [upd_ne hb]; exact e
  · by_cases hb : b = a
    · subst hb; obtain ⟨ps, z⟩ := e _ (upd_same ..); exact absurd z (hno ps)
    · exact fun u z => e u (by rw [upd_ne hb]; exact z)
theorem mem_tbs {P : Addr} {q : Str} : ∀ (st : Sto) (r : Nat), st[r]? = some (.tb P q) → (P, q) ∈ tbs st
  | [], r, h => by simp at h
  | o :: st, 0, h => by
    have : o = .tb P q := by simpa using h
    subst this; exact List.mem_cons_self
  | o :: st, r + 1, h => by
    have h' : st[r]? = some (.tb P q) := by simpa using h
    cases o with
    | tb P' q' => exact List.mem_cons_of_mem _ (mem_tbs st r h')
    | _ => exact mem_tbs st r h'
/-- code objects are made: only tables are written -/
theorem HR.extN (h : HR K W H st) (e : LamX.ExtN H H') (t : LamX.Tabs (tbs st) H') : HR K W H' st ∧ Ext W H W H' := by
  have hs : ∀ b o, W.F b = some o → H' b = some o := fun b o z => e b o (h.sub b o z) fun ps y => h.nt b ps (y ▸ z)
  refine ⟨⟨h.len, h.nd, hs, fun r b m e1 e2 => ?_, t, h.nt⟩, ⟨fun _ _ z => z, ⟨[], by simp, fun _ z => by cases z⟩, fun b o z _ y => e b o z y, fun b z o y => ?_, fun _ _ z => .inl z⟩⟩
  · obtain ⟨p, q⟩ := h.obj r b m e1 e2
    refine ⟨p, ?_⟩
    by_cases ht : noTb m = true
    · cases m with
      | tb P q => cases ht
      | lst ds => obtain ⟨xs, h1, h2⟩ := q; exact ⟨xs, e _ _ h1 (plainO_tbl rfl), h2⟩
      | ro ds => obtain ⟨o, xs, h1, h2⟩ := q; exact ⟨o, xs, e _ _ h1 (plainO_tbl rfl), h2⟩
      | dct kvs => obtain ⟨xs, h1, h2⟩ := q; exact ⟨xs, e _ _ h1 (plainO_tbl rfl), h2⟩
      | dctT kvs => obtain ⟨xs, h1, h2⟩ := q; exact ⟨xs, e _ _ h1 (plainO_tbl rfl), h2⟩
    · cases m with
      | tb P q0 =>
        obtain ⟨rfl, ps, _⟩ := q
        obtain ⟨ps', h1, _⟩ := t _ (mem_tbs st r e2)
        exact ⟨rfl, ps', h1⟩
      | _ => exact absurd rfl ht
  · by_cases ht : ∃ ps, o = .tbl ps
    · exact ht
    · have hn : ∀ ps, o ≠ .tbl ps := fun ps c => ht ⟨ps, c⟩
      obtain ⟨ps, c⟩ := z o (e b o y hn)
      exact absurd c (hn ps)
/-- a list that was made beside the store is kept: as data, or as an object of the store -/
theorem HR.keepF {xs : List V} (h : HR K W H st) (e : H a = some (.lst xs)) (hn : a ∉ W.rho) (hF : W.F a = none) : HR K ⟨upd W.F a (.lst xs), W.rho⟩ H st := by
  refine ⟨h.len, h.nd, fun b u q => ?_, fun r b m e1 e2 => ?_, h.tab, fun b ps q => ?_⟩
  · have q' : upd W.F a (.lst xs) b = some u := q
    by_cases hb : b = a
    · subst hb; rw [upd_same] at q'; cases q'; exact e
    · rw [upd_ne hb] at q'; exact h.sub b u q'
  · have hb : b ≠ a := fun z => hn (by rw [← z]; exact List.mem_of_getElem? e1)
    obtain ⟨p, q⟩ := h.obj r b m e1 e2
    refine ⟨by show upd W.F a (.lst xs) b = none; rw [upd_ne hb]; exact p, repO_mono (W := W) (fun c o z => ?_) (fun _ _ z => z) (fun u z => z) q⟩
    have hc : c ≠ a := fun w => by subst w; rw [hF] at z; cases z
    show upd W.F a (.lst xs) c = some o
    rw [upd_ne hc]; exact z
  · have q' : upd W.F a (.lst xs) b = some (.tbl ps) := q
    by_cases hb : b = a
    · subst hb; rw [upd_same] at q'; cases q'
    · rw [upd_ne hb] at q'; exact h.nt b ps q'
theorem HR.keepM {m : MO} (h : HR K W H st) (hn : a ∉ W.rho) (hF : W.F a = none) (ho : repO K ⟨W.F, W.rho ++ [a]⟩ H a m) (hm : noTb m = true := by rfl) : HR K ⟨W.F, W.rho ++ [a]⟩ H (st ++ [m]) := by
  refine ⟨by simp [h.len], List.nodup_append.mpr ⟨h.nd, by simp, fun x hx' y hy => by
      have hy' : y = a := by simpa using hy
      rw [hy']
      exact fun z => hn (z ▸ hx')⟩, h.sub, fun r b m' e1 e2 => ?_, by rw [tbs_app st hm]; exact h.tab, h.nt⟩
  by_cases hr : r < W.rho.length
  · rw [List.getElem?_append_left hr] at e1
    rw [List.getElem?_append_left (by rw [← h.len]; exact hr)] at e2
    obtain ⟨p, q⟩ := h.obj r b m' e1 e2
    exact ⟨p, repO_mono (W := W) (fun _ _ z => z) (fun r b z => by
      have hlt : r < W.rho.length := (List.getElem?_eq_some_iff.mp z).1
      show (W.rho ++ [a])[r]? = some b
      rw [List.getElem?_append_left hlt]; exact z) (fun u z => z) q⟩
  · rw [List.getElem?_append_right (by omega)] at e1
    rw [List.getElem?_append_right (by rw [← h.len]; omega)] at e2
    rw [h.len] at e1
    cases hk : r - st.length with
    | zero =>
      rw [hk] at e1 e2
      simp at e1 e2
      subst e1; subst e2
      exact ⟨hF, ho⟩
    | succ k => rw [hk] at e1; simp at e1
structure SR (K : PySem.W.Frag) (W : Wd) (sh : St) (sl : Sl) : Prop where
  len : sh.length = sl.length
  at_ : ∀ (i : Nat) (d : D), sl[i]? = some (some d) → ∃ v, sh[i]? = some (some v) ∧ rep K W v d
theorem SR.ext {sh : St} {sl : Sl} (e : Ext W H W' H') (s : SR K W sh sl) : SR K W' sh sl := ⟨s.len, fun i d h => let ⟨v, a, b⟩ := s.at_ i d h; ⟨v, a, e.rep b⟩⟩
theorem SR.set {sh : St} {sl : Sl} (s : SR K W sh sl) (i : Nat) (h : rep K W v d) : SR K W (sh.set i (some v)) (sl.set i (some d)) := by
  refine ⟨by simp [s.len], fun j e hj => ?_⟩
  by_cases hij : j = i
  · subst hij
    by_cases hlt : j < sl.length
    · rw [List.getElem?_set_self hlt] at hj
      cases hj
      exact ⟨v, List.getElem?_set_self (by rw [s.len]; exact hlt), h⟩
    · rw [List.getElem?_eq_none (by simp; omega)] at hj; cases hj
  · rw [List.getElem?_set_ne (Ne.symm hij)] at hj ⊢
    exact s.at_ j e hj
/-- slots are forgotten -/
theorem SR.weak {sh : St} {sl sl' : Sl} (s : SR K W sh sl) (hl : sl'.length = sl.length) (h : ∀ (i : Nat) (d : D), sl'[i]? = some (some d) → sl[i]? = some (some d)) : SR K W sh sl' :=
  ⟨s.len.trans hl.symm, fun i d e => s.at_ i d (h i d e)⟩
/-- an exception: its class's name, its fields -/
abbrev XV := Str × List (Str × D)
inductive R (α : Type) where
  | ok (a : α) (st : Sto)
  | exc (x : XV) (st : Sto)
  | bad
abbrev M := Sl → Sto → R D
def R.bind {α β : Type} (x : R α) (f : α → Sto → R β) : R β :=
  match x with
  | .ok a st => f a st
  | .exc e st => .exc e st
  | .bad => .bad
@[simp] theorem R.bind_ok {α β : Type} (a : α) (st : Sto) (f : α → Sto → R β) : (R.ok a st).bind f = f a st := rfl
@[simp] theorem R.bind_exc {α β : Type} (x : XV) (st : Sto) (f : α → Sto → R β) : (R.exc x st).bind f = .exc x st := rfl
@[simp] theorem R.bind_bad {α β : Type} (f : α → Sto → R β) : (R.bad : R α).bind f = .bad := rfl
def lift {α : Type} (o : Option α) (st : Sto) : R α :=
  match o with
  | some a => .ok a st
  | none => .bad
@[simp] theorem lift_some {α : Type} (a : α) (st : Sto) : lift (some a) st = .ok a st := rfl
@[simp] theorem lift_none {α : Type} (st : Sto) : lift (none : Option α) st = .bad := rfl
end
/-- the facts of the written part that an exception's telling leans on -/
structure Nv where
  K : PySem.W.Frag
  mg : Str → Option Value
/-- how an exception is told: its class, its own dict -/
def repX (N : Nv) (W : Wd) (H : Hp) (cls : Value) (dd : Option Addr) (x : XV) : Prop :=
  ∃ C, N.mg x.1 = some (.ref C) ∧ cls = .ref C ∧ ∃ d fs, dd = some d ∧ W.F d = some (.xd fs) ∧ repP N.K W fs x.2
/-- what is wanted, given what the reckoning ends with -/
def Post (N : Nv) (W : Wd) (H : Hp) (Q : VK) (E : XK) : R D → Prop
  | .ok d st => ∀ W' v H', Ext W H W' H' → HR N.K W' H' st → rep N.K W' v d → Q v H'
  | .exc x st => ∀ W' cls dd H', Ext W H W' H' → HR N.K W' H' st → repX N W' H' cls dd x → E cls dd H'
  | .bad => False
abbrev nv (X : Cx) : Nv := ⟨X.K, X.mg⟩
/-- the reading of a reckoning -/
def rd (N : Nv) (Wx : WX) (m : M) : TE := fun sh H Q => ∃ W sl st, HR N.K W H st ∧ SR N.K W sh sl ∧ Post N W H Q (fun cls dd H' => Wx cls dd sh H') (m sl st)
def GE (X : Cx) (Wx : WX) (e : Expr) (m : M) : Prop := PE X e (rd (nv X) Wx m)
section
variable {X : Cx} {Wx : WX} {N : Nv} {W W' : Wd} {H H' : Hp} {st : Sto} {sh : St} {sl : Sl}
theorem _root_.L2.PE.imp {e : Expr} {t t' : TE} (h : PE X e t) (i : ∀ σ H Q, t' σ H Q → t σ H Q) : PE X e t' := ⟨fun pins s σ H Q I q => h.run pins s σ H Q I (i σ H Q q)⟩
theorem _root_.L2.PE.or {e : Expr} {t t' : TE} (h : PE X e t) (h' : PE X e t') : PE X e (fun σ H Q => t σ H Q ∨ t' σ H Q) :=
  ⟨fun pins s σ H Q I q => q.elim (h.run pins s σ H Q I) (h'.run pins s σ H Q I)⟩
theorem _root_.L2.PT.imp {e : Expr} {t t' : TT} (h : PT X e t) (i : ∀ σ H Q, t' σ H Q → t σ H Q) : PT X e t' := ⟨fun pins s σ H Q I q => h.run pins s σ H Q I (i σ H Q q)⟩
theorem _root_.L2.PS.imp {e : Stmt} {t t' : TS} (h : PS X e t) (i : ∀ D σ H, t' D σ H → t D σ H) : PS X e t' := ⟨fun pins s σ H D I q => h.run pins s σ H D I (i D σ H q)⟩
theorem _root_.L2.PSs.imp {e : List Stmt} {t t' : TS} (h : PSs X e t) (i : ∀ D σ H, t' D σ H → t D σ H) : PSs X e t' := ⟨fun pins s σ H D I q => h.run pins s σ H D I (i D σ H q)⟩
theorem _root_.L2.PA.imp {e : List Expr} {t t' : TA} (h : PA X e t) (i : ∀ σ H Q, t' σ H Q → t σ H Q) : PA X e t' := ⟨fun pos pins s σ H Q I q => h.run pos pins s σ H Q I (i σ H Q q)⟩
theorem Post.ext {Q : VK} {E : XK} {r : R D} (e : Ext W H W' H') (h : Post N W H Q E r) : Post N W' H' Q E r := by
  cases r with
  | ok d st => exact fun W2 v H2 e2 hr rp => h W2 v H2 (e.trans e2) hr rp
  | exc x st => exact fun W2 c dd H2 e2 hr rp => h W2 c dd H2 (e.trans e2) hr rp
  | bad => exact h
theorem Post.mono {Q Q' : VK} {E E' : XK} {r : R D} (h : Post N W H Q E r) (hq : ∀ v H', Q v H' → Q' v H') (he : ∀ c d H', E c d H' → E' c d H') : Post N W H Q' E' r := by
  cases r with
  | ok d st => exact fun W2 v H2 e2 hr rp => hq _ _ (h W2 v H2 e2 hr rp)
  | exc x st => exact fun W2 c dd H2 e2 hr rp => he _ _ _ (h W2 c dd H2 e2 hr rp)
  | bad => exact h
/-- a part is reckoned, then the rest -/
theorem rd_bind {m : M} {f : D → Sto → R D} {Q Q2 : VK} (hr : HR N.K W H st) (hs : SR N.K W sh sl)
    (h : Post N W H Q (fun cls dd H' => Wx cls dd sh H') ((m sl st).bind f))
    (k : ∀ d st1 W1 v H1, m sl st = .ok d st1 → Ext W H W1 H1 → HR N.K W1 H1 st1 → SR N.K W1 sh sl → rep N.K W1 v d → Post N W1 H1 Q (fun cls dd H' => Wx cls dd sh H') (f d st1) → Q2 v H1) : rd N Wx m sh H Q2 := by
  refine ⟨W, sl, st, hr, hs, ?_⟩
  cases e : m sl st with
  | ok d st1 => rw [e] at h; exact fun W1 v H1 e1 h1 r1 => k d st1 W1 v H1 e e1 h1 (hs.ext e1) r1 (Post.ext e1 h)
  | exc x st1 => rw [e] at h; exact h
  | bad => rw [e] at h; exact h
end
end Pv
set_option Elab.async false
set_option linter.all false
set_option maxRecDepth 100000
set_option maxHeartbeats 4000000
namespace Pv
open PySem PySem.Spec L2
open PyProof.Rows hiding St
def deref (st : Sto) (d : D) : D :=
  match d with
  | .dict [(.int r, .none)] => (match st[r.toNat]? with | some (.lst ds) => .list ds | _ => d)
  | .dict [(.none, .tuple ds)] => .tuple ds
  | _ => d
@[simp] theorem deref_gc (st : Sto) (ds : List D) : deref st (Gc ds) = .tuple ds := rfl
@[simp] theorem deref_gs (st : Sto) (ds : List D) : deref st (Gs ds) = Gs ds := rfl
@[simp] theorem deref_none (st : Sto) : deref st .none = .none := rfl
@[simp] theorem deref_bool (st : Sto) (b : Bool) : deref st (.bool b) = .bool b := rfl
@[simp] theorem deref_int (st : Sto) (i : Int) : deref st (.int i) = .int i := rfl
@[simp] theorem deref_str (st : Sto) (x : Str) : deref st (.str x) = .str x := rfl
@[simp] theorem deref_list (st : Sto) (ds : List D) : deref st (.list ds) = .list ds := rfl
@[simp] theorem deref_tuple (st : Sto) (ds : List D) : deref st (.tuple ds) = .tuple ds := rfl
theorem deref_ref (st : Sto) (r : Nat) : deref st (Rf r) = (match st[r]? with | some (.lst ds) => .list ds | _ => Rf r) := by
  show (match st[(r : Int).toNat]? with | some (.lst ds) => PyData.list ds | _ => Rf r) = _
  rw [Int.toNat_natCast]
section
variable {K : PySem.W.Frag} {W W' : Wd} {H H' : Hp} {st st' : Sto} {v : V} {vs us : List V} {d : D} {ds es : List D} {a : Addr}
theorem repL_length : ∀ {vs : List V} {ds : List D}, repL K W vs ds → vs.length = ds.length
  | _, [], h => by cases h; rfl
  | _, d :: ds, ⟨v, us, e, _, l⟩ => by rw [e, List.length_cons, List.length_cons, repL_length l]
theorem repL_get : ∀ {vs : List V} {ds : List D} (i : Nat) {d : D}, repL K W vs ds → ds[i]? = some d → ∃ v, vs[i]? = some v ∧ rep K W v d
  | _, [], i, _, _, e => by simp at e
  | _, d :: ds, 0, _, ⟨v, us, e, r, l⟩, h => by simp at h; subst h; subst e; exact ⟨v, rfl, r⟩
  | _, d :: ds, i + 1, _, ⟨v, us, e, r, l⟩, h => by subst e; simpa using repL_get i l (by simpa using h)
theorem repL_append : ∀ {vs us : List V} {ds es : List D}, repL K W vs ds → repL K W us es → repL K W (vs ++ us) (ds ++ es)
  | _, _, [], _, h, k => by cases h; exact k
  | _, _, d :: ds, _, ⟨v, ws, e, r, l⟩, k => by subst e; exact ⟨v, ws ++ _, rfl, r, repL_append l k⟩
theorem repL_take : ∀ {vs : List V} {ds : List D} (n : Nat), repL K W vs ds → repL K W (vs.take n) (ds.take n)
  | _, _, 0, _ => by simp [repL]
  | _, [], n + 1, h => by cases h; simp [repL]
  | _, d :: ds, n + 1, ⟨v, ws, e, r, l⟩ => by subst e; exact ⟨v, _, rfl, r, repL_take n l⟩
theorem repL_drop : ∀ {vs : List V} {ds : List D} (n : Nat), repL K W vs ds → repL K W (vs.drop n) (ds.drop n)
  | _, _, 0, h => by simpa using h
  | _, [], n + 1, h => by cases h; simp [repL]
  | _, d :: ds, n + 1, ⟨v, ws, e, r, l⟩ => by subst e; simpa using repL_drop n l
theorem repL_one (h : rep K W v d) : repL K W [v] [d] := ⟨v, [], rfl, h, rfl⟩
theorem repL_set : ∀ {vs : List V} {ds : List D} (i : Nat), repL K W vs ds → rep K W v d → repL K W (vs.set i v) (ds.set i d)
  | _, [], i, h, _ => by cases h; simp [repL]
  | _, e :: ds, 0, ⟨w, ws, q, r, l⟩, k => by subst q; exact ⟨v, ws, rfl, k, l⟩
  | _, e :: ds, i + 1, ⟨w, ws, q, r, l⟩, k => by subst q; exact ⟨w, _, rfl, r, repL_set i l k⟩
theorem rep_of_deref_scalar (hr : HR K W H st) (h : rep K W v d) : (∀ i, deref st d = .int i → v = .int i) ∧ (∀ b, deref st d = .bool b → v = .bl b) ∧ (∀ x, deref st d = .str x → v = .str x) ∧ (deref st d = .none → v = .non) := by
  cases d with
  | none => exact ⟨fun _ e => by simp at e, fun _ e => by simp at e, fun _ e => by simp at e, fun _ => h⟩
  | bool b => exact ⟨fun _ e => by simp at e, fun _ e => by simp at e; subst e; exact h, fun _ e => by simp at e, fun e => by simp at e⟩
  | int i => exact ⟨fun _ e => by simp at e; subst e; exact h, fun _ e => by simp at e, fun _ e => by simp at e, fun e => by simp at e⟩
  | str x => exact ⟨fun _ e => by simp at e, fun _ e => by simp at e, fun _ e => by simp at e; subst e; exact h, fun e => by simp at e⟩
  | list ds => exact ⟨fun _ e => by simp at e, fun _ e => by simp at e, fun _ e => by simp at e, fun e => by simp at e⟩
  | tuple ds => exact ⟨fun _ e => by simp at e, fun _ e => by simp at e, fun _ e => by simp at e, fun e => by simp at e⟩
  | dict kvs =>
    rcases rep_dict h with ⟨r, a, e, _, _⟩ | ⟨ds, a, xs, e, _, _⟩ | ⟨ds, a, xs, e, _, _⟩ | ⟨ae, ade, ce, nse, fse, he⟩
    · subst e
      have q := deref_ref st r
      refine ⟨fun _ e => ?_, fun _ e => ?_, fun _ e => ?_, fun e => ?_⟩ <;> (rw [q] at e; split at e <;> simp at e)
    · subst e
      exact ⟨fun _ e => by simp at e, fun _ e => by simp at e, fun _ e => by simp at e, fun e => by simp at e⟩
    · subst e
      exact ⟨fun _ e => by simp at e, fun _ e => by simp at e, fun _ e => by simp at e, fun e => by simp at e⟩
    · subst he
      exact ⟨fun _ e => (by cases e), fun _ e => (by cases e), fun _ e => (by cases e), fun e => (by cases e)⟩
theorem rep_dint (hr : HR K W H st) (h : rep K W v d) {i : Int} (e : deref st d = .int i) : v = .int i := (rep_of_deref_scalar hr h).1 i e
theorem rep_dbool (hr : HR K W H st) (h : rep K W v d) {i : Bool} (e : deref st d = .bool i) : v = .bl i := (rep_of_deref_scalar hr h).2.1 i e
theorem rep_dstr (hr : HR K W H st) (h : rep K W v d) {i : Str} (e : deref st d = .str i) : v = .str i := (rep_of_deref_scalar hr h).2.2.1 i e
theorem rep_dnone (hr : HR K W H st) (h : rep K W v d) (e : deref st d = .none) : v = .non := (rep_of_deref_scalar hr h).2.2.2 e
theorem rep_dlist (hr : HR K W H st) (h : rep K W v d) (e : deref st d = .list ds) : ∃ a xs, v = .ref a ∧ H a = some (.lst xs) ∧ repL K W xs ds := by
  cases d with
  | list es => simp at e; subst e; obtain ⟨a, xs, q, f, l⟩ := h; exact ⟨a, xs, q, hr.sub _ _ f, l⟩
  | dict kvs =>
    rcases rep_dict h with ⟨r, a, e1, e2, e3⟩ | ⟨ds', a, xs, e1, _, _⟩ | ⟨ds', a, xs, e1, _, _⟩ | ⟨ae, ade, ce, nse, fse, he⟩
    rotate_left
    · subst e1; simp at e
    · subst e1; simp at e
    · subst he; cases e
    subst e1
    rw [deref_ref] at e
    obtain ⟨m, hm, _, ho⟩ := hr.at e3
    rw [hm] at e
    cases m with
    | lst es =>
      simp at e; subst e
      obtain ⟨xs, f, l⟩ := ho
      exact ⟨a, xs, e2, f, l⟩
    | ro es => simp at e
    | dct es => simp at e
    | dctT es => simp at e
    | tb _ _ => simp at e
  | none => simp at e
  | bool b => simp at e
  | int b => simp at e
  | str b => simp at e
  | tuple b => simp at e
theorem rep_dgs (hr : HR K W H st) (h : rep K W v d) (e : deref st d = Gs ds) : ∃ a xs, v = .ref a ∧ SqL K H a xs ∧ repL K W xs ds := by
  cases d with
  | dict kvs =>
    rcases rep_dict h with ⟨r, a, e1, e2, e3⟩ | ⟨ds', a, xs, e1, e2, f, l⟩ | ⟨ds', a, xs, e1, e2, f, l⟩ | ⟨ae, ade, ce, nse, fse, he⟩
    · subst e1
      rw [deref_ref] at e
      split at e <;> simp at e
    · subst e1; simp at e
    · subst e1
      simp at e
      subst e
      exact ⟨a, xs, e2, sqL_mono hr.sub f, l⟩
    · subst he; cases e
  | _ => simp at e
theorem rep_dtuple (hr : HR K W H st) (h : rep K W v d) (e : deref st d = .tuple ds) : ∃ a xs, v = .ref a ∧ SqT K H a xs ∧ repL K W xs ds := by
  cases d with
  | tuple es => simp at e; subst e; obtain ⟨a, xs, q, f, l⟩ := h; exact ⟨a, xs, q, .inl (.inl (hr.sub _ _ f)), l⟩
  | dict kvs =>
    rcases rep_dict h with ⟨r, a, e1, e2, e3⟩ | ⟨ds', a, xs, e1, e2, f, l⟩ | ⟨ds', a, xs, e1, _, _⟩ | ⟨ae, ade, ce, nse, fse, he⟩
    · subst e1
      rw [deref_ref] at e
      split at e <;> simp at e
    · subst e1
      simp at e
      subst e
      exact ⟨a, xs, e2, f.T hr.sub, l⟩
    · subst e1; simp at e
    · subst he; cases e
  | none => simp at e
  | bool b => simp at e
  | int b => simp at e
  | str b => simp at e
  | list b => simp at e
end
abbrev F2 := D → D → Sto → R D
abbrev F1 := D → Sto → R D
def mOp2 (f : F2) (a b : M) : M := fun sl st => (a sl st).bind fun x st => (b sl st).bind fun y st => f x y st
def mOp1 (f : F1) (a : M) : M := fun sl st => (a sl st).bind fun x st => f x st
def Ok2 (N : Nv) (r : R2) (f : F2) : Prop := ∀ W H st x y dx dy Q, HR N.K W H st → rep N.K W x dx → rep N.K W y dy → Post N W H Q (fun _ _ _ => False) (f dx dy st) → r x y H Q
def Ok1 (N : Nv) (r : V → Hp → VK → Prop) (f : F1) : Prop := ∀ W H st x dx Q, HR N.K W H st → rep N.K W x dx → Post N W H Q (fun _ _ _ => False) (f dx st) → r x H Q
section
variable {X : Cx} {Wx : WX} {ea eb e : Expr} {ma mb mc : M} {r : R2} {f : F2} {pos : Pos}
/-- from a reading of two parts, one after another -/
theorem ge_op2 (hx : ∀ x y st ex s2, f x y st ≠ .exc ex s2) (ok : Ok2 (nv X) r f) (h : PE X e (tOp r (rd (nv X) Wx ma) (rd (nv X) Wx mb))) : GE X Wx e (mOp2 f ma mb) := by
  refine h.imp fun sh H Q ⟨W, sl, st, hr, hs, p⟩ => ?_
  refine rd_bind hr hs p fun d1 st1 W1 v1 H1 e1 x1 h1 s1 r1 p1 => ?_
  refine rd_bind h1 s1 p1 fun d2 st2 W2 v2 H2 e2 x2 h2 s2 r2 p2 => ?_
  refine ok W2 H2 st2 v1 v2 d1 d2 Q h2 (x2.rep r1) r2 ?_
  cases q : f d1 d2 st2 with
  | ok d st3 => rw [q] at p2; exact p2
  | bad => rw [q] at p2; exact p2
  | exc ex s3 => exact absurd q (hx _ _ _ _ _)
theorem ge_op1 {r : V → Hp → VK → Prop} {f : F1} (hx : ∀ x st ex s2, f x st ≠ .exc ex s2) (ok : Ok1 (nv X) r f) (h : PE X e (fun σ H Q => rd (nv X) Wx ma σ H fun x H1 => r x H1 Q)) : GE X Wx e (mOp1 f ma) := by
  refine h.imp fun sh H Q ⟨W, sl, st, hr, hs, p⟩ => ?_
  refine rd_bind hr hs p fun d1 st1 W1 v1 H1 e1 x1 h1 s1 r1 p1 => ?_
  refine ok W1 H1 st1 v1 d1 Q h1 r1 ?_
  cases q : f d1 st1 with
  | ok d st3 => rw [q] at p1; exact p1
  | bad => rw [q] at p1; exact p1
  | exc ex s3 => exact absurd q (hx _ _ _ _)
theorem Ok2.or {N : Nv} {r r' : R2} (h : ∀ W H st x y dx dy Q, HR N.K W H st → rep N.K W x dx → rep N.K W y dy → Post N W H Q (fun _ _ _ => False) (f dx dy st) → r x y H Q ∨ r' x y H Q) : Ok2 N (fun x y H Q => r x y H Q ∨ r' x y H Q) f := h
/-- a scalar result, the store as it is -/
theorem Post.val {N : Nv} {W : Wd} {H : Hp} {st : Sto} {Q : VK} {E : XK} {d : D} {v : V} (hr : HR N.K W H st) (p : Post N W H Q E (.ok d st)) (h : rep N.K W v d) : Q v H := p W v H .refl hr h
/-- a new tuple, a new list -/
theorem Post.tup {N : Nv} {W : Wd} {H : Hp} {st : Sto} {Q : VK} {E : XK} {xs : List V} {ds : List D} (hr : HR N.K W H st) (p : Post N W H Q E (.ok (.tuple ds) st)) (h : repL N.K W xs ds) : ∀ a, H a = none → Q (.ref a) (upd H a (.tup xs)) := fun a ha => by
  obtain ⟨h1, h2⟩ := hr.new (o := .tup xs) ha
  exact p _ _ _ h2 h1 ⟨a, xs, rfl, upd_same, h2.repL h⟩
theorem Post.lst {N : Nv} {W : Wd} {H : Hp} {st : Sto} {Q : VK} {E : XK} {xs : List V} {ds : List D} (hr : HR N.K W H st) (p : Post N W H Q E (.ok (.list ds) st)) (h : repL N.K W xs ds) : ∀ a, H a = none → Q (.ref a) (upd H a (.lst xs)) := fun a ha => by
  obtain ⟨h1, h2⟩ := hr.new (o := .lst xs) ha
  exact p _ _ _ h2 h1 ⟨a, xs, rfl, upd_same, h2.repL h⟩
end
def mVar (i : Nat) : M := fun sl st => match sl[i]? with | some (some d) => .ok d st | _ => .bad
def mC (d : D) : M := fun _ st => .ok d st
/-- what the written part says of a constant of the module -/
def GlobIs (N : Nv) (u : V) (d : D) : Prop := ∀ W, rep N.K W u d
section
variable {X : Cx} {Wx : WX} {pos : Pos}
theorem ge_var (i : Nat) {x : Str} (hN : X.N[i]? = some x := by rfl) (hv : Vis X.env.scope x := by first | exact Or.inl rfl | exact Or.inr (Or.inl rfl) | exact Or.inr (Or.inr rfl)) (hd : (x == ("__debug__" : Str)) = false := by decide +kernel)
    (hcd : (x == ("__classdict__" : Str)) = false := by decide +kernel) : GE X Wx (.Name x pos) (mVar i) := by
  refine (pe_var hN hv hd hcd).imp fun sh H Q ⟨W, sl, st, hr, hs, p⟩ => ?_
  unfold mVar at p
  split at p
  · rename_i d e
    obtain ⟨v, e1, r1⟩ := hs.at_ i d e
    exact ⟨v, e1, p.val hr r1⟩
  · exact p.elim
theorem ge_c {e : Expr} {v : V} {d : D} (h : PE X e (tC v)) (r : ∀ W, rep X.K W v d) : GE X Wx e (mC d) := h.imp fun _ _ _ ⟨W, _, _, hr, _, p⟩ => p.val hr (r W)
theorem ge_int {i : Int} {j} : GE X Wx (.Constant (.int i) j pos) (mC (.int i)) := ge_c pe_int fun _ => rfl
theorem ge_bool {b : Bool} {j} : GE X Wx (.Constant (.bool b) j pos) (mC (.bool b)) := ge_c pe_bl fun _ => rfl
theorem ge_none {j} : GE X Wx (.Constant .none j pos) (mC .none) := ge_c pe_non fun _ => rfl
theorem ge_str {x : Str} {j} : GE X Wx (.Constant (.str x) j pos) (mC (.str x)) := ge_c pe_str fun _ => rfl
theorem ge_glob {x : Str} {u : Value} {v : V} {d : D} (hg : Gl X x) (hm : X.mg x = some u) (r : RelV v u) (g : GlobIs (nv X) v d) (hd : (x == ("__debug__" : Str)) = false := by decide +kernel) : GE X Wx (.Name x pos) (mC d) := ge_c (pe_glob hg hm r hd) g
end
def dAdd : D → D → Option D
  | .int i, .int j => some (.int (i + j))
  | .int i, .bool k => some (.int (i + b2i k))
  | .bool k, .int j => some (.int (b2i k + j))
  | .bool k, .bool l => some (.int (b2i k + b2i l))
  | .str a, .str b => if a.length + b.length ≤ sizeLine then some (.str (a ++ b)) else none
  | .list a, .list b => if a.length + b.length ≤ sizeLine then some (.list (a ++ b)) else none
  | _, _ => none
def dAddT (a b : List D) : Option D := if a.length + b.length ≤ sizeLine then some (.tuple (a ++ b)) else none
def onD2 (g : D → D → Option D) : F2 := fun x y st => lift (g (deref st x) (deref st y)) st
def onD1 (g : D → Option D) : F1 := fun x st => lift (g (deref st x)) st
theorem onD2_nx {g : D → D → Option D} (x y : D) (st : Sto) (ex : XV) (s2 : Sto) : onD2 g x y st ≠ .exc ex s2 := by
  unfold onD2 lift; split <;> simp
theorem onD1_nx {g : D → Option D} (x : D) (st : Sto) (ex : XV) (s2 : Sto) : onD1 g x st ≠ .exc ex s2 := by
  unfold onD1 lift; split <;> simp
/-- what onD2 asks, by the operation's own cases -/
theorem onD2_post {N : Nv} {W : Wd} {H : Hp} {Q : VK} {E : XK} {g : D → D → Option D} {x y : D} {st : Sto} (p : Post N W H Q E (onD2 g x y st)) : ∃ d, g (deref st x) (deref st y) = some d ∧ Post N W H Q E (.ok d st) := by
  unfold onD2 lift at p
  split at p
  · rename_i d e; exact ⟨d, e, p⟩
  · exact p.elim
theorem onD1_post {N : Nv} {W : Wd} {H : Hp} {Q : VK} {E : XK} {g : D → Option D} {x : D} {st : Sto} (p : Post N W H Q E (onD1 g x st)) : ∃ d, g (deref st x) = some d ∧ Post N W H Q E (.ok d st) := by
  unfold onD1 lift at p
  split at p
  · rename_i d e; exact ⟨d, e, p⟩
  · exact p.elim
def fAdd : F2 := fun x y st =>
  match x, y with
  | .tuple a, .tuple b => lift (dAddT a b) st
  | .dict [(.none, .tuple a)], .dict [(.none, .tuple b)] => if a.length + b.length ≤ sizeLine then .ok (Gc (a ++ b)) st else .bad
  | _, _ => onD2 dAdd x y st
theorem fAdd_nx (x y : D) (st : Sto) (ex : XV) (s2 : Sto) : fAdd x y st ≠ .exc ex s2 := by
  unfold fAdd
  split
  · unfold lift; split <;> simp
  · split <;> simp
  · exact onD2_nx _ _ _ _ _
def mAdd : M → M → M := mOp2 fAdd
section
variable {X : Cx} {Wx : WX} {ea eb e : Expr} {ma mb mc : M} {pos : Pos}
theorem op_add_bi : OpR X (binaryOp .Add) (fun x y H Q => ∃ k j, x = .bl k ∧ y = .int j ∧ Q (.int (b2i k + j)) H) := by
  intro pins s sh H x y v u Q I rx ry ⟨k, j, ex, ey, q⟩
  subst ex ey
  cases rx
  obtain ⟨t, rfl⟩ := ry
  exact PySem.IntBool.add_bool_int ⟨.int (b2i k + j), H, I.tok _, ⟨_, rfl⟩, q⟩
theorem op_add_bb : OpR X (binaryOp .Add) (fun x y H Q => ∃ k l, x = .bl k ∧ y = .bl l ∧ Q (.int (b2i k + b2i l)) H) := by
  intro pins s sh H x y v u Q I rx ry ⟨k, l, ex, ey, q⟩
  subst ex ey
  cases rx
  cases ry
  exact add_bool ⟨.int (b2i k + b2i l), H, I.tok _, ⟨_, rfl⟩, q⟩
def rCatZ (K : PySem.W.Frag) : R2 := fun x y H Q => ∃ a b xs ys, x = .ref a ∧ y = .ref b ∧ SqT K H a xs ∧ SqT K H b ys ∧ xs.length + ys.length ≤ sizeLine ∧ (xs = [] → Q (.ref b) H) ∧ (xs ≠ [] → ys = [] → Q (.ref a) H) ∧
  (xs ≠ [] → ys ≠ [] → ∀ p o, H p = none → o.dict = none → Q (.ref p) (upd H p (.frz o (.tup (xs ++ ys)))))
theorem op_catZ : OpR X (binaryOp .Add) (rCatZ X.K) := by
  intro pins s σ H x y v u Q I rx ry h
  obtain ⟨a, b, xs, ys, rfl, rfl, ha, hb, hz, q0, q1, q2⟩ := h
  cases rx
  cases ry
  obtain ⟨its, r1, p1, _⟩ := I.tuple ha
  obtain ⟨its2, r2, p2, _⟩ := I.tuple hb
  by_cases hx : xs = []
  · subst hx
    cases r1
    exact cat_tup0 p1 p2 ⟨.ref b, H, I, rfl, q0 rfl⟩
  · refine HT.cat_tup p1 p2 (fun z => hx (r1.nil_iff.mp z)) (fun z => ⟨.ref a, H, I, rfl, q1 hx (r2.nil_iff.mp z)⟩) (fun z => ?_) (by rw [← r1.length, ← r2.length]; exact hz)
    refine ⟨.ref s.heap.objs.size, _, I.laid (t' := s.toks) (o := .frz { cls := .type "tuple", data := .seq (its ++ its2).toArray } (.tup (xs ++ ys))) (fun b ob q => Heap.get?_push_of_some _ q) (Nat.le_refl _) ?_, rfl, q2 hx (fun w => z (r2.nil_iff.mpr w)) _ _ (I.hok.fresh (Nat.le_refl _)) rfl⟩
    exact ⟨Heap.get?_push_size _ rfl, by rw [List.length_append]; exact hz, _, r1.append r2, IsTup.new _ _⟩
theorem ge_add (ha : GE X Wx ea ma) (hb : GE X Wx eb mb) : GE X Wx (.BinOp ea .Add eb pos) (mAdd ma mb) := by
  refine ge_op2 fAdd_nx ?_ (pe_op (((((op_add.or op_add_str).or op_cat).or op_catA).or ((op_add_ib.or op_add_bi).or op_add_bb)).or op_catZ) ha hb)
  intro W H st x y dx dy Q hr rx ry p0
  unfold fAdd at p0
  split at p0
  · rename_i a b
    unfold dAddT lift at p0
    split at p0
    · rename_i d e
      split at e
      · rename_i hl
        cases e
        obtain ⟨a1, xs, e1, h1, l1⟩ := rx
        obtain ⟨a2, ys, e2, h2, l2⟩ := ry
        subst e1; subst e2
        refine .inl (.inl (.inr ⟨a1, a2, xs, ys, rfl, rfl, .inl (.inl (hr.sub _ _ h1)), .inl (.inl (hr.sub _ _ h2)), by rw [repL_length l1, repL_length l2]; exact hl, fun z => ?_, fun _ z => ?_, fun _ _ => p0.tup hr (repL_append l1 l2)⟩))
        · have : a = [] := by cases a with | nil => rfl | cons q qs => obtain ⟨_, _, w, _, _⟩ := l1; rw [z] at w; cases w
          subst this
          rw [List.nil_append] at p0
          exact p0.val hr ⟨a2, ys, rfl, h2, l2⟩
        · have : b = [] := by cases b with | nil => rfl | cons q qs => obtain ⟨_, _, w, _, _⟩ := l2; rw [z] at w; cases w
          subst this
          rw [List.append_nil] at p0
          exact p0.val hr ⟨a1, xs, rfl, h1, l1⟩
      · cases e
    · exact p0.elim
  · rename_i a b
    split at p0
    · rename_i hz
      obtain ⟨c, xs, e1, z1, l1⟩ := rx
      obtain ⟨d, ys, e2, z2, l2⟩ := ry
      refine .inr ⟨c, d, xs, ys, e1, e2, z1.T hr.sub, z2.T hr.sub, by rw [repL_length l1, repL_length l2]; exact hz, fun hx => ?_, fun _ hy => ?_, fun _ _ p o hp ho => ?_⟩
      · subst hx
        have : a = [] := by have := repL_length l1; simpa using this.symm
        subst this
        rw [List.nil_append] at p0
        exact p0.val hr ⟨d, ys, rfl, z2, l2⟩
      · subst hy
        have : b = [] := by have := repL_length l2; simpa using this.symm
        subst this
        rw [List.append_nil] at p0
        exact p0.val hr ⟨c, xs, rfl, z1, l1⟩
      · obtain ⟨h2, x2⟩ := hr.new (o := .frz o (.tup (xs ++ ys))) hp
        exact p0 _ (.ref p) _ x2 h2 ⟨p, xs ++ ys, rfl, .inr ⟨o, upd_same, ho⟩, x2.repL (repL_append l1 l2)⟩
    · exact p0.elim
  · obtain ⟨d, e, p⟩ := onD2_post p0
    clear p0
    cases hx : deref st dx with
    | int i =>
      cases hy : deref st dy with
      | int j => rw [hx, hy] at e; cases e; rw [rep_dint hr rx hx, rep_dint hr ry hy]; exact .inl (.inl (.inl (.inl (.inl ⟨i, j, rfl, rfl, p.val hr rfl⟩))))
      | bool k => rw [hx, hy] at e; cases e; rw [rep_dint hr rx hx, rep_dbool hr ry hy]; exact .inl (.inr (.inl (.inl ⟨i, k, rfl, rfl, p.val hr rfl⟩)))
      | _ => rw [hx, hy] at e; cases e
    | bool k =>
      cases hy : deref st dy with
      | int j => rw [hx, hy] at e; cases e; rw [rep_dbool hr rx hx, rep_dint hr ry hy]; exact .inl (.inr (.inl (.inr ⟨k, j, rfl, rfl, p.val hr rfl⟩)))
      | bool l => rw [hx, hy] at e; cases e; rw [rep_dbool hr rx hx, rep_dbool hr ry hy]; exact .inl (.inr (.inr ⟨k, l, rfl, rfl, p.val hr rfl⟩))
      | _ => rw [hx, hy] at e; cases e
    | str a =>
      cases hy : deref st dy with
      | str b =>
        rw [hx, hy] at e
        simp only [dAdd] at e
        split at e
        · rename_i hl
          cases e; rw [rep_dstr hr rx hx, rep_dstr hr ry hy]; exact .inl (.inl (.inl (.inl (.inr ⟨a, b, rfl, rfl, hl, p.val hr rfl⟩))))
        · cases e
      | _ => rw [hx, hy] at e; cases e
    | list a =>
      cases hy : deref st dy with
      | list b =>
        rw [hx, hy] at e
        simp only [dAdd] at e
        split at e
        · rename_i hl
          cases e
          obtain ⟨a1, xs, e1, h1, l1⟩ := rep_dlist hr rx hx
          obtain ⟨a2, ys, e2, h2, l2⟩ := rep_dlist hr ry hy
          exact .inl (.inl (.inl (.inr ⟨a1, a2, xs, ys, e1, e2, h1, h2, by rw [repL_length l1, repL_length l2]; exact hl, p.lst hr (repL_append l1 l2)⟩)))
        · cases e
      | _ => rw [hx, hy] at e; cases e
    | _ => rw [hx] at e; cases e
/-- an operation of two ints -/
def dInt2 (c : Int → Int → Bool) (g : Int → Int → D) : D → D → Option D
  | .int i, .int j => if c i j then some (g i j) else none
  | _, _ => none
theorem dInt2_inv {c : Int → Int → Bool} {g : Int → Int → D} {x y d : D} (h : dInt2 c g x y = some d) : ∃ i j, x = .int i ∧ y = .int j ∧ c i j = true ∧ d = g i j := by
  unfold dInt2 at h
  split at h
  · rename_i i j
    split at h
    · rename_i hc; exact ⟨i, j, rfl, rfl, hc, (Option.some.inj h).symm⟩
    · cases h
  · cases h
theorem ok_int2 {N : Nv} {C : Int → Int → Prop} {gv : Int → Int → V} {c : Int → Int → Bool} {g : Int → Int → D} (hc : ∀ i j, c i j = true → C i j) (hg : ∀ i j W, rep N.K W (gv i j) (g i j)) : Ok2 N (rI C gv) (onD2 (dInt2 c g)) := by
  intro W H st x y dx dy Q hr rx ry p
  obtain ⟨d, e, p⟩ := onD2_post p
  obtain ⟨i, j, e1, e2, e3, e4⟩ := dInt2_inv e
  subst e4
  exact ⟨i, j, rep_dint hr rx e1, rep_dint hr ry e2, hc i j e3, p.val hr (hg i j W)⟩
theorem ok_int20 {N : Nv} {gv : Int → Int → V} {g : Int → Int → D} (hg : ∀ i j W, rep N.K W (gv i j) (g i j)) : Ok2 N (rI0 gv) (onD2 (dInt2 (fun _ _ => true) g)) := by
  intro W H st x y dx dy Q hr rx ry p
  obtain ⟨d, e, p⟩ := onD2_post p
  obtain ⟨i, j, e1, e2, e3, e4⟩ := dInt2_inv e
  subst e4
  exact ⟨i, j, rep_dint hr rx e1, rep_dint hr ry e2, p.val hr (hg i j W)⟩
def mSub : M → M → M := mOp2 (onD2 (dInt2 (fun _ _ => true) fun i j => .int (i - j)))
theorem ge_sub (ha : GE X Wx ea ma) (hb : GE X Wx eb mb) : GE X Wx (.BinOp ea .Sub eb pos) (mSub ma mb) :=
  ge_op2 onD2_nx (ok_int20 fun _ _ _ => rfl) (pe_op op_sub ha hb)
def mMod : M → M → M := mOp2 (onD2 (dInt2 (fun _ j => decide (0 < j)) fun i j => .int (i % j)))
theorem ge_mod (ha : GE X Wx ea ma) (hb : GE X Wx eb mb) : GE X Wx (.BinOp ea .Mod eb pos) (mMod ma mb) :=
  ge_op2 onD2_nx (ok_int2 (fun _ _ h => of_decide_eq_true h) fun _ _ _ => rfl) (pe_op op_mod ha hb)
def mFdiv : M → M → M := mOp2 (onD2 (dInt2 (fun _ j => decide (0 < j ∧ j < 1073741824)) fun i j => .int (i / j)))
theorem ge_fdiv (ha : GE X Wx ea ma) (hb : GE X Wx eb mb) : GE X Wx (.BinOp ea .FloorDiv eb pos) (mFdiv ma mb) :=
  ge_op2 onD2_nx (ok_int2 (fun _ _ h => of_decide_eq_true h) fun _ _ _ => rfl) (pe_op op_fdiv ha hb)
def mPow : M → M → M := mOp2 (onD2 (dInt2 (fun i j => decide (0 ≤ j ∧ j ≤ 1000000 ∧ i.natAbs < 2 ^ 64)) fun i j => .int (i ^ j.toNat)))
theorem ge_pow (ha : GE X Wx ea ma) (hb : GE X Wx eb mb) : GE X Wx (.BinOp ea .Pow eb pos) (mPow ma mb) :=
  ge_op2 onD2_nx (ok_int2 (fun _ _ h => of_decide_eq_true h) fun _ _ _ => rfl) (pe_op op_pow ha hb)
def dNeg : D → Option D
  | .int i => some (.int (-i))
  | _ => none
def mNeg : M → M := mOp1 (onD1 dNeg)
theorem ge_neg (ha : GE X Wx ea ma) : GE X Wx (.UnaryOp .USub ea pos) (mNeg ma) := by
  refine ge_op1 onD1_nx ?_ (pe_un un_neg ha)
  intro W H st x dx Q hr rx p
  obtain ⟨d, e, p⟩ := onD1_post p
  unfold dNeg at e
  split at e
  · rename_i i e1; cases e; exact ⟨i, rep_dint hr rx e1, p.val hr rfl⟩
  · cases e
end
end Pv
set_option Elab.async false
set_option linter.all false
set_option maxRecDepth 100000
set_option maxHeartbeats 4000000
namespace Pv
open PySem PySem.Spec L2
open PyProof.Rows hiding St
section
variable {K : PySem.W.Frag} {W : Wd} {H : Hp} {st : Sto} {v : V} {vs : List V}
mutual
theorem rep_dp (hs : ∀ b o, W.F b = some o → H b = some o) : ∀ {v : V} (d : D), d.canLay0 = true → rep K W v d → Dp K H v d
  | _, .none, _, h => by cases h; exact .non
  | _, .bool b, _, h => by cases h; exact .bl b
  | _, .int i, _, h => by cases h; exact .int i
  | _, .str x, _, h => by cases h; exact .str x
  | _, .list ds, hc, ⟨a, xs, e, f, l⟩ => by subst e; exact .lst (.inl (.inl (hs _ _ f))) (repL_dp hs ds (by simpa [PyData.canLay0] using hc) l)
  | _, .tuple ds, hc, ⟨a, xs, e, f, l⟩ => by subst e; exact .tup (.inl (.inl (hs _ _ f))) (repL_dp hs ds (by simpa [PyData.canLay0] using hc) l)
  | _, .dict _, hc, _ => by simp [PyData.canLay0] at hc
theorem repL_dp (hs : ∀ b o, W.F b = some o → H b = some o) : ∀ {vs : List V} (ds : List D), PyData.canLayAll0 ds = true → repL K W vs ds → DpAll K H vs ds
  | _, [], _, h => by cases h; exact .nil
  | _, d :: ds, hc, ⟨v, us, e, r, l⟩ => by
    simp only [PyData.canLayAll0, Bool.and_eq_true] at hc
    subst e; exact .cons (rep_dp hs d hc.1 r) (repL_dp hs ds hc.2 l)
end
theorem rep_dpR (hr : HR K W H st) {d e : D} (h : rep K W v d) (q : deref st d = e) (hc : e.canLay0 = true) : Dp K H v e := by
  cases d with
  | dict kvs =>
    cases e with
    | list ds =>
      obtain ⟨a, xs, e1, e2, l⟩ := rep_dlist hr h q
      subst e1
      exact .lst (.inl (.inl e2)) (repL_dp hr.sub ds (by simpa [PyData.canLay0] using hc) l)
    | tuple ds =>
      obtain ⟨a, xs, e1, e2, l⟩ := rep_dtuple hr h q
      subst e1
      exact .tup e2 (repL_dp hr.sub ds (by simpa [PyData.canLay0] using hc) l)
    | none => rw [rep_dnone hr h q]; exact .non
    | bool b => rw [rep_dbool hr h q]; exact .bl b
    | int b => rw [rep_dint hr h q]; exact .int b
    | str b => rw [rep_dstr hr h q]; exact .str b
    | dict _ => simp [PyData.canLay0] at hc
  | none => subst q; exact rep_dp hr.sub _ hc h
  | bool b => subst q; exact rep_dp hr.sub _ hc h
  | int b => subst q; exact rep_dp hr.sub _ hc h
  | str b => subst q; exact rep_dp hr.sub _ hc h
  | list b => subst q; exact rep_dp hr.sub _ hc h
  | tuple b => subst q; exact rep_dp hr.sub _ hc h
end
mutual
def cmpD : D → D → Ordering
  | .int i, .int j => if i < j then .lt else if i = j then .eq else .gt
  | .str x, .str y => if x.cps.toList < y.cps.toList then .lt else if x = y then .eq else .gt
  | .tuple xs, .tuple ys => cmpDs xs ys
  | _, _ => .eq
def cmpDs : List D → List D → Ordering
  | [], [] => .eq
  | [], _ :: _ => .lt
  | _ :: _, [] => .gt
  | x :: xs, y :: ys => match cmpD x y with | .eq => cmpDs xs ys | o => o
end
mutual
/-- data that can be set in order: ints, texts, tuples of such, place by place of one kind -/
def ordD : D → D → Bool
  | .int _, .int _ => true
  | .str _, .str _ => true
  | .tuple xs, .tuple ys => ordDs xs ys
  | _, _ => false
def ordDs : List D → List D → Bool
  | [], _ => true
  | _, [] => true
  | x :: xs, y :: ys => ordD x y && ordDs xs ys
end
def cmpR (op : CmpOp) (o : Ordering) : Bool :=
  match op with
  | .Lt => o == .lt
  | .LtE => o != .gt
  | .Gt => o == .gt
  | .GtE => o != .lt
  | _ => false
def isOrd : CmpOp → Bool
  | .Lt | .LtE | .Gt | .GtE => true
  | _ => false
theorem str_lt_irrefl (x : Str) : ¬ x.cps.toList < x.cps.toList := List.lt_irrefl _
theorem str_lt_asymm {x y : Str} (h : x.cps.toList < y.cps.toList) : ¬ y.cps.toList < x.cps.toList := List.lt_asymm h
theorem str_total {x y : Str} (h : ¬ x.cps.toList < y.cps.toList) (n : x ≠ y) : y.cps.toList < x.cps.toList := by
  rcases Std.lt_trichotomy x.cps.toList y.cps.toList with q | q | q
  · exact absurd q h
  · exact absurd (by cases x; cases y; simp only at q; congr 1; exact Array.toList_inj.mp q) n
  · exact q
mutual
theorem cmpD_eqv : ∀ (x y : D), ordD x y = true → (cmpD x y = .eq ↔ PyData.eqv x y = true)
  | .int i, y, h => by
    cases y with
    | int j =>
      simp only [cmpD, PyData.eqv]
      by_cases h1 : i < j
      · simp [h1]; omega
      · by_cases h2 : i = j
        · simp [h2]
        · simp [h1, h2]
    | _ => simp [ordD] at h
  | .str x, y, h => by
    cases y with
    | str y =>
      simp only [cmpD, PyData.eqv]
      by_cases h1 : x.cps.toList < y.cps.toList
      · simp only [h1, if_true]
        constructor
        · intro q; cases q
        · intro q
          have : x = y := by simpa using q
          subst this
          exact absurd h1 (str_lt_irrefl _)
      · by_cases h2 : x = y
        · subst h2; simp [h1]
        · simp [h1, h2]
    | _ => simp [ordD] at h
  | .tuple xs, y, h => by
    cases y with
    | tuple ys =>
      simp only [ordD] at h
      simp only [cmpD, PyData.eqv]
      exact cmpDs_eqv xs ys h
    | _ => simp [ordD] at h
  | .none, _, h => by simp [ordD] at h
  | .bool _, _, h => by simp [ordD] at h
  | .list _, _, h => by simp [ordD] at h
  | .dict _, _, h => by simp [ordD] at h
theorem cmpDs_eqv : ∀ (xs ys : List D), ordDs xs ys = true → (cmpDs xs ys = .eq ↔ PyData.eqvAll xs ys = true)
  | [], [], _ => by simp [cmpDs, PyData.eqvAll]
  | [], _ :: _, _ => by simp [cmpDs, PyData.eqvAll]
  | _ :: _, [], _ => by simp [cmpDs, PyData.eqvAll]
  | x :: xs, y :: ys, h => by
    simp only [ordDs, Bool.and_eq_true] at h
    have h1 := cmpD_eqv x y h.1
    have h2 := cmpDs_eqv xs ys h.2
    simp only [cmpDs, PyData.eqvAll, Bool.and_eq_true]
    cases e : cmpD x y with
    | eq => rw [e] at h1; simp only [true_iff] at h1; simp [h1, h2]
    | lt =>
      rw [e] at h1
      have h1' : ¬ PyData.eqv x y = true := fun q => by have := h1.mpr q; cases this
      constructor
      · intro q; cases q
      · intro q; exact absurd q.1 h1'
    | gt =>
      rw [e] at h1
      have h1' : ¬ PyData.eqv x y = true := fun q => by have := h1.mpr q; cases this
      constructor
      · intro q; cases q
      · intro q; exact absurd q.1 h1'
end
/-- the tuple's loop is the order of lists -/
theorem lexAt_cmp (op : CmpOp) (hop : isOrd op = true) : ∀ (xs ys : List D) (e r : Nat → Bool) (i : Nat), ordDs xs ys = true →
    (∀ j x y, xs[j]? = some x → ys[j]? = some y → e (i + j) = PyData.eqv x y ∧ r (i + j) = cmpR op (cmpD x y)) →
    Ob.lexAt e r (cmpR op (compare xs.length ys.length)) i (min xs.length ys.length) = cmpR op (cmpDs xs ys)
  | [], [], e, r, i, _, _ => by
    simp [Ob.lexAt, cmpDs]
  | [], y :: ys, e, r, i, _, _ => by
    have : compare (0 : Nat) (ys.length + 1) = .lt := Nat.compare_eq_lt.mpr (Nat.succ_pos _)
    simp [Ob.lexAt, cmpDs, this]
  | x :: xs, [], e, r, i, _, _ => by
    have : compare (xs.length + 1) (0 : Nat) = .gt := Nat.compare_eq_gt.mpr (Nat.succ_pos _)
    simp [Ob.lexAt, cmpDs, this]
  | x :: xs, y :: ys, e, r, i, h, q => by
    simp only [ordDs, Bool.and_eq_true] at h
    have h0 := q 0 x y rfl rfl
    have hc := cmpD_eqv x y h.1
    have ih := lexAt_cmp op hop xs ys e r (i + 1) h.2 fun j a b h1 h2 => by
      have := q (j + 1) a b (by simpa using h1) (by simpa using h2)
      rw [show i + 1 + j = i + (j + 1) by omega]; exact this
    have hm : min (x :: xs).length (y :: ys).length = min xs.length ys.length + 1 := by simp only [List.length_cons]; omega
    have hcp : compare (x :: xs).length (y :: ys).length = compare xs.length ys.length := by
      simp only [List.length_cons]
      rcases Nat.lt_trichotomy xs.length ys.length with g | g | g
      · rw [Nat.compare_eq_lt.mpr g, Nat.compare_eq_lt.mpr (by omega)]
      · rw [Nat.compare_eq_eq.mpr g, Nat.compare_eq_eq.mpr (by omega)]
      · rw [Nat.compare_eq_gt.mpr g, Nat.compare_eq_gt.mpr (by omega)]
    rw [hm, hcp, Ob.lexAt_succ]
    simp only [Nat.add_zero] at h0
    rw [h0.1, h0.2, ih]
    cases e1 : cmpD x y with
    | eq => rw [if_pos (hc.mp e1)]; simp [cmpDs, e1]
    | lt => rw [if_neg (fun z => by have := hc.mpr z; rw [e1] at this; cases this)]; simp [cmpDs, e1]
    | gt => rw [if_neg (fun z => by have := hc.mpr z; rw [e1] at this; cases this)]; simp [cmpDs, e1]
theorem readsAll_at : ∀ {h : Heap} {vs : List Value} {ds : List PyData} {as : List Addr} (i : Nat) {d : PyData}, ReadsAll h vs ds as → ds[i]? = some d → ∃ v bs, vs[i]? = some v ∧ Reads h v d bs
  | _, _, _, _, i, _, .nil, e => by simp at e
  | _, _, _, _, 0, _, .cons r _, e => by simp at e; subst e; exact ⟨_, _, rfl, r⟩
  | _, _, _, _, i + 1, _, .cons _ t, e => by simpa using readsAll_at i t (by simpa using e)
theorem rc_int (op : CmpOp) (hop : isOrd op = true) (i j : Int) (A : Around) (s : Shared) (t u : Tok) : Ob.RcOp op A s (.int i t) (.int j u) (cmpR op (cmpD (.int i) (.int j))) := by
  have e : cmpD (.int i) (.int j) = if i < j then .lt else if i = j then .eq else .gt := by simp only [cmpD]
  rw [e]
  cases op with
  | Lt =>
    have e : cmpR .Lt (if i < j then .lt else if i = j then .eq else .gt) = decide (i < j) := by
      by_cases h1 : i < j
      · simp [h1, cmpR]
      · by_cases h2 : i = j <;> simp [h1, h2, cmpR]
    rw [e]; exact Ob.RcOp.lt_int i j t u
  | LtE =>
    have e : cmpR .LtE (if i < j then .lt else if i = j then .eq else .gt) = decide (i ≤ j) := by
      by_cases h1 : i < j
      · have : i ≤ j := by omega
        simp [h1, cmpR, this]
      · by_cases h2 : i = j
        · simp [h2, cmpR]
        · have : ¬ i ≤ j := by omega
          simp [h1, h2, cmpR, this]
    rw [e]; exact Ob.RcOp.le_int i j t u
  | Gt =>
    have e : cmpR .Gt (if i < j then .lt else if i = j then .eq else .gt) = decide (j < i) := by
      by_cases h1 : i < j
      · have : ¬ j < i := by omega
        simp [h1, cmpR, this]
      · by_cases h2 : i = j
        · simp [h2, cmpR]
        · have : j < i := by omega
          simp [h1, h2, cmpR, this]
    rw [e]; exact Ob.RcOp.gt_int i j t u
  | GtE =>
    have e : cmpR .GtE (if i < j then .lt else if i = j then .eq else .gt) = decide (j ≤ i) := by
      by_cases h1 : i < j
      · have : ¬ j ≤ i := by omega
        simp [h1, cmpR, this]
      · by_cases h2 : i = j
        · simp [h2, cmpR]
        · have : j ≤ i := by omega
          simp [h1, h2, cmpR, this]
    rw [e]; exact Ob.RcOp.ge_int i j t u
  | _ => simp [isOrd] at hop
theorem rc_str (op : CmpOp) (hop : isOrd op = true) (x y : Str) (A : Around) (s : Shared) (t u : Tok) : Ob.RcOp op A s (.str x t) (.str y u) (cmpR op (cmpD (.str x) (.str y))) := by
  have e : cmpD (.str x) (.str y) = if x.cps.toList < y.cps.toList then .lt else if x = y then .eq else .gt := by simp only [cmpD]
  rw [e]
  cases op with
  | Lt =>
    have e : cmpR .Lt (if x.cps.toList < y.cps.toList then .lt else if x = y then .eq else .gt) = decide (x.cps.toList < y.cps.toList) := by
      by_cases h1 : x.cps.toList < y.cps.toList
      · simp [h1, cmpR]
      · by_cases h2 : x = y
        · subst h2; simp [h1, cmpR]
        · simp [h1, h2, cmpR]
    rw [e]; exact fun prog w E Q q => PyProof.Rows.lt_str q
  | LtE =>
    have e : cmpR .LtE (if x.cps.toList < y.cps.toList then .lt else if x = y then .eq else .gt) = !decide (y.cps.toList < x.cps.toList) := by
      by_cases h1 : x.cps.toList < y.cps.toList
      · simp [h1, cmpR, str_lt_asymm h1]
      · by_cases h2 : x = y
        · subst h2; simp [h1, cmpR]
        · simp [h1, h2, cmpR, str_total h1 h2]
    rw [e]; exact fun prog w E Q q => PySem.P.le_str q
  | Gt =>
    have e : cmpR .Gt (if x.cps.toList < y.cps.toList then .lt else if x = y then .eq else .gt) = decide (y.cps.toList < x.cps.toList) := by
      by_cases h1 : x.cps.toList < y.cps.toList
      · simp [h1, cmpR, str_lt_asymm h1]
      · by_cases h2 : x = y
        · subst h2; simp [h1, cmpR]
        · simp [h1, h2, cmpR, str_total h1 h2]
    rw [e]; exact fun prog w E Q q => PySem.P.gt_str q
  | GtE =>
    have e : cmpR .GtE (if x.cps.toList < y.cps.toList then .lt else if x = y then .eq else .gt) = !decide (x.cps.toList < y.cps.toList) := by
      by_cases h1 : x.cps.toList < y.cps.toList
      · simp [h1, cmpR]
      · by_cases h2 : x = y
        · subst h2; simp [h1, cmpR]
        · simp [h1, h2, cmpR]
    rw [e]; exact fun prog w E Q q => PySem.P.ge_str q
  | _ => simp [isOrd] at hop
theorem cmp_len (op : CmpOp) (n m : Nat) : (op = .Lt → cmpR op (compare n m) = decide (n < m)) ∧ (op = .LtE → cmpR op (compare n m) = decide (n ≤ m)) ∧ (op = .Gt → cmpR op (compare n m) = decide (n > m)) ∧ (op = .GtE → cmpR op (compare n m) = decide (n ≥ m)) := by
  rcases Nat.lt_trichotomy n m with g | g | g
  · have a1 : n ≤ m := by omega
    have a2 : ¬ n > m := by omega
    have a3 : ¬ n ≥ m := by omega
    rw [Nat.compare_eq_lt.mpr g]
    refine ⟨fun z => ?_, fun z => ?_, fun z => ?_, fun z => ?_⟩ <;> (subst z; simp [cmpR, g, a1, a2, a3])
  · subst g
    rw [Nat.compare_eq_eq.mpr rfl]
    refine ⟨fun z => ?_, fun z => ?_, fun z => ?_, fun z => ?_⟩ <;> (subst z; simp [cmpR])
  · have a1 : ¬ n ≤ m := by omega
    have a2 : ¬ n < m := by omega
    have a3 : n ≥ m := by omega
    rw [Nat.compare_eq_gt.mpr g]
    refine ⟨fun z => ?_, fun z => ?_, fun z => ?_, fun z => ?_⟩ <;> (subst z; simp [cmpR, g, a1, a2, a3])
theorem rc_tup (op : CmpOp) (hop : isOrd op = true) (xs ys : List D) (A : Around) (s : Shared) (a b : Addr) (vs ws : Array Value) (h : ordDs xs ys = true) (hu : A.units < cLine) (h1 : s.heap.IsTuple a vs) (h2 : s.heap.IsTuple b ws)
    (hl1 : vs.size = xs.length) (hl2 : ws.size = ys.length)
    (items : ∀ j (h1 : j < vs.size) (h2 : j < ws.size), SeqAt.EqAt A.in1 s vs[j] ws[j] (PyData.eqv (xs.getD j .none) (ys.getD j .none)) ∧ Ob.RcOp op A.in1 s vs[j] ws[j] (cmpR op (cmpD (xs.getD j .none) (ys.getD j .none)))) :
    Ob.RcOp op A s (.ref a) (.ref b) (cmpR op (cmpDs xs ys)) := by
  obtain ⟨e, he⟩ : ∃ e : Nat → Bool, ∀ j, e j = PyData.eqv (xs.getD j .none) (ys.getD j .none) := ⟨_, fun _ => rfl⟩
  obtain ⟨r, hr⟩ : ∃ r : Nat → Bool, ∀ j, r j = cmpR op (cmpD (xs.getD j .none) (ys.getD j .none)) := ⟨_, fun _ => rfl⟩
  have eqs : ∀ j (h1 : j < vs.size) (h2 : j < ws.size), SeqAt.EqAt A.in1 s vs[j] ws[j] (e j) := fun j h1 h2 => by rw [he]; exact (items j h1 h2).1
  have rcs : ∀ j (h1 : j < vs.size) (h2 : j < ws.size), e j = false → Ob.RcOp op A.in1 s vs[j] ws[j] (r j) := fun j h1 h2 _ => by rw [hr]; exact (items j h1 h2).2
  have fin := lexAt_cmp op hop xs ys e r 0 h fun j x y e1 e2 => by
    rw [Nat.zero_add, he, hr]
    simp only [List.getD_eq_getElem?_getD, e1, e2, Option.getD_some]
    exact ⟨trivial, trivial⟩
  obtain ⟨c1, c2, c3, c4⟩ := cmp_len op xs.length ys.length
  rw [← fin]
  cases op with
  | Lt => rw [c1 rfl, ← hl1, ← hl2]; exact Ob.RcOp.tuples_lt h1 h2 hu eqs rcs
  | LtE => rw [c2 rfl, ← hl1, ← hl2]; exact Ob.RcOp.tuples_le h1 h2 hu eqs rcs
  | Gt => rw [c3 rfl, ← hl1, ← hl2]; exact Ob.RcOp.tuples_gt h1 h2 hu eqs rcs
  | GtE => rw [c4 rfl, ← hl1, ← hl2]; exact Ob.RcOp.tuples_ge h1 h2 hu eqs rcs
  | _ => simp [isOrd] at hop
theorem depth_at : ∀ {ds : List D} {j : Nat} {d : D}, ds[j]? = some d → d.depth ≤ PyData.depthAll ds
  | [], j, _, e => by simp at e
  | x :: xs, 0, _, e => by simp at e; subst e; simp only [PyData.depthAll]; omega
  | x :: xs, j + 1, _, e => by
    have := depth_at (ds := xs) (j := j) (by simpa using e)
    simp only [PyData.depthAll]; omega
theorem lay_at : ∀ {ds : List D} {j : Nat} {d : D}, PyData.canLayAll0 ds = true → ds[j]? = some d → d.canLay0 = true
  | [], j, _, _, e => by simp at e
  | x :: xs, 0, _, h, e => by simp only [PyData.canLayAll0, Bool.and_eq_true] at h; simp at e; subst e; exact h.1
  | x :: xs, j + 1, _, h, e => by simp only [PyData.canLayAll0, Bool.and_eq_true] at h; exact lay_at h.2 (by simpa using e)
theorem ord_at : ∀ {ds es : List D} {j : Nat} {d e : D}, ordDs ds es = true → ds[j]? = some d → es[j]? = some e → ordD d e = true
  | [], _, j, _, _, _, h, _ => by simp at h
  | _ :: _, [], j, _, _, _, _, h => by simp at h
  | x :: xs, y :: ys, 0, _, _, h, h1, h2 => by simp only [ordDs, Bool.and_eq_true] at h; simp at h1 h2; subst h1; subst h2; exact h.1
  | x :: xs, y :: ys, j + 1, _, _, h, h1, h2 => by simp only [ordDs, Bool.and_eq_true] at h; exact ord_at h.2 (by simpa using h1) (by simpa using h2)
theorem rc_reads (op : CmpOp) (hop : isOrd op = true) : ∀ (n : Nat) (x y : D) (A : Around) (s : Shared) (a b : Value) (as bs : List Addr), x.depth ≤ n → ordD x y = true → x.canLay0 = true → y.canLay0 = true → A.units + min x.depth y.depth < cLine →
    Reads s.heap a x as → Reads s.heap b y bs → Ob.RcOp op A s a b (cmpR op (cmpD x y)) := by
  intro n
  induction n with
  | zero =>
    intro x y A s a b as bs hn h cx cy hu ra rb
    cases ra with
    | int i t =>
      cases rb with
      | int j u => exact rc_int op hop i j A s t u
      | _ => simp [ordD] at h
    | str i t =>
      cases rb with
      | str j u => exact rc_str op hop i j A s t u
      | _ => simp [ordD] at h
    | tuple h1 h2 h3 h4 => simp [PyData.depth] at hn
    | _ => simp [ordD] at h
  | succ n ih =>
    intro x y A s a b as bs hn h cx cy hu ra rb
    cases ra with
    | int i t =>
      cases rb with
      | int j u => exact rc_int op hop i j A s t u
      | _ => simp [ordD] at h
    | str i t =>
      cases rb with
      | str j u => exact rc_str op hop i j A s t u
      | _ => simp [ordD] at h
    | @tuple a o vs n1 xs as h1 h2 h3 h4 =>
      cases rb with
      | @tuple b o2 ws n2 ys bs g1 g2 g3 g4 =>
        simp only [ordD] at h
        simp only [PyData.canLay0] at cx cy
        simp only [PyData.depth] at hu hn
        have hl1 : vs.size = xs.length := by have := SeqAt.ReadsAll.length xs vs.toList _ h4; simpa using this
        have hl2 : ws.size = ys.length := by have := SeqAt.ReadsAll.length ys ws.toList _ g4; simpa using this
        simp only [cmpD]
        refine rc_tup op hop xs ys A s a b vs ws h (by omega) ⟨o, h1, h2, n1, h3⟩ ⟨o2, g1, g2, n2, g3⟩ hl1 hl2 fun j j1 j2 => ?_
        have e1 : xs[j]? = some xs[j] := List.getElem?_eq_getElem (by omega)
        have e2 : ys[j]? = some ys[j] := List.getElem?_eq_getElem (by omega)
        obtain ⟨v, vb, ev, rv⟩ := readsAll_at j h4 e1
        obtain ⟨u, ub, eu, ru⟩ := readsAll_at j g4 e2
        have ev' : vs[j] = v := by simpa [j1] using ev
        have eu' : ws[j] = u := by simpa [j2] using eu
        have d1 := depth_at e1
        have d2 := depth_at e2
        have q1 : xs.getD j .none = xs[j] := by simp [List.getD_eq_getElem?_getD, e1]
        have q2 : ys.getD j .none = ys[j] := by simp [List.getD_eq_getElem?_getD, e2]
        rw [ev', eu', q1, q2]
        have room : A.in1.units + min xs[j].depth ys[j].depth < cLine := by show A.units + 1 + _ < cLine; omega
        exact ⟨SeqAt.eqAt_reads _ _ A.in1 s _ _ _ _ rv ru (lay_at cx e1) (lay_at cy e2) room, ih _ _ A.in1 s _ _ _ _ (by omega) (ord_at h e1 e2) (lay_at cx e1) (lay_at cy e2) room rv ru⟩
      | _ => simp [ordD] at h
    | _ => simp [ordD] at h
end Pv
set_option Elab.async false
set_option linter.all false
set_option maxRecDepth 100000
set_option maxHeartbeats 4000000
namespace Pv
open PySem PySem.Spec L2
open PyProof.Rows hiding St
def layOk (x y : D) : Bool := x.canLay0 && y.canLay0 && decide (min x.depth y.depth ≤ 64)
def dEqB : D → D → Option Bool
  | .str a, .str b => some (a == b)
  | x, y => if layOk x y then some (PyData.eqv x y) else none
def dOrd (op : CmpOp) : D → D → Option Bool
  | .str a, .str b => some (cmpR op (cmpD (.str a) (.str b)))
  | x, y => if layOk x y && ordD x y then some (cmpR op (cmpD x y)) else none
def strIn (a b : Str) : Bool := !(Builtin.Str.occurrences b a 0 b.length 1).isEmpty
def dIn (x y : D) : Option Bool :=
  match y with
  | .list ys => if PyData.canLayAll0 ys && x.canLay0 && decide (min (PyData.depthAll ys) x.depth ≤ 64) then some (ys.any fun z => PyData.eqv z x) else none
  | .tuple ys => if PyData.canLayAll0 ys && x.canLay0 && decide (min (PyData.depthAll ys) x.depth ≤ 64) then some (ys.any fun z => PyData.eqv z x) else none
  | .str b => match x with | .str a => some (strIn a b) | _ => none
  | _ => none
def obD (o : Option Bool) : Option D := o.map .bool
def dCmp (op : CmpOp) (x y : D) : Option D :=
  match op with
  | .Eq => obD (dEqB x y)
  | .NotEq => obD ((dEqB x y).map (!·))
  | .Lt | .LtE | .Gt | .GtE => obD (dOrd op x y)
  | .In => obD (dIn x y)
  | .NotIn => obD ((dIn x y).map (!·))
  | _ => none
/-- two values compared, by their data -/
def rCmpG (K : PySem.W.Frag) (op : CmpOp) : R2 := fun x y H Q => ∃ dx dy b, (Dp K H x dx ∨ ∃ a, dx = .str a ∧ x = .str a) ∧ (Dp K H y dy ∨ ∃ a, dy = .str a ∧ y = .str a) ∧ dCmp op dx dy = some (.bool b) ∧ Q (.bl b) H
theorem layOk_inv {x y : D} (h : layOk x y = true) : x.canLay0 = true ∧ y.canLay0 = true ∧ min x.depth y.depth ≤ 64 := by
  unfold layOk at h
  rw [Bool.and_eq_true, Bool.and_eq_true] at h
  exact ⟨h.1.1, h.1.2, of_decide_eq_true h.2⟩
theorem dEqB_inv {x y : D} {b : Bool} (h : dEqB x y = some b) : (∃ a c, x = .str a ∧ y = .str c ∧ b = (a == c)) ∨ (layOk x y = true ∧ b = PyData.eqv x y) := by
  unfold dEqB at h
  split at h
  · exact .inl ⟨_, _, rfl, rfl, (Option.some.inj h).symm⟩
  · split at h
    · rename_i hl; exact .inr ⟨hl, (Option.some.inj h).symm⟩
    · cases h
theorem dOrd_inv {op : CmpOp} {x y : D} {b : Bool} (h : dOrd op x y = some b) : (∃ a c, x = .str a ∧ y = .str c ∧ b = cmpR op (cmpD x y)) ∨ (layOk x y = true ∧ ordD x y = true ∧ b = cmpR op (cmpD x y)) := by
  unfold dOrd at h
  split at h
  · exact .inl ⟨_, _, rfl, rfl, (Option.some.inj h).symm⟩
  · split at h
    · rename_i hl; rw [Bool.and_eq_true] at hl; exact .inr ⟨hl.1, hl.2, (Option.some.inj h).symm⟩
    · cases h
theorem obD_inv {o : Option Bool} {b : Bool} (h : obD o = some (.bool b)) : o = some b := by
  unfold obD at h
  cases o with
  | none => cases h
  | some c => simp at h; rw [h]
theorem obN_inv {o : Option Bool} {b : Bool} (h : obD (o.map (!·)) = some (.bool b)) : o = some (!b) := by
  have := obD_inv h
  cases o with
  | none => cases this
  | some c => simp at this; subst this; simp
section
variable {X : Cx}
theorem dp_reads' {pins : List (Addr × Obj)} {σ : L2.St} {H : Hp} {s : Shared} (I : Inv X pins σ H s) {d : D} {v : V} {u : Value} (h : Dp X.K H v d ∨ ∃ a, d = .str a ∧ v = .str a) (r : RelV v u) : ∃ as, Reads s.heap u d as := by
  rcases h with h | ⟨a, rfl, rfl⟩
  · exact Dp.reads I d v u h r
  · obtain ⟨t, rfl⟩ := r; exact ⟨_, .str a t⟩
theorem dp_str {H : Hp} {v : V} {a : Str} (h : Dp X.K H v (.str a) ∨ ∃ c, (PyData.str a) = .str c ∧ v = .str c) : v = .str a := by
  rcases h with h | ⟨c, e, rfl⟩
  · cases h; rfl
  · cases e; rfl
theorem op_cmpG (op : CmpOp) (hu : X.A.units + 66 < cLine) : OpR X (compareOp op) (rCmpG X.K op) := by
  intro pins s σ H x y v u Q I rx ry h
  obtain ⟨dx, dy, b, hx, hy, e, q⟩ := h
  obtain ⟨as, r1⟩ := dp_reads' I hx rx
  obtain ⟨bs, r2⟩ := dp_reads' I hy ry
  have fin : EP X pins σ Q (.bool b) s := ⟨.bl b, H, I, rfl, q⟩
  have hst : ∀ {a c : Str}, dx = .str a → dy = .str c → x = .str a ∧ y = .str c ∧ (∃ t, v = .str a t) ∧ (∃ t, u = .str c t) := fun {a c} e1 e2 => by
    subst e1; subst e2
    have h1 := dp_str hx
    have h2 := dp_str hy
    subst h1; subst h2
    exact ⟨rfl, rfl, rx, ry⟩
  have ordc : isOrd op = true → dOrd op dx dy = some b → wpAny (model X.prog X.w) X.A (richCompare op v u) (EP X pins σ Q) X.xe s := fun hop e => by
    rcases dOrd_inv e with ⟨a, c, e1, e2, e3⟩ | ⟨hl, ho, e3⟩
    · obtain ⟨h1, h2, ⟨t, h3⟩, ⟨t', h4⟩⟩ := hst e1 e2
      subst h3; subst h4
      refine rc_str op hop a c X.A s t t' X.prog X.w X.xe _ ?_
      rw [e1, e2] at e3
      rw [← e3]; exact fin
    · obtain ⟨c1, c2, c3⟩ := layOk_inv hl
      refine rc_reads op hop _ dx dy X.A s v u as bs (Nat.le_refl _) ho c1 c2 (by omega) r1 r2 X.prog X.w X.xe _ ?_
      rw [← e3]; exact fin
  have inc : ∀ {b'}, dIn dx dy = some b' → (∀ (Q' : Value → Shared → Prop), Q' (.bool b') s → wpAny (model X.prog X.w) X.A (compareOp .In v u) Q' X.xe s) ∧ (∀ (Q' : Value → Shared → Prop), Q' (.bool (!b')) s → wpAny (model X.prog X.w) X.A (compareOp .NotIn v u) Q' X.xe s) := fun {b'} e => by
    unfold dIn at e
    split at e
    · rename_i ys
      split at e
      · rename_i hc
        rw [Bool.and_eq_true, Bool.and_eq_true] at hc
        have h64 := of_decide_eq_true hc.2
        cases e
        exact ⟨fun Q' q => SeqAt.in_list_reads r2 r1 hc.1.1 hc.1.2 (by omega) q, fun Q' q => SeqAt.notIn_list_reads r2 r1 hc.1.1 hc.1.2 (by omega) q⟩
      · cases e
    · rename_i ys
      split at e
      · rename_i hc
        rw [Bool.and_eq_true, Bool.and_eq_true] at hc
        have h64 := of_decide_eq_true hc.2
        cases e
        exact ⟨fun Q' q => SeqAt.in_tuple_reads r2 r1 hc.1.1 hc.1.2 (by omega) q, fun Q' q => SeqAt.notIn_tuple_reads r2 r1 hc.1.1 hc.1.2 (by omega) q⟩
      · cases e
    · rename_i c
      split at e
      · rename_i a
        obtain ⟨h1, h2, ⟨t, h3⟩, ⟨t', h4⟩⟩ := hst rfl rfl
        subst h3; subst h4
        cases e
        exact ⟨fun Q' q => PyProof.Rows.in_str q, fun Q' q => PyProof.Rows.notIn_str q⟩
      · cases e
    · cases e
  cases op with
  | Eq =>
    rcases dEqB_inv (obD_inv e) with ⟨a, c, e1, e2, e3⟩ | ⟨hl, e3⟩
    · obtain ⟨h1, h2, ⟨t, h3⟩, ⟨t', h4⟩⟩ := hst e1 e2
      subst h3; subst h4
      refine PyProof.Rows.eq_str ?_
      rw [← e3]; exact fin
    · obtain ⟨c1, c2, c3⟩ := layOk_inv hl
      refine SeqAt.compareEq_reads r1 r2 c1 c2 (by omega) ?_
      rw [← e3]; exact fin
  | NotEq =>
    rcases dEqB_inv (obN_inv e) with ⟨a, c, e1, e2, e3⟩ | ⟨hl, e3⟩
    · obtain ⟨h1, h2, ⟨t, h3⟩, ⟨t', h4⟩⟩ := hst e1 e2
      subst h3; subst h4
      refine PyProof.Rows.ne_str ?_
      have : (a != c) = b := by rw [bne, ← e3]; simp
      rw [this]; exact fin
    · obtain ⟨c1, c2, c3⟩ := layOk_inv hl
      refine SeqAt.compareNe_reads r1 r2 c1 c2 (by omega) ?_
      rw [← e3, Bool.not_not]; exact fin
  | Lt => exact ordc rfl (obD_inv e)
  | LtE => exact ordc rfl (obD_inv e)
  | Gt => exact ordc rfl (obD_inv e)
  | GtE => exact ordc rfl (obD_inv e)
  | In => exact (inc (obD_inv e)).1 _ fin
  | NotIn => exact (inc (obN_inv e)).2 _ (by rw [Bool.not_not]; exact fin)
  | Is => simp [dCmp] at e
  | IsNot => simp [dCmp] at e
end
end Pv
set_option Elab.async false
set_option linter.all false
set_option maxRecDepth 100000
set_option maxHeartbeats 4000000
namespace Pv
open PySem PySem.Spec L2
open PyProof.Rows hiding St
/-- what the rules ask of the place where one stands -/
structure Gd0 (X : Cx) : Prop where
  nd : X.N.Nodup
  un : X.A.units + 200 < cLine
  gu : X.A.guards = some []
structure Gd (X : Cx) : Prop where
  calm : X.calm = true
  nd : X.N.Nodup
  un : X.A.units + 200 < cLine
  gu : X.A.guards = some []
theorem Gd.z {X : Cx} (g : Gd X) : Gd0 X := ⟨g.nd, g.un, g.gu⟩
instance {X : Cx} : Coe (Gd X) (Gd0 X) := ⟨Gd.z⟩
section
variable {X : Cx} {Wx : WX} {ea eb ec e : Expr} {ma mb mc : M} {pos : Pos}
theorem dCmp_bool {op : CmpOp} {x y d : D} (h : dCmp op x y = some d) : ∃ b, d = .bool b := by
  have mp : ∀ {o : Option Bool}, obD o = some d → ∃ b, d = .bool b := fun {o} h => by
    cases o with
    | none => cases h
    | some b => cases h; exact ⟨b, rfl⟩
  cases op with
  | Is => cases h
  | IsNot => cases h
  | Eq => exact mp h
  | NotEq => exact mp h
  | Lt => exact mp h
  | LtE => exact mp h
  | Gt => exact mp h
  | GtE => exact mp h
  | In => exact mp h
  | NotIn => exact mp h
/-- what is compared is plain -/
theorem dCmp_lay {op : CmpOp} {x y d : D} (h : dCmp op x y = some d) : (x.canLay0 = true ∨ ∃ a, x = .str a) ∧ (y.canLay0 = true ∨ ∃ a, y = .str a) := by
  have eqc : ∀ {o}, dEqB x y = some o → (x.canLay0 = true ∨ ∃ a, x = .str a) ∧ (y.canLay0 = true ∨ ∃ a, y = .str a) := fun h => by
    rcases dEqB_inv h with ⟨a, c, e1, e2, _⟩ | ⟨hl, _⟩
    · exact ⟨.inr ⟨a, e1⟩, .inr ⟨c, e2⟩⟩
    · exact ⟨.inl (layOk_inv hl).1, .inl (layOk_inv hl).2.1⟩
  have orc : ∀ {op o}, dOrd op x y = some o → (x.canLay0 = true ∨ ∃ a, x = .str a) ∧ (y.canLay0 = true ∨ ∃ a, y = .str a) := fun h => by
    rcases dOrd_inv h with ⟨a, c, e1, e2, _⟩ | ⟨hl, _, _⟩
    · exact ⟨.inr ⟨a, e1⟩, .inr ⟨c, e2⟩⟩
    · exact ⟨.inl (layOk_inv hl).1, .inl (layOk_inv hl).2.1⟩
  have inc : ∀ {o}, dIn x y = some o → (x.canLay0 = true ∨ ∃ a, x = .str a) ∧ (y.canLay0 = true ∨ ∃ a, y = .str a) := fun h => by
    unfold dIn at h
    split at h
    · split at h
      · rename_i hc; rw [Bool.and_eq_true, Bool.and_eq_true] at hc; exact ⟨.inl hc.1.2, .inl (by simpa [PyData.canLay0] using hc.1.1)⟩
      · cases h
    · split at h
      · rename_i hc; rw [Bool.and_eq_true, Bool.and_eq_true] at hc; exact ⟨.inl hc.1.2, .inl (by simpa [PyData.canLay0] using hc.1.1)⟩
      · cases h
    · split at h
      · exact ⟨.inr ⟨_, rfl⟩, .inr ⟨_, rfl⟩⟩
      · cases h
    · cases h
  have mp : ∀ {o : Option Bool} {d}, obD o = some d → ∃ b, o = some b := fun {o d} h => by cases o with | none => cases h | some b => exact ⟨b, rfl⟩
  have mp2 : ∀ {o : Option Bool} {d}, obD (o.map (!·)) = some d → ∃ b, o = some b := fun {o d} h => by cases o with | none => cases h | some b => exact ⟨b, rfl⟩
  cases op with
  | Eq => obtain ⟨b, h⟩ := mp h; exact eqc h
  | NotEq => obtain ⟨b, h⟩ := mp2 h; exact eqc h
  | Lt => obtain ⟨b, h⟩ := mp h; exact orc h
  | LtE => obtain ⟨b, h⟩ := mp h; exact orc h
  | Gt => obtain ⟨b, h⟩ := mp h; exact orc h
  | GtE => obtain ⟨b, h⟩ := mp h; exact orc h
  | In => obtain ⟨b, h⟩ := mp h; exact inc h
  | NotIn => obtain ⟨b, h⟩ := mp2 h; exact inc h
  | Is => cases h
  | IsNot => cases h
theorem ok_cmp {N : Nv} (op : CmpOp) : Ok2 N (rCmpG N.K op) (onD2 (dCmp op)) := by
  intro W H st x y dx dy Q hr rx ry p
  obtain ⟨d, e, p⟩ := onD2_post p
  obtain ⟨b, rfl⟩ := dCmp_bool e
  obtain ⟨l1, l2⟩ := dCmp_lay e
  refine ⟨deref st dx, deref st dy, b, ?_, ?_, e, p.val hr rfl⟩
  · rcases l1 with l | ⟨a, l⟩
    · exact .inl (rep_dpR hr rx rfl l)
    · exact .inr ⟨a, l, rep_dstr hr rx l⟩
  · rcases l2 with l | ⟨a, l⟩
    · exact .inl (rep_dpR hr ry rfl l)
    · exact .inr ⟨a, l, rep_dstr hr ry l⟩
def mCmp (op : CmpOp) : M → M → M := mOp2 (onD2 (dCmp op))
theorem ge_cmp {op : CmpOp} (g : Gd0 X) (ha : GE X Wx ea ma) (hb : GE X Wx eb mb) (hm : behindInMarks op eb = false := by first | exact nomark _ | rfl) : GE X Wx (.Compare ea [op] [eb] pos) (mCmp op ma mb) :=
  ge_op2 onD2_nx (ok_cmp op) (pe_cmpR (op_cmpG op (by have := g.un; omega)) ha hb hm)
def isNone : D → Bool
  | .none => true
  | _ => false
def dIsN : D → Option D := fun x => some (.bool (isNone x))
def dNotN : D → Option D := fun x => some (.bool (!isNone x))
theorem isN_rep {K : PySem.W.Frag} {W : Wd} {v : V} {d : D} (h : rep K W v d) : decide (v = V.non) = isNone d := by
  cases d with
  | none => cases h; rfl
  | bool b => cases h; rfl
  | int i => cases h; rfl
  | str x => cases h; rfl
  | list ds => obtain ⟨a, xs, e, _⟩ := h; subst e; rfl
  | tuple ds => obtain ⟨a, xs, e, _⟩ := h; subst e; rfl
  | dict ds => rcases rep_dict h with ⟨_, a, _, e, _⟩ | ⟨_, a, xs, _, e, _⟩ | ⟨_, a, xs, _, e, _⟩ | ⟨ae, ade, ce, nse, fse, he⟩ <;> first | (subst e; rfl) | (subst he; obtain ⟨e, _⟩ := h; subst e; rfl)
def f1 (g : D → Option D) : F1 := fun x st => lift (g x) st
def mIsN : M → M := mOp1 (f1 dIsN)
def mNotN : M → M := mOp1 (f1 dNotN)
theorem f1_nx {g : D → Option D} (x : D) (st : Sto) (ex : XV) (s2 : Sto) : f1 g x st ≠ .exc ex s2 := by
  unfold f1 lift; split <;> simp
theorem f1_post {N : Nv} {W : Wd} {H : Hp} {Q : VK} {E : XK} {g : D → Option D} {x : D} {st : Sto} (p : Post N W H Q E (f1 g x st)) : ∃ d, g x = some d ∧ Post N W H Q E (.ok d st) := by
  unfold f1 lift at p
  split at p
  · rename_i d e; exact ⟨d, e, p⟩
  · exact p.elim
theorem ge_isN {j p2} (ha : GE X Wx ea ma) : GE X Wx (.Compare ea [.Is] [.Constant .none j p2] pos) (mIsN ma) := by
  refine ge_op1 (r := fun x H Q => Q (.bl (decide (x = .non))) H) f1_nx ?_ (pe_cmp (pc_isN ha))
  intro W H st x dx Q hr rx p
  obtain ⟨d, e, p⟩ := f1_post p
  cases e
  exact p.val hr (by rw [isN_rep rx]; rfl)
/-- a op b op' c -/
def mChain (op op' : CmpOp) (a b c : M) : M := fun sl st => (a sl st).bind fun x st => (b sl st).bind fun y st => match onD2 (dCmp op) x y st with
  | .ok (.bool true) st => (c sl st).bind fun z st => onD2 (dCmp op') y z st
  | .ok (.bool false) st => .ok (.bool false) st
  | _ => .bad
theorem chain_read {op op' : CmpOp} {W : Wd} {H : Hp} {st : Sto} {sl : Sl} {sh : L2.St} {Q : VK} (hr : HR X.K W H st) (hs : SR X.K W sh sl) (p : Post (nv X) W H Q (fun cls dd H' => Wx cls dd sh H') (mChain op op' ma mb mc sl st)) :
    tChain (rCmpG X.K op) (rCmpG X.K op') (rd (nv X) Wx ma) (rd (nv X) Wx mb) (rd (nv X) Wx mc) sh H Q := by
  refine rd_bind hr hs p fun d1 st1 W1 v1 H1 e1 x1 h1 s1 r1 p1 => ?_
  refine rd_bind h1 s1 p1 fun d2 st2 W2 v2 H2 e2 x2 h2 s2 r2 p2 => ?_
  cases e3 : onD2 (dCmp op) d1 d2 st2 with
  | bad => rw [e3] at p2; exact p2.elim
  | exc a b => exact absurd e3 (onD2_nx _ _ _ _ _)
  | ok d st3 =>
    have hst : st3 = st2 := by
      unfold onD2 lift at e3
      split at e3
      · cases e3; rfl
      · cases e3
    subst hst
    rw [e3] at p2
    refine ok_cmp (N := nv X) op W2 H2 st3 v1 v2 d1 d2 _ h2 (x2.rep r1) r2 ?_
    rw [e3]
    intro W3 v3 H3 x3 h3 r3
    cases d with
    | bool k =>
      cases r3
      refine ⟨k, rfl, ?_⟩
      cases k with
      | false => simp only [Bool.false_eq_true, if_false]; exact (Post.ext x3 p2).val h3 rfl
      | true =>
        simp only [if_true]
        refine rd_bind h3 (s2.ext x3) (Post.ext x3 p2) fun d4 st4 W4 v4 H4 e4 x4 h4 s4 r4 p4 => ?_
        refine ok_cmp (N := nv X) op' W4 H4 st4 v2 v4 d2 d4 Q h4 (x4.rep (x3.rep r2)) r4 ?_
        cases q : onD2 (dCmp op') d2 d4 st4 with
        | ok d st3 => rw [q] at p4; exact p4
        | bad => rw [q] at p4; exact p4
        | exc ex s3 => exact absurd q (onD2_nx _ _ _ _ _)
    | _ => exact p2.elim
theorem ge_chain {op op' : CmpOp} (g : Gd0 X) (ha : GE X Wx ea ma) (hb : GE X Wx eb mb) (hc : GE X Wx ec mc) (hm : lastMarks [op, op'] [eb, ec] = false := by with_unfolding_all rfl) :
    GE X Wx (.Compare ea [op, op'] [eb, ec] pos) (mChain op op' ma mb mc) :=
  (pe_chain (op_cmpG op (by have := g.un; omega)) (op_cmpG op' (by have := g.un; omega)) ha hb hc hm).imp fun sh H Q ⟨W, sl, st, hr, hs, p⟩ => chain_read hr hs p
end
abbrev MT := Sl → Sto → R Bool
def PostT (N : Nv) (W : Wd) (H : Hp) (Q : Bool → Hp → Prop) (E : XK) : R Bool → Prop
  | .ok b st => ∀ W' H', Ext W H W' H' → HR N.K W' H' st → Q b H'
  | .exc x st => ∀ W' cls dd H', Ext W H W' H' → HR N.K W' H' st → repX N W' H' cls dd x → E cls dd H'
  | .bad => False
def rdT (N : Nv) (Wx : WX) (m : MT) : TT := fun sh H Q => ∃ W sl st, HR N.K W H st ∧ SR N.K W sh sl ∧ PostT N W H Q (fun cls dd H' => Wx cls dd sh H') (m sl st)
def GT (X : Cx) (Wx : WX) (e : Expr) (m : MT) : Prop := PT X e (rdT (nv X) Wx m)
def GW (X : Cx) (Wx : WX) (e : Expr) (m : MT) : Prop := PW X e (rdT (nv X) Wx m)
theorem _root_.L2.PW.imp {X : Cx} {e : Expr} {t t' : TT} (h : PW X e t) (i : ∀ σ H Q, t' σ H Q → t σ H Q) : PW X e t' := ⟨fun w pins s σ H Q I q => h.run w pins s σ H Q I (i σ H Q q)⟩
section
variable {X : Cx} {Wx : WX} {N : Nv} {W W' : Wd} {H H' : Hp} {st : Sto} {sl : Sl} {sh : L2.St}
theorem PostT.ext {Q : Bool → Hp → Prop} {E : XK} {r : R Bool} (e : Ext W H W' H') (h : PostT N W H Q E r) : PostT N W' H' Q E r := by
  cases r with
  | ok d st => exact fun W2 H2 e2 hr => h W2 H2 (e.trans e2) hr
  | exc x st => exact fun W2 c dd H2 e2 hr rp => h W2 c dd H2 (e.trans e2) hr rp
  | bad => exact h
theorem PostT.now {Q : Bool → Hp → Prop} {E : XK} {b : Bool} (hr : HR N.K W H st) (p : PostT N W H Q E (.ok b st)) : Q b H := p W H .refl hr
theorem rdT_bind {m : MT} {f : Bool → Sto → R Bool} {Q Q2 : Bool → Hp → Prop} (hr : HR N.K W H st) (hs : SR N.K W sh sl)
    (h : PostT N W H Q (fun cls dd H' => Wx cls dd sh H') ((m sl st).bind f))
    (k : ∀ b st1 W1 H1, m sl st = .ok b st1 → Ext W H W1 H1 → HR N.K W1 H1 st1 → SR N.K W1 sh sl → PostT N W1 H1 Q (fun cls dd H' => Wx cls dd sh H') (f b st1) → Q2 b H1) : rdT N Wx m sh H Q2 := by
  refine ⟨W, sl, st, hr, hs, ?_⟩
  cases e : m sl st with
  | ok d st1 => rw [e] at h; exact fun W1 H1 e1 h1 => k d st1 W1 H1 e e1 h1 (hs.ext e1) (PostT.ext e1 h)
  | exc x st1 => rw [e] at h; exact h
  | bad => rw [e] at h; exact h
/-- a value is reckoned first, then a test goes on -/
theorem rd_bindT {m : M} {f : D → Sto → R Bool} {Q : Bool → Hp → Prop} {Q2 : VK} (hr : HR N.K W H st) (hs : SR N.K W sh sl)
    (h : PostT N W H Q (fun cls dd H' => Wx cls dd sh H') ((m sl st).bind f))
    (k : ∀ d st1 W1 v H1, m sl st = .ok d st1 → Ext W H W1 H1 → HR N.K W1 H1 st1 → SR N.K W1 sh sl → rep N.K W1 v d → PostT N W1 H1 Q (fun cls dd H' => Wx cls dd sh H') (f d st1) → Q2 v H1) : rd N Wx m sh H Q2 := by
  refine ⟨W, sl, st, hr, hs, ?_⟩
  cases e : m sl st with
  | ok d st1 => rw [e] at h; exact fun W1 v H1 e1 h1 r1 => k d st1 W1 v H1 e e1 h1 (hs.ext e1) r1 (PostT.ext e1 h)
  | exc x st1 => rw [e] at h; exact h
  | bad => rw [e] at h; exact h
/-- a test first, then a value -/
theorem rdT_bindD {m : MT} {f : Bool → Sto → R D} {Q : VK} {Q2 : Bool → Hp → Prop} (hr : HR N.K W H st) (hs : SR N.K W sh sl)
    (h : Post N W H Q (fun cls dd H' => Wx cls dd sh H') ((m sl st).bind f))
    (k : ∀ b st1 W1 H1, m sl st = .ok b st1 → Ext W H W1 H1 → HR N.K W1 H1 st1 → SR N.K W1 sh sl → Post N W1 H1 Q (fun cls dd H' => Wx cls dd sh H') (f b st1) → Q2 b H1) : rdT N Wx m sh H Q2 := by
  refine ⟨W, sl, st, hr, hs, ?_⟩
  cases e : m sl st with
  | ok d st1 => rw [e] at h; exact fun W1 H1 e1 h1 => k d st1 W1 H1 e e1 h1 (hs.ext e1) (Post.ext e1 h)
  | exc x st1 => rw [e] at h; exact h
  | bad => rw [e] at h; exact h
end
/-- the truth of a value -/
def truD (st : Sto) (d : D) : Option Bool :=
  match deref st d with
  | .none => some false
  | .bool b => some b
  | .int i => some (i != 0)
  | .str y => if y.length ≤ sizeLine then some ((y.length : Int) != 0) else none
  | .list ds => some (!ds.isEmpty)
  | .tuple ds => some (!ds.isEmpty)
  | .dict [(.int r, .none)] => (match st[r.toNat]? with | some (.dct kvs) => some (!kvs.isEmpty) | _ => none)
  | _ => none
section
variable {X : Cx} {Wx : WX} {ea eb ec e : Expr} {ma mb mc : M} {ta tb tc : MT} {pos : Pos} {K : PySem.W.Frag} {W : Wd} {H : Hp} {st : Sto} {v : V} {d : D}
theorem isEmpty_repL {vs : List V} {ds : List D} (h : repL K W vs ds) : (!ds.isEmpty) = !vs.isEmpty := by
  cases ds with
  | nil => cases h; rfl
  | cons d ds => obtain ⟨v, us, e, _, _⟩ := h; subst e; rfl
theorem isEmpty_repP {κ : Type} {ks : List (κ × V)} {kvs : List (κ × D)} (h : repP K W ks kvs) : (!kvs.isEmpty) = !ks.isEmpty := by
  cases h <;> rfl
theorem tru_rep {k : Bool} (hr : HR K W H st) (h : rep K W v d) (e : truD st d = some k) : TruV K v H k := by
  unfold truD at e
  cases q : deref st d with
  | none => rw [q] at e; cases e; rw [rep_dnone hr h q]; rfl
  | bool b => rw [q] at e; cases e; rw [rep_dbool hr h q]; rfl
  | int i => rw [q] at e; cases e; rw [rep_dint hr h q]; rfl
  | str y =>
    rw [q] at e
    simp only at e
    split at e
    · rename_i hl; cases e; rw [rep_dstr hr h q]; exact ⟨hl, rfl⟩
    · cases e
  | list ds => rw [q] at e; cases e; obtain ⟨a, xs, e1, e2, l⟩ := rep_dlist hr h q; subst e1; exact .inl ⟨xs, .inl (.inl e2), isEmpty_repL l⟩
  | tuple ds => rw [q] at e; cases e; obtain ⟨a, xs, e1, e2, l⟩ := rep_dtuple hr h q; subst e1; exact .inr (.inl ⟨xs, e2, isEmpty_repL l⟩)
  | dict kvs =>
    cases d with
    | dict kvs' =>
      rcases rep_dict h with ⟨r, a, e1, e2, e3⟩ | ⟨ds', a, xs, e1, _, _⟩ | ⟨ds', a, xs, e1, _, _⟩ | ⟨ae, ade, ce, nse, fse, he⟩
      rotate_left
      · subst e1; simp at q
      · subst e1; rw [deref_gs] at e; cases e
      · subst he; cases q; cases e
      subst e1
      obtain ⟨m, hm, _, ho⟩ := hr.at e3
      rw [deref_ref, hm] at q
      cases m with
      | lst ds => simp at q
      | ro ds => simp at q; subst q; rw [deref_ref, hm] at e; simp [hm] at e
      | dct ds =>
        rw [deref_ref, hm] at e
        have e' : (!ds.isEmpty) = k := by simpa [hm] using e
        subst e'
        obtain ⟨ks, f1, f2⟩ := ho
        subst e2
        exact .inr (.inr ⟨ks, f1, isEmpty_repP f2⟩)
      | dctT ds => simp at q; subst q; rw [deref_ref, hm] at e; simp [hm] at e
      | tb _ _ => simp at q; subst q; rw [deref_ref, hm] at e; simp [hm] at e
    | none => simp at q
    | bool _ => simp at q
    | int _ => simp at q
    | str _ => simp at q
    | list _ => simp at q
    | tuple _ => simp at q
def mTru (m : M) : MT := fun sl st => (m sl st).bind fun d st => lift (truD st d) st
def mTb (m : M) : MT := fun sl st => (m sl st).bind fun d st => match d with | .bool b => .ok b st | _ => .bad
/-- any value, by its truth -/
theorem gt_val (ha : GE X Wx ea ma) (he : ∀ whole, isTrue ea X.env whole = (do let v ← whole; standAt ea.pos; holding [v] (truthy v)) := by intro _; rfl) : GT X Wx ea (mTru ma) := by
  refine (pt_truth ha he).imp fun sh H Q ⟨W, sl, st, hr, hs, p⟩ => ?_
  refine rd_bindT hr hs p fun d1 st1 W1 v1 H1 e1 x1 h1 s1 r1 p1 => ?_
  cases e : truD st1 d1 with
  | none => rw [e] at p1; exact p1.elim
  | some k => rw [e] at p1; exact ⟨k, tru_rep h1 r1 e, PostT.now h1 p1⟩
theorem gt_cmp {op : CmpOp} (g : Gd0 X) (ha : GE X Wx ea ma) (hb : GE X Wx eb mb) (hm : behindInMarks op eb = false := by first | exact nomark _ | rfl) : GT X Wx (.Compare ea [op] [eb] pos) (mTb (mCmp op ma mb)) := by
  refine (pt_cmpR (op_cmpG op (by have := g.un; omega)) ha hb hm).imp fun sh H Q ⟨W, sl, st, hr, hs, p⟩ => ?_
  have p' : PostT (nv X) W H Q (fun cls dd H' => Wx cls dd sh H') ((ma sl st).bind fun x st => (mb sl st).bind fun y st => (onD2 (dCmp op) x y st).bind fun d st => match d with | .bool b => .ok b st | _ => .bad) := by
    have e : (mTb (mCmp op ma mb)) sl st = ((ma sl st).bind fun x st => (mb sl st).bind fun y st => (onD2 (dCmp op) x y st).bind fun d st => match d with | .bool b => .ok b st | _ => .bad) := by
      unfold mTb mCmp mOp2
      cases ma sl st with
      | ok a b =>
        show ((mb sl b).bind _).bind _ = (mb sl b).bind _
        cases mb sl b <;> rfl
      | exc _ _ => rfl
      | bad => rfl
    rw [← e]; exact p
  refine rd_bindT hr hs p' fun d1 st1 W1 v1 H1 e1 x1 h1 s1 r1 p1 => ?_
  refine rd_bindT h1 s1 p1 fun d2 st2 W2 v2 H2 e2 x2 h2 s2 r2 p2 => ?_
  refine ok_cmp (N := nv X) op W2 H2 st2 v1 v2 d1 d2 _ h2 (x2.rep r1) r2 ?_
  cases q : onD2 (dCmp op) d1 d2 st2 with
  | bad => rw [q] at p2; exact p2.elim
  | exc _ _ => exact absurd q (onD2_nx _ _ _ _ _)
  | ok d st3 =>
    rw [q] at p2
    intro W3 v3 H3 x3 h3 r3
    cases d with
    | bool b => cases r3; exact ⟨b, rfl, PostT.now h3 (PostT.ext x3 p2)⟩
    | _ => exact p2.elim
theorem gt_isN {j p2} (ha : GE X Wx ea ma) : GT X Wx (.Compare ea [.Is] [.Constant .none j p2] pos) (mTb (mIsN ma)) := by
  refine (pt_cmp (pc_isN ha)).imp fun sh H Q ⟨W, sl, st, hr, hs, p⟩ => ?_
  have e : (mTb (mIsN ma)) sl st = ((ma sl st).bind fun x st => .ok (isNone x) st) := by
    unfold mTb mIsN mOp1
    cases ma sl st <;> rfl
  rw [e] at p
  refine rd_bindT hr hs p fun d1 st1 W1 v1 H1 e1 x1 h1 s1 r1 p1 => ⟨_, rfl, ?_⟩
  rw [isN_rep r1]; exact PostT.now h1 p1
theorem chainT_read {op op' : CmpOp} {W : Wd} {H : Hp} {st : Sto} {sl : Sl} {sh : L2.St} {Q : Bool → Hp → Prop} (hr : HR X.K W H st) (hs : SR X.K W sh sl) (p : PostT (nv X) W H Q (fun cls dd H' => Wx cls dd sh H') (mTb (mChain op op' ma mb mc) sl st)) :
    tTest (tChain (rCmpG X.K op) (rCmpG X.K op') (rd (nv X) Wx ma) (rd (nv X) Wx mb) (rd (nv X) Wx mc)) sh H Q := by
  refine chain_read (op := op) (op' := op') (ma := ma) (mb := mb) (mc := mc) hr hs ?_
  unfold mTb at p
  cases q : mChain op op' ma mb mc sl st with
  | bad => rw [q] at p; exact p
  | exc x st => rw [q] at p; exact p
  | ok d st1 =>
    rw [q] at p
    cases d with
    | bool b => intro W1 v H1 x1 h1 r1; cases r1; exact ⟨b, rfl, p W1 H1 x1 h1⟩
    | _ => exact p.elim
theorem gt_chain {op op' : CmpOp} (g : Gd0 X) (ha : GE X Wx ea ma) (hb : GE X Wx eb mb) (hc : GE X Wx ec mc) (hm : lastMarks [op, op'] [eb, ec] = false := by with_unfolding_all rfl) :
    GT X Wx (.Compare ea [op, op'] [eb, ec] pos) (mTb (mChain op op' ma mb mc)) :=
  (pt_chain (op_cmpG op (by have := g.un; omega)) (op_cmpG op' (by have := g.un; omega)) ha hb hc hm).imp fun sh H Q ⟨W, sl, st, hr, hs, p⟩ => chainT_read hr hs p
def mNotT (t : MT) : MT := fun sl st => (t sl st).bind fun b st => .ok (!b) st
theorem gt_not (ha : GT X Wx ea ta) : GT X Wx (.UnaryOp .Not ea pos) (mNotT ta) := by
  refine (pt_not ha).imp fun sh H Q ⟨W, sl, st, hr, hs, p⟩ => ?_
  exact rdT_bind hr hs p fun b st1 W1 H1 e1 x1 h1 s1 p1 => PostT.now h1 p1
def mAndT (t u : MT) : MT := fun sl st => (t sl st).bind fun b st => if b = true then u sl st else .ok false st
def mOrT (t u : MT) : MT := fun sl st => (t sl st).bind fun b st => if b = true then .ok true st else u sl st
theorem gw_and {rest : List Expr} (ha : GT X Wx ea ta) (hb : GW X Wx (.BoolOp .And (eb :: rest) pos) tb) : GW X Wx (.BoolOp .And (ea :: eb :: rest) pos) (mAndT ta tb) := by
  refine (pw_and ha hb).imp fun sh H Q ⟨W, sl, st, hr, hs, p⟩ => ?_
  refine rdT_bind hr hs p fun b st1 W1 H1 e1 x1 h1 s1 p1 => ?_
  cases b with
  | true => rw [if_pos rfl] at p1 ⊢; exact ⟨W1, sl, st1, h1, s1, p1⟩
  | false => rw [if_neg Bool.false_ne_true] at p1 ⊢; exact PostT.now h1 p1
theorem gw_or {rest : List Expr} (ha : GT X Wx ea ta) (hb : GW X Wx (.BoolOp .Or (eb :: rest) pos) tb) : GW X Wx (.BoolOp .Or (ea :: eb :: rest) pos) (mOrT ta tb) := by
  refine (pw_or ha hb).imp fun sh H Q ⟨W, sl, st, hr, hs, p⟩ => ?_
  refine rdT_bind hr hs p fun b st1 W1 H1 e1 x1 h1 s1 p1 => ?_
  cases b with
  | true => rw [if_pos rfl] at p1 ⊢; exact PostT.now h1 p1
  | false => rw [if_neg Bool.false_ne_true] at p1 ⊢; exact ⟨W1, sl, st1, h1, s1, p1⟩
theorem gw_and1 (ha : GT X Wx ea ta) : GW X Wx (.BoolOp .And [ea] pos) ta := pw_and1 ha
theorem gw_or1 (ha : GT X Wx ea ta) : GW X Wx (.BoolOp .Or [ea] pos) ta := pw_or1 ha
theorem gt_bool (h : GW X Wx e ta) : GT X Wx e ta := PW.pt h
def mAnd (a b : M) : M := fun sl st => (a sl st).bind fun x st => match truD st x with | some true => b sl st | some false => .ok x st | none => .bad
def mOr (a b : M) : M := fun sl st => (a sl st).bind fun x st => match truD st x with | some true => .ok x st | some false => b sl st | none => .bad
theorem ge_and {rest : List Expr} (ha : GE X Wx ea ma) (hb : GE X Wx (.BoolOp .And (eb :: rest) pos) mb) : GE X Wx (.BoolOp .And (ea :: eb :: rest) pos) (mAnd ma mb) := by
  refine (pe_andT ha hb).imp fun sh H Q ⟨W, sl, st, hr, hs, p⟩ => ?_
  refine rd_bind hr hs p fun d1 st1 W1 v1 H1 e1 x1 h1 s1 r1 p1 => ?_
  cases e : truD st1 d1 with
  | none => rw [e] at p1; exact p1.elim
  | some k =>
    rw [e] at p1
    refine ⟨k, tru_rep h1 r1 e, ?_⟩
    cases k with
    | true => rw [if_pos rfl]; exact ⟨W1, sl, st1, h1, s1, p1⟩
    | false => rw [if_neg Bool.false_ne_true]; exact p1.val h1 r1
theorem ge_or {rest : List Expr} (ha : GE X Wx ea ma) (hb : GE X Wx (.BoolOp .Or (eb :: rest) pos) mb) : GE X Wx (.BoolOp .Or (ea :: eb :: rest) pos) (mOr ma mb) := by
  refine (pe_orT ha hb).imp fun sh H Q ⟨W, sl, st, hr, hs, p⟩ => ?_
  refine rd_bind hr hs p fun d1 st1 W1 v1 H1 e1 x1 h1 s1 r1 p1 => ?_
  cases e : truD st1 d1 with
  | none => rw [e] at p1; exact p1.elim
  | some k =>
    rw [e] at p1
    refine ⟨k, tru_rep h1 r1 e, ?_⟩
    cases k with
    | true => rw [if_pos rfl]; exact p1.val h1 r1
    | false => rw [if_neg Bool.false_ne_true]; exact ⟨W1, sl, st1, h1, s1, p1⟩
theorem ge_one {op} (ha : GE X Wx ea ma) : GE X Wx (.BoolOp op [ea] pos) ma := pe_one ha
def mNot (a : M) : M := fun sl st => (a sl st).bind fun x st => match truD st x with | some k => .ok (.bool (!k)) st | none => .bad
theorem ge_not (ha : GE X Wx ea ma) : GE X Wx (.UnaryOp .Not ea pos) (mNot ma) := by
  refine (pe_notT ha).imp fun sh H Q ⟨W, sl, st, hr, hs, p⟩ => ?_
  refine rd_bind hr hs p fun d1 st1 W1 v1 H1 e1 x1 h1 s1 r1 p1 => ?_
  cases e : truD st1 d1 with
  | none => rw [e] at p1; exact p1.elim
  | some k => rw [e] at p1; exact ⟨k, tru_rep h1 r1 e, p1.val h1 rfl⟩
def mIf (t : MT) (a b : M) : M := fun sl st => (t sl st).bind fun k st => if k = true then a sl st else b sl st
theorem ge_if (hc : GT X Wx ec tc) (ha : GE X Wx ea ma) (hb : GE X Wx eb mb) : GE X Wx (.IfExp ec ea eb pos) (mIf tc ma mb) := by
  refine (pe_ifExp hc ha hb).imp fun sh H Q ⟨W, sl, st, hr, hs, p⟩ => ?_
  refine rdT_bindD hr hs p fun b st1 W1 H1 e1 x1 h1 s1 p1 => ?_
  cases b with
  | true => rw [if_pos rfl] at p1 ⊢; exact ⟨W1, sl, st1, h1, s1, p1⟩
  | false => rw [if_neg Bool.false_ne_true] at p1 ⊢; exact ⟨W1, sl, st1, h1, s1, p1⟩
end
end Pv
set_option Elab.async false
set_option linter.all false
set_option maxRecDepth 100000
set_option maxHeartbeats 4000000
namespace Pv
open PySem PySem.Spec L2
open PyProof.Rows hiding St
abbrev Ms := Sl → Sto → R (List D)
def msNil : Ms := fun _ st => .ok [] st
def msCons (a : M) (r : Ms) : Ms := fun sl st => (a sl st).bind fun x st => (r sl st).bind fun xs st => .ok (x :: xs) st
def PostL (N : Nv) (W : Wd) (H : Hp) (Q : List V → Hp → Prop) (E : XK) : R (List D) → Prop
  | .ok ds st => ∀ W' vs H', Ext W H W' H' → HR N.K W' H' st → repL N.K W' vs ds → Q vs H'
  | .exc x st => ∀ W' cls dd H', Ext W H W' H' → HR N.K W' H' st → repX N W' H' cls dd x → E cls dd H'
  | .bad => False
def rdL (N : Nv) (Wx : WX) (m : Ms) : TA := fun sh H Q => ∃ W sl st, HR N.K W H st ∧ SR N.K W sh sl ∧ PostL N W H Q (fun cls dd H' => Wx cls dd sh H') (m sl st)
def GA (X : Cx) (Wx : WX) (es : List Expr) (ms : Ms) : Prop := PA X es (rdL (nv X) Wx ms)
section
variable {X : Cx} {Wx : WX} {N : Nv} {W W' : Wd} {H H' : Hp} {st : Sto} {sl : Sl} {sh : L2.St}
theorem PostL.ext {Q : List V → Hp → Prop} {E : XK} {r : R (List D)} (e : Ext W H W' H') (h : PostL N W H Q E r) : PostL N W' H' Q E r := by
  cases r with
  | ok d st => exact fun W2 v H2 e2 hr rp => h W2 v H2 (e.trans e2) hr rp
  | exc x st => exact fun W2 c dd H2 e2 hr rp => h W2 c dd H2 (e.trans e2) hr rp
  | bad => exact h
theorem rd_bindL {m : M} {f : D → Sto → R (List D)} {Q : List V → Hp → Prop} {Q2 : VK} (hr : HR N.K W H st) (hs : SR N.K W sh sl)
    (h : PostL N W H Q (fun cls dd H' => Wx cls dd sh H') ((m sl st).bind f))
    (k : ∀ d st1 W1 v H1, m sl st = .ok d st1 → Ext W H W1 H1 → HR N.K W1 H1 st1 → SR N.K W1 sh sl → rep N.K W1 v d → PostL N W1 H1 Q (fun cls dd H' => Wx cls dd sh H') (f d st1) → Q2 v H1) : rd N Wx m sh H Q2 := by
  refine ⟨W, sl, st, hr, hs, ?_⟩
  cases e : m sl st with
  | ok d st1 => rw [e] at h; exact fun W1 v H1 e1 h1 r1 => k d st1 W1 v H1 e e1 h1 (hs.ext e1) r1 (PostL.ext e1 h)
  | exc x st1 => rw [e] at h; exact h
  | bad => rw [e] at h; exact h
theorem rdL_bindL {m : Ms} {f : List D → Sto → R (List D)} {Q Q2 : List V → Hp → Prop} (hr : HR N.K W H st) (hs : SR N.K W sh sl)
    (h : PostL N W H Q (fun cls dd H' => Wx cls dd sh H') ((m sl st).bind f))
    (k : ∀ ds st1 W1 vs H1, m sl st = .ok ds st1 → Ext W H W1 H1 → HR N.K W1 H1 st1 → SR N.K W1 sh sl → repL N.K W1 vs ds → PostL N W1 H1 Q (fun cls dd H' => Wx cls dd sh H') (f ds st1) → Q2 vs H1) : rdL N Wx m sh H Q2 := by
  refine ⟨W, sl, st, hr, hs, ?_⟩
  cases e : m sl st with
  | ok d st1 => rw [e] at h; exact fun W1 v H1 e1 h1 r1 => k d st1 W1 v H1 e e1 h1 (hs.ext e1) r1 (PostL.ext e1 h)
  | exc x st1 => rw [e] at h; exact h
  | bad => rw [e] at h; exact h
theorem rdL_bind {m : Ms} {f : List D → Sto → R D} {Q : VK} {Q2 : List V → Hp → Prop} (hr : HR N.K W H st) (hs : SR N.K W sh sl)
    (h : Post N W H Q (fun cls dd H' => Wx cls dd sh H') ((m sl st).bind f))
    (k : ∀ ds st1 W1 vs H1, m sl st = .ok ds st1 → Ext W H W1 H1 → HR N.K W1 H1 st1 → SR N.K W1 sh sl → repL N.K W1 vs ds → Post N W1 H1 Q (fun cls dd H' => Wx cls dd sh H') (f ds st1) → Q2 vs H1) : rdL N Wx m sh H Q2 := by
  refine ⟨W, sl, st, hr, hs, ?_⟩
  cases e : m sl st with
  | ok d st1 => rw [e] at h; exact fun W1 v H1 e1 h1 r1 => k d st1 W1 v H1 e e1 h1 (hs.ext e1) r1 (Post.ext e1 h)
  | exc x st1 => rw [e] at h; exact h
  | bad => rw [e] at h; exact h
theorem PostL.now {Q : List V → Hp → Prop} {E : XK} {ds : List D} {vs : List V} (hr : HR N.K W H st) (p : PostL N W H Q E (.ok ds st)) (h : repL N.K W vs ds) : Q vs H := p W vs H .refl hr h
theorem ga_nil : GA X Wx [] msNil := pa_nil.imp fun sh H Q ⟨W, sl, st, hr, hs, p⟩ => PostL.now (vs := []) hr p rfl
theorem ga_cons {e : Expr} {es : List Expr} {m : M} {ms : Ms} (ha : GE X Wx e m) (hr : GA X Wx es ms) (hs : starEach (e :: es) X.env = (false, eval e X.env) :: starEach es X.env := by rfl) : GA X Wx (e :: es) (msCons m ms) := by
  refine (pa_cons ha hr hs).imp fun sh H Q ⟨W, sl, st, hr, hs, p⟩ => ?_
  refine rd_bindL hr hs p fun d1 st1 W1 v1 H1 e1 x1 h1 s1 r1 p1 => ?_
  refine rdL_bindL h1 s1 p1 fun ds st2 W2 vs H2 e2 x2 h2 s2 r2 p2 => ?_
  exact PostL.now h2 p2 ⟨v1, vs, rfl, x2.rep r1, r2⟩
end
def mkTup (ds : List D) (st : Sto) : R D := if ds.length ≤ sizeLine then .ok (.tuple ds) st else .bad
def mkLst (ds : List D) (st : Sto) : R D := if ds.length ≤ sizeLine then .ok (.list ds) st else .bad
/-- a list that will grow: an object of the store -/
def mkLstM (ds : List D) (st : Sto) : R D := if ds.length ≤ sizeLine then .ok (Rf st.length) (st ++ [.lst ds]) else .bad
def mTup (ms : Ms) : M := fun sl st => (ms sl st).bind mkTup
def mLst (ms : Ms) : M := fun sl st => (ms sl st).bind mkLst
def mLstM (ms : Ms) : M := fun sl st => (ms sl st).bind mkLstM
section
variable {X : Cx} {Wx : WX} {es : List Expr} {ms : Ms} {pos : Pos} {N : Nv} {W W' : Wd} {H H' : Hp} {st : Sto}
theorem post_tup {Q : VK} {E : XK} {ds : List D} {vs : List V} (hr : HR N.K W H st) (h : repL N.K W vs ds) (p : Post N W H Q E (mkTup ds st)) : vs.length ≤ sizeLine ∧ ∀ a, H a = none → Q (.ref a) (upd H a (.tup vs)) := by
  unfold mkTup at p
  split at p
  · rename_i hl; exact ⟨by rw [repL_length h]; exact hl, p.tup hr h⟩
  · exact p.elim
theorem post_lst {Q : VK} {E : XK} {ds : List D} {vs : List V} (hr : HR N.K W H st) (h : repL N.K W vs ds) (p : Post N W H Q E (mkLst ds st)) : vs.length ≤ sizeLine ∧ ∀ a, H a = none → Q (.ref a) (upd H a (.lst vs)) := by
  unfold mkLst at p
  split at p
  · rename_i hl; exact ⟨by rw [repL_length h]; exact hl, p.lst hr h⟩
  · exact p.elim
theorem Post.lstM {Q : VK} {E : XK} {ds : List D} {vs : List V} (hr : HR N.K W H st) (h : repL N.K W vs ds) (p : Post N W H Q E (.ok (Rf st.length) (st ++ [.lst ds]))) : ∀ a, H a = none → Q (.ref a) (upd H a (.lst vs)) := fun a ha => by
  have ho : repO N.K ⟨W.F, W.rho ++ [a]⟩ (upd H a (.lst vs)) a (.lst ds) := ⟨vs, upd_same, repL_mono (W := W) (W' := ⟨W.F, W.rho ++ [a]⟩) (fun _ _ z => z) (fun r b z => by
    have hlt : r < W.rho.length := (List.getElem?_eq_some_iff.mp z).1
    show (W.rho ++ [a])[r]? = some b
    rw [List.getElem?_append_left hlt]; exact z) ds h⟩
  obtain ⟨h1, h2⟩ := hr.newM ha ho
  refine p _ _ _ h2 h1 ⟨st.length, a, rfl, rfl, ?_⟩
  show (W.rho ++ [a])[st.length]? = some a
  rw [← hr.len]; simp
theorem post_lstM {Q : VK} {E : XK} {ds : List D} {vs : List V} (hr : HR N.K W H st) (h : repL N.K W vs ds) (p : Post N W H Q E (mkLstM ds st)) : vs.length ≤ sizeLine ∧ ∀ a, H a = none → Q (.ref a) (upd H a (.lst vs)) := by
  unfold mkLstM at p
  split at p
  · rename_i hl; exact ⟨by rw [repL_length h]; exact hl, p.lstM hr h⟩
  · exact p.elim
theorem ge_tup {c} (h : GA X Wx es ms) : GE X Wx (.Tuple es c pos) (mTup ms) := by
  refine (pe_tup h).imp fun sh H Q ⟨W, sl, st, hr, hs, p⟩ => ?_
  exact rdL_bind hr hs p fun ds st1 W1 vs H1 e1 x1 h1 s1 r1 p1 => post_tup h1 r1 p1
theorem ge_lst (h : GA X Wx es ms) : GE X Wx (.List es pos) (mLst ms) := by
  refine (pe_lst h).imp fun sh H Q ⟨W, sl, st, hr, hs, p⟩ => ?_
  exact rdL_bind hr hs p fun ds st1 W1 vs H1 e1 x1 h1 s1 r1 p1 => post_lst h1 r1 p1
theorem ge_lstM (h : GA X Wx es ms) : GE X Wx (.List es pos) (mLstM ms) := by
  refine (pe_lst h).imp fun sh H Q ⟨W, sl, st, hr, hs, p⟩ => ?_
  exact rdL_bind hr hs p fun ds st1 W1 vs H1 e1 x1 h1 s1 r1 p1 => post_lstM h1 r1 p1
end
def keyOf : D → Option Key
  | .int i => some (.inl i)
  | .str x => some (.inr x)
  | _ => none
def keysOf : List D → Option (List Key)
  | [] => some []
  | d :: ds => match keyOf d, keysOf ds with | some k, some ks => some (k :: ks) | _, _ => none
def lookD {κ : Type} [DecidableEq κ] (kvs : List (κ × D)) (k : κ) : Option D := (kvs.find? fun kv => decide (kv.1 = k)).map (·.2)
def putD {κ : Type} [DecidableEq κ] (kvs : List (κ × D)) (k : κ) (d : D) : List (κ × D) :=
  if (kvs.any fun kv => decide (kv.1 = k)) = true then kvs.map (fun kv => if kv.1 = k then (kv.1, d) else kv) else kvs ++ [(k, d)]
/-- what the dict holds at a key: none where it is no dict or no key -/
def dlook (st : Sto) (x y : D) : Option (Option D) :=
  match x with
  | .dict [(.int r, .none)] => (match st[r.toNat]? with
    | some (.dct kvs) => (keyOf y).map (lookD kvs)
    | some (.dctT kvs) => (match y with | .tuple ds => (keysOf ds).map (lookD kvs) | _ => none)
    | _ => none)
  | _ => none
section
variable {K : PySem.W.Frag} {W : Wd} {H : Hp} {st : Sto} {v u : V} {d y : D}
theorem keyOf_rep {k : Key} (h : rep K W v d) (e : keyOf d = some k) : v = kV k := by
  cases d with
  | int i => cases h; cases e; rfl
  | str x => cases h; cases e; rfl
  | _ => cases e
theorem keysOf_rep : ∀ {ds : List D} {vs : List V} {ks : List Key}, repL K W vs ds → keysOf ds = some ks → vs = ks.map kV
  | [], _, _, h, e => by cases h; cases e; rfl
  | d :: ds, _, ks, ⟨v, us, e1, r, l⟩, e => by
    simp only [keysOf] at e
    split at e
    · rename_i k ks' e2 e3
      cases e
      subst e1
      rw [keyOf_rep r e2, keysOf_rep l e3]; rfl
    · cases e
theorem look_rep {κ : Type} [DecidableEq κ] {ks : List (κ × V)} {kvs : List (κ × D)} (h : repP K W ks kvs) (k : κ) :
    (∀ d, lookD kvs k = some d → ∃ v, valV ks k = some v ∧ rep K W v d) ∧ (lookD kvs k = none → valV ks k = none) := by
  induction h with
  | nil => exact ⟨fun d e => (by cases e), fun _ => rfl⟩
  | @cons p q ps qs hq t ih =>
    by_cases hk : q.1 = k
    · have e1 : lookD (q :: qs) k = some q.2 := by simp [lookD, List.find?_cons, hk]
      have e2 : valV (p :: ps) k = some p.2 := valV_pos (by rw [hq.1]; exact hk)
      exact ⟨fun d e => by rw [e1] at e; cases e; exact ⟨_, e2, hq.2⟩, fun e => by rw [e1] at e; cases e⟩
    · have e1 : lookD (q :: qs) k = lookD qs k := by simp [lookD, List.find?_cons, hk]
      have e2 : valV (p :: ps) k = valV ps k := valV_neg (by rw [hq.1]; exact hk)
      rw [e1, e2]; exact ih
theorem any_rep {κ : Type} [DecidableEq κ] {ks : List (κ × V)} {kvs : List (κ × D)} (h : repP K W ks kvs) (k : κ) : (kvs.any fun kv => decide (kv.1 = k)) = ks.any fun kv => decide (kv.1 = k) := by
  induction h with
  | nil => rfl
  | @cons p q ps qs hq t ih => rw [List.any_cons, List.any_cons, ih, hq.1]
theorem put_rep {κ : Type} [DecidableEq κ] {ks : List (κ × V)} {kvs : List (κ × D)} (h : repP K W ks kvs) (k : κ) (r : rep K W v d) : repP K W (putK ks k v) (putD kvs k d) := by
  have ha := any_rep h k
  unfold putK putD
  rw [ha]
  split
  · rename_i hany
    clear ha hany
    induction h with
    | nil => exact .nil
    | @cons p q ps qs hq t ih =>
      simp only [List.map_cons]
      refine .cons ?_ ih
      by_cases hk : q.1 = k
      · rw [if_pos (by rw [hq.1]; exact hk), if_pos hk]; exact ⟨hq.1, r⟩
      · rw [if_neg (by rw [hq.1]; exact hk), if_neg hk]; exact hq
  · have snoc : ∀ {ks : List (κ × V)} {kvs : List (κ × D)}, repP K W ks kvs → repP K W (ks ++ [(k, v)]) (kvs ++ [(k, d)]) := by
      intro ks kvs h
      induction h with
      | nil => exact .cons ⟨rfl, r⟩ .nil
      | cons hq t ih => exact .cons hq ih
    exact snoc h
theorem repP_length {κ : Type} {ks : List (κ × V)} {kvs : List (κ × D)} (h : repP K W ks kvs) : ks.length = kvs.length := by
  induction h with
  | nil => rfl
  | cons _ _ ih => simp [ih]
/-- where a dict of the store stands, and what it holds -/
theorem dlook_rep (hr : HR K W H st) (h : rep K W v d) (hy : rep K W u y) {o : Option D} (e : dlook st d y = some o) : ∃ a ov, v = .ref a ∧ DGet H a u ov ∧ (∀ r, o = some r → ∃ w, ov = some w ∧ rep K W w r) ∧ (o = none → ov = none) := by
  unfold dlook at e
  split at e
  · rename_i i
    rcases rep_dict h with ⟨r, a, e1, e2, e3⟩ | ⟨ds', a, xs, e1, _, _⟩ | ⟨ds', a, xs, e1, _, _⟩ | ⟨ae, ade, ce, nse, fse, he⟩
    rotate_left
    · cases e1
    · cases e1
    · cases he
    have ei : i = (r : Int) := by injection e1 with q1 _; injection q1 with q2 _; injection q2
    subst ei
    rw [Int.toNat_natCast] at e
    obtain ⟨m, hm, _, ho⟩ := hr.at e3
    rw [hm] at e
    subst e2
    cases m with
    | dct kvs =>
      obtain ⟨ks, h1, h2⟩ := ho
      simp only at e
      obtain ⟨k, hk, eo⟩ := Option.map_eq_some_iff.mp e
      have := keyOf_rep hy hk
      subst this
      obtain ⟨l1, l2⟩ := look_rep h2 k
      refine ⟨a, valV ks k, rfl, .inl ⟨ks, k, .inl h1, rfl, rfl⟩, fun r hr' => ?_, fun hn => l2 (by rw [eo, hn])⟩
      obtain ⟨w, q1, q2⟩ := l1 r (by rw [eo, hr'])
      exact ⟨w, q1, q2⟩
    | dctT kvs =>
      obtain ⟨ks, h1, h2⟩ := ho
      simp only at e
      split at e
      · rename_i ds
        obtain ⟨k, hk, eo⟩ := Option.map_eq_some_iff.mp e
        obtain ⟨b, xs, q1, q2, q3⟩ := hy
        subst q1
        have := keysOf_rep q3 hk
        subst this
        obtain ⟨l1, l2⟩ := look_rep h2 k
        refine ⟨a, valV ks k, rfl, .inr ⟨ks, k, b, .inl h1, rfl, hr.sub _ _ q2, rfl⟩, fun r hr' => ?_, fun hn => l2 (by rw [eo, hn])⟩
        obtain ⟨w, q1, q2⟩ := l1 r (by rw [eo, hr'])
        exact ⟨w, q1, q2⟩
      · cases e
    | lst ds => cases e
    | ro ds => cases e
    | tb _ _ => cases e
  · cases e
end
def dIx (x y : D) : Option D :=
  match x, y with
  | .list ds, .int i => atI ds i
  | .tuple ds, .int i => atI ds i
  | .dict [(.none, .list ds)], .int i => atI ds i
  | .str z, .int i => if z.length ≤ sizeLine then (atI z.cps.toList i).map fun c => .str ⟨#[c]⟩ else none
  | _, _ => none
/-- a list, a tuple, a text at an int; a dict at a key that is there -/
def fIx : F2 := fun x y st => match dlook st x y with
  | some (some d) => .ok d st
  | some none => .bad
  | none => onD2 dIx x y st
def mIx : M → M → M := mOp2 fIx
section
variable {X : Cx} {Wx : WX} {ea eb e : Expr} {ma mb mc : M} {pos : Pos} {K : PySem.W.Frag} {W : Wd} {H : Hp} {st : Sto}
theorem atI_rep {vs : List V} {ds : List D} (h : repL K W vs ds) {i : Int} {d : D} (e : atI ds i = some d) : ∃ v, atI vs i = some v ∧ rep K W v d := by
  unfold atI at e ⊢
  rw [repL_length h]
  cases q : ixN ds.length i with
  | none => rw [q] at e; cases e
  | some j => rw [q] at e; exact repL_get j h e
theorem ge_ix (g : Gd0 X) (ha : GE X Wx ea ma) (hb : GE X Wx eb mb) (hs : PlainIx eb := by exact fun _ _ => rfl) : GE X Wx (.Subscript ea eb pos) (mIx ma mb) := by
  refine (PE.or (pe_ix ix_seq ha hb hs) (pe_dget (by have := g.un; omega) ha hb hs)).imp fun sh H Q ⟨W, sl, st, hr, hs, p⟩ => ?_
  cases e1 : ma sl st with
  | bad => unfold mIx mOp2 at p; rw [e1] at p; exact p.elim
  | exc x s2 =>
    refine .inl (rd_bind hr hs p fun d1 st1 W1 v1 H1 e2 => ?_)
    rw [e1] at e2; cases e2
  | ok d1 st1 =>
    cases e2 : mb sl st1 with
    | bad => unfold mIx mOp2 at p; rw [e1] at p; simp only [R.bind_ok] at p; rw [e2] at p; exact p.elim
    | exc x s2 =>
      refine .inl (rd_bind hr hs p fun d1' st1' W1 v1 H1 f1 x1 h1 s1 r1 p1 => ?_)
      rw [e1] at f1; cases f1
      refine rd_bind h1 s1 p1 fun d2' st2' W2 v2 H2 f2 => ?_
      rw [e2] at f2; cases f2
    | ok d2 st2 =>
      cases e3 : dlook st2 d1 d2 with
      | none =>
        refine .inl (rd_bind hr hs p fun d1' st1' W1 v1 H1 f1 x1 h1 s1 r1 p1 => ?_)
        rw [e1] at f1; cases f1
        refine rd_bind h1 s1 p1 fun d2' st2' W2 v2 H2 f2 x2 h2 s2 r2 p2 => ?_
        rw [e2] at f2; cases f2
        unfold fIx at p2
        rw [e3] at p2
        obtain ⟨d, e, p⟩ := onD2_post p2
        have r1' := x2.rep r1
        cases hx : deref st2 d1 with
        | list ds =>
          cases hy : deref st2 d2 with
          | int i =>
            rw [hx, hy] at e
            obtain ⟨a1, xs, q1, q2, l1⟩ := rep_dlist h2 r1' hx
            obtain ⟨v, q3, q4⟩ := atI_rep l1 (show atI ds i = some d from e)
            exact .inl ⟨a1, xs, i, v, q1, rep_dint h2 r2 hy, .inl (.inl q2), q3, p.val h2 q4⟩
          | _ => rw [hx, hy] at e; cases e
        | tuple ds =>
          cases hy : deref st2 d2 with
          | int i =>
            rw [hx, hy] at e
            obtain ⟨a1, xs, q1, q2, l1⟩ := rep_dtuple h2 r1' hx
            obtain ⟨v, q3, q4⟩ := atI_rep l1 (show atI ds i = some d from e)
            exact .inr (.inl ⟨a1, xs, i, v, q1, rep_dint h2 r2 hy, q2, q3, p.val h2 q4⟩)
          | _ => rw [hx, hy] at e; cases e
        | str z =>
          cases hy : deref st2 d2 with
          | int i =>
            rw [hx, hy] at e
            simp only [dIx] at e
            split at e
            · rename_i hl
              obtain ⟨c, q1, q2⟩ := Option.map_eq_some_iff.mp e
              subst q2
              exact .inr (.inr ⟨z, i, c, rep_dstr h2 r1' hx, rep_dint h2 r2 hy, hl, q1, p.val h2 rfl⟩)
            · cases e
          | _ => rw [hx, hy] at e; cases e
        | dict kvs =>
          rw [hx] at e
          unfold dIx at e
          split at e
          · rename_i q _; cases q
          · rename_i q _; cases q
          · rename_i ds i q hy
            cases q
            obtain ⟨a1, xs, q1, q2, l1⟩ := rep_dgs h2 r1' hx
            obtain ⟨v, q3, q4⟩ := atI_rep l1 (show atI ds i = some d from e)
            exact .inl ⟨a1, xs, i, v, q1, rep_dint h2 r2 hy, q2, q3, p.val h2 q4⟩
          · rename_i q _; cases q
          · cases e
        | _ => rw [hx] at e; cases e
      | some o =>
        refine .inr (rd_bind hr hs p fun d1' st1' W1 v1 H1 f1 x1 h1 s1 r1 p1 => ?_)
        rw [e1] at f1; cases f1
        refine rd_bind h1 s1 p1 fun d2' st2' W2 v2 H2 f2 x2 h2 s2 r2 p2 => ?_
        rw [e2] at f2; cases f2
        unfold fIx at p2
        rw [e3] at p2
        obtain ⟨a, ov, q1, q2, q3, q4⟩ := dlook_rep h2 (x2.rep r1) r2 e3
        cases o with
        | none => exact p2.elim
        | some d =>
          obtain ⟨w, q5, q6⟩ := q3 d rfl
          subst q5
          exact ⟨a, w, q1, q2, p2.val h2 q6⟩
abbrev MO? := Sl → Sto → R (Option Int)
def moNone : MO? := fun _ st => .ok none st
def moSome (m : M) : MO? := fun sl st => (m sl st).bind fun d st => match d with | .int i => .ok (some i) st | _ => .bad
def cutD (xs : List D) (lo hi : Option Int) : List D := (xs.drop (HT.sIx xs.length 0 lo)).take (HT.sIx xs.length xs.length hi - HT.sIx xs.length 0 lo)
def fSl (lo hi : Option Int) : F1 := fun x st =>
  match x with
  | .tuple ds => .ok (.tuple (cutD ds lo hi)) st
  | .dict [(.int r, .none)] => (match st[r.toNat]? with | some (.lst ds) => .ok (.list (cutD ds lo hi)) st | some (.ro ds) => .ok (.list (cutD ds lo hi)) st | _ => .bad)
  | .list ds => .ok (.list (cutD ds lo hi)) st
  | .dict [(.none, .list ds)] => .ok (.list (cutD ds lo hi)) st
  | .str z => if z.length ≤ sizeLine then .ok (.str (cutS z lo hi)) st else .bad
  | _ => .bad
def mSl (ma : M) (lo hi : MO?) : M := fun sl st => (ma sl st).bind fun x st => (lo sl st).bind fun l st => (hi sl st).bind fun h st => fSl l h x st
theorem cut_rep {vs : List V} {ds : List D} (h : repL K W vs ds) (lo hi : Option Int) : repL K W (cutV vs lo hi) (cutD ds lo hi) := by
  unfold cutV cutD
  rw [repL_length h]
  exact repL_take _ (repL_drop _ h)
theorem cut_whole {ds : List D} {lo hi : Option Int} (h : HT.sIx ds.length 0 lo = 0 ∧ HT.sIx ds.length ds.length hi = ds.length) : cutD ds lo hi = ds := by
  unfold cutD
  rw [h.1, h.2]; simp
def PostO (N : Nv) (W : Wd) (H : Hp) (Q : Option Int → Hp → Prop) (E : XK) : R (Option Int) → Prop
  | .ok o st => ∀ W' H', Ext W H W' H' → HR N.K W' H' st → Q o H'
  | .exc x st => ∀ W' cls dd H', Ext W H W' H' → HR N.K W' H' st → repX N W' H' cls dd x → E cls dd H'
  | .bad => False
/-- a slice's bound: its reading, and what it is -/
def GO (X : Cx) (Wx : WX) (e : Option Expr) (m : MO?) : Prop := PO X e (fun sh H Q => ∃ W sl st, HR X.K W H st ∧ SR X.K W sh sl ∧ PostO (nv X) W H Q (fun cls dd H' => Wx cls dd sh H') (m sl st))
theorem go_none : GO X Wx none moNone := ⟨fun pins s σ H Q I h => po_none.run pins s σ H Q I (by obtain ⟨W, sl, st, hr, hs, p⟩ := h; exact p W H .refl hr)⟩
theorem go_some (ha : GE X Wx ea ma) : GO X Wx (some ea) (moSome ma) := by
  refine ⟨fun pins s σ H Q I ⟨W, sl, st, hr, hs, p⟩ => (po_some ha).run pins s σ H Q I ?_⟩
  refine ⟨W, sl, st, hr, hs, ?_⟩
  unfold moSome at p
  cases e : ma sl st with
  | bad => rw [e] at p; exact p
  | exc x st => rw [e] at p; exact p
  | ok d st1 =>
    rw [e] at p
    intro W1 v H1 x1 h1 r1
    cases d with
    | int i => cases r1; exact ⟨i, rfl, p W1 H1 x1 h1⟩
    | _ => exact p.elim
theorem ge_slice {lo hi : Option Expr} {ml mh : MO?} {p2 : Pos} (ha : GE X Wx ea ma) (hl : GO X Wx lo ml) (hh : GO X Wx hi mh) : GE X Wx (.Subscript ea (.Slice lo hi none p2) pos) (mSl ma ml mh) := by
  refine (pe_slice ((sl_list.or sl_tupA).or sl_str) ha hl hh).imp fun sh H Q ⟨W, sl, st, hr, hs, p⟩ => ?_
  refine rd_bind hr hs p fun d1 st1 W1 v1 H1 e1 x1 h1 s1 r1 p1 => ?_
  refine ⟨W1, sl, st1, h1, s1, ?_⟩
  cases e2 : ml sl st1 with
  | bad => rw [e2] at p1; exact p1
  | exc x st => rw [e2] at p1; exact p1
  | ok l st2 =>
    rw [e2] at p1
    intro W2 H2 x2 h2
    refine ⟨W2, sl, st2, h2, s1.ext x2, ?_⟩
    have p2' := Post.ext x2 p1
    simp only [R.bind_ok] at p2'
    cases e3 : mh sl st2 with
    | bad => rw [e3] at p2'; exact p2'
    | exc x st => rw [e3] at p2'; exact p2'
    | ok h st3 =>
      rw [e3] at p2'
      intro W3 H3 x3 h3
      have p3 := Post.ext x3 p2'
      simp only [R.bind_ok] at p3
      have r3 := x3.rep (x2.rep r1)
      unfold fSl at p3
      split at p3
      · rename_i ds
        obtain ⟨a, xs, q1, q2, q3⟩ := r3
        subst q1
        refine .inl (.inr ⟨a, xs, rfl, .inl (.inl (h3.sub _ _ q2)), fun hw => ?_, fun _ => p3.tup h3 (cut_rep q3 l h)⟩)
        rw [repL_length q3] at hw
        rw [cut_whole hw] at p3
        exact p3.val h3 ⟨a, xs, rfl, q2, q3⟩
      · rename_i i
        rcases rep_dict r3 with ⟨r, a, f1, f2, f3⟩ | ⟨ds', a, xs, f1, _, _⟩ | ⟨ds', a, xs, f1, _, _⟩ | ⟨ae, ade, ce, nse, fse, he⟩
        rotate_left
        · cases f1
        · cases f1
        · cases he
        have ei : i = (r : Int) := by injection f1 with q1 _; injection q1 with q2 _; injection q2
        subst ei
        rw [Int.toNat_natCast] at p3
        obtain ⟨m, hm, _, ho⟩ := h3.at f3
        rw [hm] at p3
        cases m with
        | lst ds =>
          obtain ⟨xs, g1, g2⟩ := ho
          exact .inl (.inl ⟨a, xs, f2, .inl (.inl g1), p3.lst h3 (cut_rep g2 l h)⟩)
        | ro ds =>
          obtain ⟨o, xs, g1, g2⟩ := ho
          exact .inl (.inl ⟨a, xs, f2, .inl (.inr ⟨o, g1⟩), p3.lst h3 (cut_rep g2 l h)⟩)
        | dct _ => exact p3.elim
        | dctT _ => exact p3.elim
        | tb _ _ => exact p3.elim
      · rename_i ds
        obtain ⟨a, xs, q1, q2, q3⟩ := r3
        exact .inl (.inl ⟨a, xs, q1, .inl (.inl (h3.sub _ _ q2)), p3.lst h3 (cut_rep q3 l h)⟩)
      · rename_i ds
        obtain ⟨a, xs, q1, q2, q3⟩ := r3
        exact .inl (.inl ⟨a, xs, q1, sqL_mono h3.sub q2, p3.lst h3 (cut_rep q3 l h)⟩)
      · rename_i z
        split at p3
        · rename_i hz; cases r3; exact .inr ⟨z, rfl, hz, p3.val h3 rfl⟩
        · exact p3.elim
      · exact p3.elim
end
section
variable {X : Cx} {Wx : WX} {ea eb e : Expr} {ma mb mc : M} {pos p : Pos} {x : Str}
theorem ge_callB1 {id : String} {r : List V → Hp → VK → Prop} {f : F1} (hc : CallR X (.builtin id) r) (nx : ∀ x st ex s2, f x st ≠ .exc ex s2) (ok : Ok1 (nv X) (fun x H Q => r [x] H Q) f) (hg : Gl X x) (hm : X.mg x = none) (hv : bootBuiltins x = some (.builtin id))
    (ha : GE X Wx ea ma) (hn : x ≠ "__name__") (hdb : (x == ("__debug__" : Str)) = false)
    (he : starEach (ea :: []) X.env = (false, eval ea X.env) :: starEach [] X.env := by rfl) (hpl : (backTo pos (starEach [] X.env)).any (·.1) = false := by rfl) : GE X Wx (.Call (.Name x p) [ea] [] pos) (mOp1 f ma) :=
  ge_op1 nx ok (pe_callB hc hg hm hv (pa_cons ha pa_nil he) hn hdb he hpl)
theorem ge_callT1 {T : String} {r : List V → Hp → VK → Prop} {f : F1} (hc : CallR X (.type T) r) (nx : ∀ x st ex s2, f x st ≠ .exc ex s2) (ok : Ok1 (nv X) (fun x H Q => r [x] H Q) f) (hg : Gl X x) (hm : X.mg x = none) (hv : bootBuiltins x = some (.type T))
    (ha : GE X Wx ea ma) (hn : x ≠ "__name__") (hdb : (x == ("__debug__" : Str)) = false)
    (he : starEach (ea :: []) X.env = (false, eval ea X.env) :: starEach [] X.env := by rfl) (hpl : (backTo pos (starEach [] X.env)).any (·.1) = false := by rfl) : GE X Wx (.Call (.Name x p) [ea] [] pos) (mOp1 f ma) :=
  ge_op1 nx ok (pe_callTy hc hg hm hv (pa_cons ha pa_nil he) hn hdb he hpl)
def dLen : D → Option D
  | .list ds => some (.int ds.length)
  | .tuple ds => some (.int ds.length)
  | .dict [(.none, .list ds)] => some (.int ds.length)
  | .str z => if z.length ≤ sizeLine then some (.int z.length) else none
  | _ => none
def fLen : F1 := onD1 dLen
def mLen : M → M := mOp1 fLen
theorem ge_len (hm : X.mg "len" = none) (ha : GE X Wx ea ma) (hg : Gl X "len" := by rfl)
    (he : starEach (ea :: []) X.env = (false, eval ea X.env) :: starEach [] X.env := by rfl) (hpl : (backTo pos (starEach [] X.env)).any (·.1) = false := by rfl) : GE X Wx (.Call (.Name "len" p) [ea] [] pos) (mLen ma) := by
  refine ge_callB1 call_len onD1_nx ?_ hg hm PySem.boot_len ha (by decide +kernel) (by decide +kernel) he hpl
  intro W H st x dx Q hr rx p
  obtain ⟨d, e, p⟩ := onD1_post p
  cases hx : deref st dx with
  | list ds => rw [hx] at e; cases e; obtain ⟨a, xs, e1, e2, l⟩ := rep_dlist hr rx hx; subst e1; exact ⟨_, ds.length, rfl, .inl ⟨xs, .inl (.inl e2), (repL_length l).symm⟩, p.val hr rfl⟩
  | tuple ds => rw [hx] at e; cases e; obtain ⟨a, xs, e1, e2, l⟩ := rep_dtuple hr rx hx; subst e1; exact ⟨_, ds.length, rfl, .inr ⟨xs, e2, (repL_length l).symm⟩, p.val hr rfl⟩
  | str z =>
    rw [hx] at e
    simp only [dLen] at e
    split at e
    · rename_i hl; cases e; rw [rep_dstr hr rx hx]; exact ⟨_, z.length, rfl, ⟨hl, rfl⟩, p.val hr rfl⟩
    · cases e
  | dict kvs =>
    rw [hx] at e
    unfold dLen at e
    split at e
    · rename_i q; cases q
    · rename_i q; cases q
    · rename_i q; cases q; cases e; obtain ⟨a, xs, e1, e2, l⟩ := rep_dgs hr rx hx; subst e1; exact ⟨_, _, rfl, .inl ⟨xs, e2, (repL_length l).symm⟩, p.val hr rfl⟩
    · rename_i q; cases q
    · cases e
  | _ => rw [hx] at e; cases e
def dInt : D → Option D
  | .int i => some (.int i)
  | .bool k => some (.int (if k then 1 else 0))
  | .str a => if a.length ≤ 640 then (PySem.intText? a).map .int else none
  | _ => none
def mInt : M → M := mOp1 (onD1 dInt)
theorem CallR.or {f : Value} {r r' : List V → Hp → VK → Prop} (h : CallR X f r) (h' : CallR X f r') : CallR X f (fun xs H Q => r xs H Q ∨ r' xs H Q) := by
  intro pins s σ H xs us Q I rx q
  rcases q with q | q
  · exact h pins s σ H xs us Q I rx q
  · exact h' pins s σ H xs us Q I rx q
theorem ge_toint (hm : X.mg "int" = none) (ha : GE X Wx ea ma) (hg : Gl X "int" := by rfl)
    (he : starEach (ea :: []) X.env = (false, eval ea X.env) :: starEach [] X.env := by rfl) (hpl : (backTo pos (starEach [] X.env)).any (·.1) = false := by rfl) : GE X Wx (.Call (.Name "int" p) [ea] [] pos) (mInt ma) := by
  refine ge_callT1 (CallR.or call_int1 call_int_str) onD1_nx ?_ hg hm PyProof.Rows.boot_int ha (by decide +kernel) (by decide +kernel) he hpl
  intro W H st x dx Q hr rx p
  obtain ⟨d, e, p⟩ := onD1_post p
  cases hx : deref st dx with
  | int i => rw [hx] at e; cases e; rw [rep_dint hr rx hx]; exact .inl (.inl ⟨i, rfl, p.val hr rfl⟩)
  | bool i => rw [hx] at e; cases e; rw [rep_dbool hr rx hx]; exact .inl (.inr ⟨i, rfl, p.val hr rfl⟩)
  | str z =>
    rw [hx] at e
    simp only [dInt] at e
    split at e
    · rename_i hl
      obtain ⟨n, e1, e2⟩ := Option.map_eq_some_iff.mp e
      subst e2
      rw [rep_dstr hr rx hx]; exact .inr ⟨z, n, rfl, e1, hl, p.val hr rfl⟩
    · cases e
  | _ => rw [hx] at e; cases e
def dTuple : D → Option D
  | .list ds => some (.tuple ds)
  | _ => none
def fTuple : F1 := fun x st => match x with | .tuple ds => .ok (.tuple ds) st | _ => onD1 dTuple x st
theorem fTuple_nx (x : D) (st : Sto) (ex : XV) (s2 : Sto) : fTuple x st ≠ .exc ex s2 := by
  unfold fTuple; split
  · simp
  · exact onD1_nx _ _ _ _
def mTuple : M → M := mOp1 fTuple
theorem ge_totuple (hm : X.mg "tuple" = none) (ha : GE X Wx ea ma) (hg : Gl X "tuple" := by rfl)
    (he : starEach (ea :: []) X.env = (false, eval ea X.env) :: starEach [] X.env := by rfl) (hpl : (backTo pos (starEach [] X.env)).any (·.1) = false := by rfl) : GE X Wx (.Call (.Name "tuple" p) [ea] [] pos) (mTuple ma) := by
  refine ge_callT1 call_tuple_of fTuple_nx ?_ hg hm (by decide +kernel) ha (by decide +kernel) (by decide +kernel) he hpl
  intro W H st x dx Q hr rx p
  unfold fTuple at p
  split at p
  · rename_i ds
    obtain ⟨a, xs, q1, q2, q3⟩ := rx
    subst q1
    exact ⟨a, xs, rfl, .inr ⟨.inl (.inl (hr.sub _ _ q2)), p.val hr ⟨a, xs, rfl, q2, q3⟩⟩⟩
  · obtain ⟨d, e, p⟩ := onD1_post p
    cases hx : deref st dx with
    | list ds => rw [hx] at e; cases e; obtain ⟨a, xs, e1, e2, l⟩ := rep_dlist hr rx hx; subst e1; exact ⟨a, xs, rfl, .inl ⟨.inl (.inl e2), p.tup hr l⟩⟩
    | _ => rw [hx] at e; cases e
def dList : D → Option D
  | .list ds => some (.list ds)
  | .tuple ds => some (.list ds)
  | _ => none
def mList : M → M := mOp1 (onD1 dList)
/-- the truth values of a list -/
def boolsOf : List D → Option (List Bool)
  | [] => some []
  | .bool b :: ds => (boolsOf ds).map (b :: ·)
  | _ => none
def dAll : D → Option D
  | .list ds => (boolsOf ds).map fun bs => .bool (bs.all id)
  | _ => none
def dAny : D → Option D
  | .list ds => (boolsOf ds).map fun bs => .bool (bs.any id)
  | _ => none
theorem boolsOf_rep {K : PySem.W.Frag} {W : Wd} : ∀ {ds : List D} {vs : List V} {bs : List Bool}, repL K W vs ds → boolsOf ds = some bs → vs = bs.map V.bl
  | [], _, _, h, e => by cases h; cases e; rfl
  | .bool b :: ds, _, bs, ⟨v, us, e1, r, l⟩, e => by
    simp only [boolsOf] at e
    obtain ⟨cs, e2, e3⟩ := Option.map_eq_some_iff.mp e
    subst e3; subst e1
    cases r
    rw [boolsOf_rep l e2]; rfl
  | .none :: _, _, _, _, e => by cases e
  | .int _ :: _, _, _, _, e => by cases e
  | .str _ :: _, _, _, _, e => by cases e
  | .list _ :: _, _, _, _, e => by cases e
  | .tuple _ :: _, _, _, _, e => by cases e
  | .dict _ :: _, _, _, _, e => by cases e
def mAll : M → M := mOp1 (onD1 dAll)
def mAny : M → M := mOp1 (onD1 dAny)
theorem ge_all (g : Gd X) (hm : X.mg "all" = none) (ha : GE X Wx ea ma) (hg : Gl X "all" := by rfl)
    (he : starEach (ea :: []) X.env = (false, eval ea X.env) :: starEach [] X.env := by rfl) (hpl : (backTo pos (starEach [] X.env)).any (·.1) = false := by rfl) : GE X Wx (.Call (.Name "all" p) [ea] [] pos) (mAll ma) := by
  refine ge_callB1 (cr_all g.calm) onD1_nx ?_ hg hm (by decide +kernel) ha (by decide +kernel) (by decide +kernel) he hpl
  intro W H st x dx Q hr rx p
  obtain ⟨d, e, p⟩ := onD1_post p
  cases hx : deref st dx with
  | list ds =>
    rw [hx] at e
    obtain ⟨bs, q1, q2⟩ := Option.map_eq_some_iff.mp (show (boolsOf ds).map (fun bs => PyData.bool (bs.all id)) = some d from e)
    subst q2
    obtain ⟨a, xs, e1, e2, l⟩ := rep_dlist hr rx hx
    subst e1
    exact ⟨a, bs, rfl, .inl (.inl (by rw [← boolsOf_rep l q1]; exact e2)), p.val hr rfl⟩
  | _ => rw [hx] at e; cases e
end
end Pv
set_option Elab.async false
set_option linter.all false
set_option maxRecDepth 100000
set_option maxHeartbeats 4000000
namespace Pv
open PySem PySem.Spec L2
open PyProof.Rows hiding St
inductive RS where
  | nx (sl : Sl) (st : Sto) | rt (d : D) (st : Sto) | bk (sl : Sl) (st : Sto) | ct (sl : Sl) (st : Sto) | exc (x : XV) (st : Sto) | bad
abbrev MS := Sl → Sto → RS
def PostS (N : Nv) (n : Nat) (Wx : WX) (W : Wd) (H : Hp) (D : Ends) : RS → Prop
  | .nx sl st => ∀ W' sh' H', sh'.length = n → Ext W H W' H' → HR N.K W' H' st → SR N.K W' sh' sl → D.nx sh' H'
  | .bk sl st => ∀ W' sh' H', sh'.length = n → Ext W H W' H' → HR N.K W' H' st → SR N.K W' sh' sl → D.bk sh' H'
  | .ct sl st => ∀ W' sh' H', sh'.length = n → Ext W H W' H' → HR N.K W' H' st → SR N.K W' sh' sl → D.ct sh' H'
  | .rt d st => ∀ W' v H', Ext W H W' H' → HR N.K W' H' st → rep N.K W' v d → D.rt v H'
  | .exc x st => ∀ W' (sh' : L2.St) cls dd H', sh'.length = n → Ext W H W' H' → HR N.K W' H' st → repX N W' H' cls dd x → Wx cls dd sh' H'
  | .bad => False
def rdS (N : Nv) (Wx : WX) (m : MS) : TS := fun D sh H => ∃ W sl st, HR N.K W H st ∧ SR N.K W sh sl ∧ PostS N sh.length Wx W H D (m sl st)
def GS (X : Cx) (Wx : WX) (s : Stmt) (m : MS) : Prop := PS X s (rdS (nv X) Wx m)
def GSs (X : Cx) (Wx : WX) (s : List Stmt) (m : MS) : Prop := PSs X s (rdS (nv X) Wx m)
def RS.bind (r : RS) (f : Sl → Sto → RS) : RS := match r with | .nx sl st => f sl st | r => r
@[simp] theorem RS.bind_nx (sl : Sl) (st : Sto) (f : Sl → Sto → RS) : (RS.nx sl st).bind f = f sl st := rfl
@[simp] theorem RS.bind_rt (d : D) (st : Sto) (f : Sl → Sto → RS) : (RS.rt d st).bind f = .rt d st := rfl
@[simp] theorem RS.bind_bk (sl : Sl) (st : Sto) (f : Sl → Sto → RS) : (RS.bk sl st).bind f = .bk sl st := rfl
@[simp] theorem RS.bind_ct (sl : Sl) (st : Sto) (f : Sl → Sto → RS) : (RS.ct sl st).bind f = .ct sl st := rfl
@[simp] theorem RS.bind_exc (x : XV) (st : Sto) (f : Sl → Sto → RS) : (RS.exc x st).bind f = .exc x st := rfl
@[simp] theorem RS.bind_bad (f : Sl → Sto → RS) : RS.bad.bind f = .bad := rfl
/-- a value is reckoned, then the statement goes on -/
def R.thenS {α : Type} (r : R α) (f : α → Sto → RS) : RS := match r with | .ok a st => f a st | .exc x st => .exc x st | .bad => .bad
@[simp] theorem R.thenS_ok {α : Type} (a : α) (st : Sto) (f : α → Sto → RS) : (R.ok a st).thenS f = f a st := rfl
@[simp] theorem R.thenS_exc {α : Type} (x : XV) (st : Sto) (f : α → Sto → RS) : (R.exc x st : R α).thenS f = .exc x st := rfl
@[simp] theorem R.thenS_bad {α : Type} (f : α → Sto → RS) : (R.bad : R α).thenS f = .bad := rfl
section
variable {X : Cx} {Wx : WX} {N : Nv} {W W' : Wd} {H H' : Hp} {st : Sto} {sl : Sl} {sh : L2.St} {n : Nat} {D D' : Ends}
theorem PostS.ext {r : RS} (e : Ext W H W' H') (h : PostS N n Wx W H D r) : PostS N n Wx W' H' D r := by
  cases r with
  | nx sl st => exact fun W2 s2 H2 l e2 a b => h W2 s2 H2 l (e.trans e2) a b
  | bk sl st => exact fun W2 s2 H2 l e2 a b => h W2 s2 H2 l (e.trans e2) a b
  | ct sl st => exact fun W2 s2 H2 l e2 a b => h W2 s2 H2 l (e.trans e2) a b
  | rt d st => exact fun W2 s2 H2 e2 a b => h W2 s2 H2 (e.trans e2) a b
  | exc x st => exact fun W2 s2 c dd H2 l e2 a b => h W2 s2 c dd H2 l (e.trans e2) a b
  | bad => exact h
theorem rd_bindS {m : M} {f : Pv.D → Sto → RS} {Q2 : VK} (hr : HR N.K W H st) (hs : SR N.K W sh sl)
    (h : PostS N sh.length Wx W H D ((m sl st).thenS f))
    (k : ∀ d st1 W1 v H1, m sl st = .ok d st1 → Ext W H W1 H1 → HR N.K W1 H1 st1 → SR N.K W1 sh sl → rep N.K W1 v d → PostS N sh.length Wx W1 H1 D (f d st1) → Q2 v H1) : rd N Wx m sh H Q2 := by
  refine ⟨W, sl, st, hr, hs, ?_⟩
  cases e : m sl st with
  | ok d st1 => rw [e] at h; exact fun W1 v H1 e1 h1 r1 => k d st1 W1 v H1 e e1 h1 (hs.ext e1) r1 (PostS.ext e1 h)
  | exc x st1 => rw [e] at h; exact fun W1 c dd H1 e1 a b => h W1 sh c dd H1 rfl e1 a b
  | bad => rw [e] at h; exact h
theorem rdT_bindS {m : MT} {f : Bool → Sto → RS} {Q2 : Bool → Hp → Prop} (hr : HR N.K W H st) (hs : SR N.K W sh sl)
    (h : PostS N sh.length Wx W H D ((m sl st).thenS f))
    (k : ∀ b st1 W1 H1, m sl st = .ok b st1 → Ext W H W1 H1 → HR N.K W1 H1 st1 → SR N.K W1 sh sl → PostS N sh.length Wx W1 H1 D (f b st1) → Q2 b H1) : rdT N Wx m sh H Q2 := by
  refine ⟨W, sl, st, hr, hs, ?_⟩
  cases e : m sl st with
  | ok d st1 => rw [e] at h; exact fun W1 H1 e1 h1 => k d st1 W1 H1 e e1 h1 (hs.ext e1) (PostS.ext e1 h)
  | exc x st1 => rw [e] at h; exact fun W1 c dd H1 e1 a b => h W1 sh c dd H1 rfl e1 a b
  | bad => rw [e] at h; exact h
/-- one after another -/
def sSeq (a b : MS) : MS := fun sl st => (a sl st).bind b
def sNil : MS := fun sl st => .nx sl st
theorem gss_nil : GSs X Wx [] sNil := pss_nil.imp fun D sh H ⟨W, sl, st, hr, hs, p⟩ => p W sh H rfl .refl hr hs
theorem gss_one {s : Stmt} {a : MS} (h : GS X Wx s a) : GSs X Wx [s] a := pss_one h
theorem gss_cons {s : Stmt} {r : List Stmt} {a b : MS} (h : GS X Wx s a) (hr : GSs X Wx r b) : GSs X Wx (s :: r) (sSeq a b) := by
  refine (pss_cons h hr).imp fun D sh H ⟨W, sl, st, hr, hs, p⟩ => ?_
  refine ⟨W, sl, st, hr, hs, ?_⟩
  unfold sSeq at p
  cases e : a sl st with
  | nx sl1 st1 =>
    rw [e] at p
    intro W1 sh1 H1 l1 e1 h1 s1
    have q := PostS.ext e1 p
    rw [← l1] at q
    exact ⟨W1, sl1, st1, h1, s1, q⟩
  | rt d st1 => rw [e] at p; exact p
  | bk a b => rw [e] at p; exact p
  | ct a b => rw [e] at p; exact p
  | exc a b => rw [e] at p; exact p
  | bad => rw [e] at p; exact p
abbrev MG := Pv.D → Sl → Sto → R Sl
abbrev MGs := List Pv.D → Sl → Sto → R Sl
def PostG (N : Nv) (n : Nat) (Wx : WX) (W : Wd) (H : Hp) (Q : L2.St → Hp → Prop) : R Sl → Prop
  | .ok sl st => ∀ W' sh' H', sh'.length = n → Ext W H W' H' → HR N.K W' H' st → SR N.K W' sh' sl → Q sh' H'
  | .exc x st => ∀ W' (sh' : L2.St) cls dd H', sh'.length = n → Ext W H W' H' → HR N.K W' H' st → repX N W' H' cls dd x → Wx cls dd sh' H'
  | .bad => False
theorem PostG.ext {Q : L2.St → Hp → Prop} {r : R Sl} (e : Ext W H W' H') (h : PostG N n Wx W H Q r) : PostG N n Wx W' H' Q r := by
  cases r with
  | ok sl st => exact fun W2 s2 H2 l e2 a b => h W2 s2 H2 l (e.trans e2) a b
  | exc x st => exact fun W2 s2 c dd H2 l e2 a b => h W2 s2 c dd H2 l (e.trans e2) a b
  | bad => exact h
def rdG (N : Nv) (Wx : WX) (t : MG) : TG := fun v sh H Q => ∃ W sl st d, HR N.K W H st ∧ SR N.K W sh sl ∧ rep N.K W v d ∧ PostG N sh.length Wx W H Q (t d sl st)
def GG (X : Cx) (Wx : WX) (tg : Expr) (t : MG) : Prop := PG X tg (rdG (nv X) Wx t)
theorem _root_.L2.PG.imp {X : Cx} {e : Expr} {t t' : TG} (h : PG X e t) (i : ∀ v σ H Q, t' v σ H Q → t v σ H Q) : PG X e t' := ⟨fun pins s σ H v u Q I r q => h.run pins s σ H v u Q I r (i v σ H Q q)⟩
def rdGs (N : Nv) (Wx : WX) (t : MGs) : TGs := fun vs sh H Q => ∃ W sl st ds, HR N.K W H st ∧ SR N.K W sh sl ∧ repL N.K W vs ds ∧ PostG N sh.length Wx W H Q (t ds sl st)
def GGs (X : Cx) (Wx : WX) (tgs : List Expr) (t : MGs) : Prop := PGs X tgs (rdGs (nv X) Wx t)
theorem _root_.L2.PGs.imp {X : Cx} {e : List Expr} {t t' : TGs} (h : PGs X e t) (i : ∀ v σ H Q, t' v σ H Q → t v σ H Q) : PGs X e t' := ⟨fun pins s σ H v u Q I r q => h.run pins s σ H v u Q I r (i v σ H Q q)⟩
def tgName (i : Nat) : MG := fun d sl st => .ok (sl.set i (some d)) st
def tgNil : MGs := fun ds sl st => match ds with | [] => .ok sl st | _ => .bad
def tgCons (a : MG) (r : MGs) : MGs := fun ds sl st => match ds with | d :: ds => (a d sl st).bind (r ds) | _ => .bad
/-- a tuple's (or a list's) items, one for each target -/
def tgTup (n : Nat) (t : MGs) : MG := fun d sl st => match d with | .tuple ds => if ds.length = n then t ds sl st else .bad | _ => .bad
theorem gg_name {x : Str} {pos : Pos} (g : Gd0 X) (i : Nat) (hi : X.N[i]? = some x := by rfl) (hx : Loc X.env.scope x := by first | exact Or.inl rfl | exact Or.inr rfl) (hf : X.fn x = true ∨ X.env.scope.names.lookup x = some .local := by first | exact .inl rfl | exact .inr rfl) : GG X Wx (.Name x pos) (tgName i) := by
  refine (pg_name g.nd hi hx hf).imp fun v sh H Q ⟨W, sl, st, d, hr, hs, r, p⟩ => ?_
  exact p W _ H (by simp) .refl hr (hs.set i r)
theorem ggs_nil : GGs X Wx [] tgNil := by
  refine pgs_nil.imp fun vs sh H Q ⟨W, sl, st, ds, hr, hs, r, p⟩ => ?_
  cases ds with
  | nil => cases r; exact ⟨rfl, p W _ H rfl .refl hr hs⟩
  | cons _ _ => exact p.elim
theorem ggs_cons {e : Expr} {es : List Expr} {a : MG} {r : MGs} (ha : GG X Wx e a) (hr : GGs X Wx es r) (h : (assignEach (e :: es) X.env).map (·.2) = assign e X.env :: (assignEach es X.env).map (·.2) := by rfl) : GGs X Wx (e :: es) (tgCons a r) := by
  refine (pgs_cons ha hr h).imp fun vs sh H Q ⟨W, sl, st, ds, hr, hs, rl, p⟩ => ?_
  cases ds with
  | nil => exact p.elim
  | cons d ds =>
    obtain ⟨v, us, e, r1, l1⟩ := rl
    refine ⟨v, us, e, W, sl, st, d, hr, hs, r1, ?_⟩
    unfold tgCons at p
    simp only at p
    cases q : a d sl st with
    | ok sl1 st1 =>
      rw [q] at p
      intro W1 sh1 H1 ln e1 h1 s1
      have p1 := PostG.ext e1 p
      rw [← ln] at p1
      exact ⟨W1, sl1, st1, ds, h1, s1, e1.repL l1, p1⟩
    | exc a b => rw [q] at p; exact p
    | bad => rw [q] at p; exact p
theorem gg_tup {es : List Expr} {k n : Nat} {t : MGs} {pos : Pos} (g : Gd X) (h : GGs X Wx es t) (hn : (assignEach es X.env).length = n := by rfl) (hst : (assignEach es X.env).findIdx? (·.1) = none := by rfl) : GG X Wx (.Tuple es k pos) (tgTup n t) := by
  refine (pg_tup g.calm h hn hst).imp fun v sh H Q ⟨W, sl, st, d, hr, hs, r, p⟩ => ?_
  unfold tgTup at p
  split at p
  · rename_i ds
    split at p
    · rename_i hl
      obtain ⟨a, xs, e, f, l⟩ := r
      exact ⟨a, xs, e, .inl (.inl (hr.sub _ _ f)), by rw [repL_length l]; exact hl, W, sl, st, ds, hr, hs, l, p⟩
    · exact p.elim
  · exact p.elim
/-- o[i] = v, the store behind it -/
def setO (st : Sto) (o i v : Pv.D) : Option Sto :=
  match o with
  | .dict [(.int r, .none)] => (match st[r.toNat]? with
    | some (.dct kvs) => if kvs.length < sizeLine then (keyOf i).map fun k => st.set r.toNat (.dct (putD kvs k v)) else none
    | some (.dctT kvs) => (match i with | .tuple ds => if kvs.length < sizeLine then (keysOf ds).map fun k => st.set r.toNat (.dctT (putD kvs k v)) else none | _ => none)
    | some (.lst ds) => (match i with | .int k => (ixN ds.length k).map fun j => st.set r.toNat (.lst (ds.set j v)) | _ => none)
    | _ => none)
  | _ => none
theorem setO_rep {o i v : V} {od id vd : Pv.D} {st' : Sto} (hr : HR N.K W H st) (ro : rep N.K W o od) (ri : rep N.K W i id) (rv : rep N.K W v vd) (e : setO st od id vd = some st') :
    ∃ H', Ext W H W H' ∧ HR N.K W H' st' ∧ ∀ Q : Hp → Prop, Q H' → rSetL o i v H Q ∨ rSetD o i v H Q := by
  unfold setO at e
  split at e
  · rename_i j
    rcases rep_dict ro with ⟨r, a, e1, e2, e3⟩ | ⟨ds', a, xs, e1, _, _⟩ | ⟨ds', a, xs, e1, _, _⟩ | ⟨ae, ade, ce, nse, fse, he⟩
    rotate_left
    · cases e1
    · cases e1
    · cases he
    have ei : j = (r : Int) := by injection e1 with q1 _; injection q1 with q2 _; injection q2
    subst ei
    rw [Int.toNat_natCast] at e
    obtain ⟨m, hm, _, ho⟩ := hr.at e3
    rw [hm] at e
    subst e2
    cases m with
    | dct kvs =>
      obtain ⟨ks, h1, h2⟩ := ho
      simp only at e
      split at e
      · rename_i hl
        obtain ⟨k, hk, eo⟩ := Option.map_eq_some_iff.mp e
        subst eo
        have := keyOf_rep ri hk
        subst this
        obtain ⟨h3, x3⟩ := hr.set (o := .dK (putK ks k v)) (m := .dct (putD kvs k vd)) e3 hm ⟨_, upd_same, put_rep h2 k rv⟩
        exact ⟨_, x3, h3, fun Q q => .inr ⟨a, _, rfl, .inl ⟨ks, k, h1, rfl, by rw [repP_length h2]; exact hl, rfl⟩, q⟩⟩
      · cases e
    | dctT kvs =>
      obtain ⟨ks, h1, h2⟩ := ho
      simp only at e
      split at e
      · rename_i ds
        split at e
        · rename_i hl
          obtain ⟨k, hk, eo⟩ := Option.map_eq_some_iff.mp e
          subst eo
          obtain ⟨b, xs, q1, q2, q3⟩ := ri
          subst q1
          have := keysOf_rep q3 hk
          subst this
          obtain ⟨h3, x3⟩ := hr.set (o := .dT (putK ks k v)) (m := .dctT (putD kvs k vd)) e3 hm ⟨_, upd_same, put_rep h2 k rv⟩
          exact ⟨_, x3, h3, fun Q q => .inr ⟨a, _, rfl, .inr ⟨ks, k, b, h1, rfl, hr.sub _ _ q2, by rw [repP_length h2]; exact hl, rfl⟩, q⟩⟩
        · cases e
      · cases e
    | lst ds =>
      obtain ⟨xs, h1, h2⟩ := ho
      simp only at e
      split at e
      · rename_i k
        obtain ⟨j, hj, eo⟩ := Option.map_eq_some_iff.mp e
        subst eo
        cases ri
        obtain ⟨h3, x3⟩ := hr.set (o := .lst (xs.set j v)) (m := .lst (ds.set j vd)) e3 hm ⟨_, upd_same, repL_set j h2 rv⟩
        exact ⟨_, x3, h3, fun Q q => .inl ⟨a, xs, k, j, rfl, rfl, h1, by rw [repL_length h2]; exact hj, q⟩⟩
      · cases e
    | ro ds => cases e
    | tb _ _ => cases e
  · cases e
theorem PSet.or {t t' : TSet} (h : PSet X t) (h' : PSet X t') : PSet X (fun o i v H Q => t o i v H Q ∨ t' o i v H Q) := by
  intro pins s σ H o i v ov iv u Q I ro ri rv q
  rcases q with q | q
  · exact h pins s σ H o i v ov iv u Q I ro ri rv q
  · exact h' pins s σ H o i v ov iv u Q I ro ri rv q
def tgSub (mo mi : M) : MG := fun d sl st => (mo sl st).bind fun o st => (mi sl st).bind fun i st => match setO st o i d with | some st' => .ok sl st' | none => .bad
theorem rd_bindG {m : M} {f : Pv.D → Sto → R Sl} {Q : L2.St → Hp → Prop} {Q2 : VK} (hr : HR N.K W H st) (hs : SR N.K W sh sl)
    (h : PostG N sh.length Wx W H Q ((m sl st).bind f))
    (k : ∀ d st1 W1 v H1, m sl st = .ok d st1 → Ext W H W1 H1 → HR N.K W1 H1 st1 → SR N.K W1 sh sl → rep N.K W1 v d → PostG N sh.length Wx W1 H1 Q (f d st1) → Q2 v H1) : rd N Wx m sh H Q2 := by
  refine ⟨W, sl, st, hr, hs, ?_⟩
  cases e : m sl st with
  | ok d st1 => rw [e] at h; exact fun W1 v H1 e1 h1 r1 => k d st1 W1 v H1 e e1 h1 (hs.ext e1) r1 (PostG.ext e1 h)
  | exc x st1 => rw [e] at h; exact fun W1 c dd H1 e1 a b => h W1 sh c dd H1 rfl e1 a b
  | bad => rw [e] at h; exact h
theorem gg_sub {o i : Expr} {mo mi : M} {tpos : Pos} (g : Gd X) (ho : GE X Wx o mo) (hi : GE X Wx i mi) (ha : ∀ v, assign (.Subscript o i tpos) X.env v = (do
      let ov ← holding [v] (eval o X.env)
      let iv ← holding [v, ov] (eval i X.env)
      standAt tpos
      holding [v, ov, iv] (setItem ov iv v)
      release [v, ov, iv] []) := by intro _; rfl) : GG X Wx (.Subscript o i tpos) (tgSub mo mi) := by
  refine (pg_sub (ha := ha) ho hi (PSet.or set_list (set_dict (by have := g.un; omega)))).imp fun v sh H Q ⟨W, sl, st, d, hr, hs, r, p⟩ => ?_
  refine rd_bindG hr hs p fun d1 st1 W1 v1 H1 e1 x1 h1 s1 r1 p1 => ?_
  refine rd_bindG h1 s1 p1 fun d2 st2 W2 v2 H2 e2 x2 h2 s2 r2 p2 => ?_
  cases e : setO st2 d1 d2 d with
  | none => rw [e] at p2; exact p2.elim
  | some st3 =>
    rw [e] at p2
    obtain ⟨H3, x3, h3, k⟩ := setO_rep h2 (x2.rep r1) r2 (x2.rep (x1.rep r)) e
    exact k _ (p2 W2 sh H3 rfl x3 h3 (s2.ext x3))
/-- target = e -/
def sAsg (m : M) (t : MG) : MS := fun sl st => (m sl st).thenS fun d st => (t d sl st).thenS .nx
theorem PostG.of {r : R Sl} (p : PostS N n Wx W H D (r.thenS .nx)) : PostG N n Wx W H D.nx r := by
  cases r with
  | ok a b => exact p
  | exc a b => exact p
  | bad => exact p
theorem asg_read {m : M} {t : MG} (hr : HR N.K W H st) (hs : SR N.K W sh sl) (p : PostS N sh.length Wx W H D (sAsg m t sl st)) : tAsg (rd N Wx m) (rdG N Wx t) D sh H := by
  refine rd_bindS hr hs p fun d1 st1 W1 v1 H1 e1 x1 h1 s1 r1 p1 => ?_
  exact ⟨W1, sl, st1, d1, h1, s1, r1, .of p1⟩
theorem gs_asg {tg e : Expr} {m : M} {t : MG} {pos : Pos} (he : GE X Wx e m) (hg : GG X Wx tg t) (hs : swapsWithSole [tg] e pos.line X.env = pure false := by rfl) (hw : swappedStores [tg] e X.env = pure none := by rfl)
    (h1 : (assignEach [tg] X.env).map (·.2) = [assign tg X.env] := by rfl) : GS X Wx (.Assign [tg] e pos) (sAsg m t) :=
  (ps_asg he hg hs hw h1).imp fun D sh H ⟨W, sl, st, hr, hs, p⟩ => asg_read hr hs p
end
end Pv
set_option Elab.async false
set_option linter.all false
set_option maxRecDepth 100000
set_option maxHeartbeats 4000000
namespace Pv
open PySem PySem.Spec L2
open PyProof.Rows hiding St
section
variable {X : Cx} {Wx : WX} {N : Nv} {W W' : Wd} {H H' : Hp} {st : Sto} {sl : Sl} {sh : L2.St} {n : Nat} {D D' : Ends}
def set2 (i j : Nat) (sl : Sl) : List Pv.D → Sto → RS
  | [a, b], st => .nx ((sl.set i (some a)).set j (some b)) st
  | _, _ => .bad
def set3 (i j l : Nat) (sl : Sl) : List Pv.D → Sto → RS
  | [a, b, c], st => .nx (((sl.set i (some a)).set j (some b)).set l (some c)) st
  | _, _ => .bad
theorem set2_inv {i j : Nat} {ds : List Pv.D} {vs : List V} (hr : HR N.K W H st) (hs : SR N.K W sh sl) (r : repL N.K W vs ds) (p : PostS N sh.length Wx W H D (set2 i j sl ds st)) : ∃ v w, vs = [v, w] ∧ D.nx ((sh.set i (some v)).set j (some w)) H := by
  cases ds with
  | nil => exact p.elim
  | cons d ds =>
    cases ds with
    | nil => exact p.elim
    | cons e ds =>
      cases ds with
      | cons _ _ => exact p.elim
      | nil =>
        obtain ⟨v, us, q1, r, w, us2, q2, r2, q3⟩ := r
        subst q3; subst q2; subst q1
        exact ⟨v, w, rfl, p W _ H (by simp) .refl hr ((hs.set i r).set j r2)⟩
theorem set3_inv {i j l : Nat} {ds : List Pv.D} {vs : List V} (hr : HR N.K W H st) (hs : SR N.K W sh sl) (r : repL N.K W vs ds) (p : PostS N sh.length Wx W H D (set3 i j l sl ds st)) : ∃ u v w, vs = [u, v, w] ∧ D.nx (((sh.set i (some u)).set j (some v)).set l (some w)) H := by
  cases ds with
  | nil => exact p.elim
  | cons d ds =>
    cases ds with
    | nil => exact p.elim
    | cons e ds =>
      cases ds with
      | nil => exact p.elim
      | cons f ds =>
        cases ds with
        | cons _ _ => exact p.elim
        | nil =>
          obtain ⟨v, us, q1, r, w, us2, q2, r2, x, us3, q3, r3, q4⟩ := r
          subst q4; subst q3; subst q2; subst q1
          exact ⟨v, w, x, rfl, p W _ H (by simp) .refl hr (((hs.set i r).set j r2).set l r3)⟩
def sPar2 (i j : Nat) (ms : Ms) : MS := fun sl st => (ms sl st).thenS (set2 i j sl)
def sPar3 (i j l : Nat) (ms : Ms) : MS := fun sl st => (ms sl st).thenS (set3 i j l sl)
theorem rdL_bindS {m : Ms} {f : List Pv.D → Sto → RS} {Q2 : List V → Hp → Prop} (hr : HR N.K W H st) (hs : SR N.K W sh sl)
    (h : PostS N sh.length Wx W H D ((m sl st).thenS f))
    (k : ∀ ds st1 W1 vs H1, m sl st = .ok ds st1 → Ext W H W1 H1 → HR N.K W1 H1 st1 → SR N.K W1 sh sl → repL N.K W1 vs ds → PostS N sh.length Wx W1 H1 D (f ds st1) → Q2 vs H1) : rdL N Wx m sh H Q2 := by
  refine ⟨W, sl, st, hr, hs, ?_⟩
  cases e : m sl st with
  | ok d st1 => rw [e] at h; exact fun W1 v H1 e1 h1 r1 => k d st1 W1 v H1 e e1 h1 (hs.ext e1) r1 (PostS.ext e1 h)
  | exc x st1 => rw [e] at h; exact fun W1 c dd H1 e1 a b => h W1 sh c dd H1 rfl e1 a b
  | bad => rw [e] at h; exact h
theorem par2_read {i j : Nat} {ms : Ms} (hr : HR N.K W H st) (hs : SR N.K W sh sl) (p : PostS N sh.length Wx W H D (sPar2 i j ms sl st)) : tPar i j (rdL N Wx ms) D sh H :=
  rdL_bindS hr hs p fun ds st1 W1 vs H1 e1 x1 h1 s1 r1 p1 => set2_inv h1 s1 r1 p1
theorem par3_read {i j l : Nat} {ms : Ms} (hr : HR N.K W H st) (hs : SR N.K W sh sl) (p : PostS N sh.length Wx W H D (sPar3 i j l ms sl st)) : tPar3 i j l (rdL N Wx ms) D sh H :=
  rdL_bindS hr hs p fun ds st1 W1 vs H1 e1 x1 h1 s1 r1 p1 => set3_inv h1 s1 r1 p1
theorem gs_par2 {i j : Nat} {x y : Str} {a b : Expr} {ms : Ms} {px py pt pos : Pos} {kt k2 pt2} (g : Gd X) (ha : GA X Wx [a, b] ms) (hi : X.N[i]? = some x) (hj : X.N[j]? = some y) (hij : i ≠ j)
    (hx : X.env.scope.names.lookup x = some .local) (hy : X.env.scope.names.lookup y = some .local)
    (hw : swappedStores [.Tuple [.Name x px, .Name y py] kt pt] (.Tuple [a, b] k2 pt2) X.env = pure (some [x, y]))
    (hs : swapsWithSole [.Tuple [.Name x px, .Name y py] kt pt] (.Tuple [a, b] k2 pt2) pos.line X.env = pure false) :
    GS X Wx (.Assign [.Tuple [.Name x px, .Name y py] kt pt] (.Tuple [a, b] k2 pt2) pos) (sPar2 i j ms) :=
  PS.imp (ps_par g.calm g.nd hi hj hij hx hy ha hw hs) fun D sh H ⟨W, sl, st, hr, hs, p⟩ => par2_read hr hs p
theorem gs_par3 {i j l : Nat} {x y z : Str} {a b c : Expr} {ms : Ms} {px py pz pt pos : Pos} {kt k2 pt2} (g : Gd X) (ha : GA X Wx [a, b, c] ms) (hi : X.N[i]? = some x) (hj : X.N[j]? = some y) (hl : X.N[l]? = some z) (hij : i ≠ j) (hil : i ≠ l) (hjl : j ≠ l)
    (hx : X.env.scope.names.lookup x = some .local) (hy : X.env.scope.names.lookup y = some .local) (hz : X.env.scope.names.lookup z = some .local)
    (hw : swappedStores [.Tuple [.Name x px, .Name y py, .Name z pz] kt pt] (.Tuple [a, b, c] k2 pt2) X.env = pure (some [x, y, z]))
    (hs : swapsWithSole [.Tuple [.Name x px, .Name y py, .Name z pz] kt pt] (.Tuple [a, b, c] k2 pt2) pos.line X.env = pure false) :
    GS X Wx (.Assign [.Tuple [.Name x px, .Name y py, .Name z pz] kt pt] (.Tuple [a, b, c] k2 pt2) pos) (sPar3 i j l ms) :=
  PS.imp (ps_par3 g.calm g.nd hi hj hl hij hil hjl hx hy hz ha hw hs) fun D sh H ⟨W, sl, st, hr, hs, p⟩ => par3_read hr hs p
def sExpr (m : M) : MS := fun sl st => (m sl st).thenS fun _ st => .nx sl st
theorem gs_expr {e : Expr} {m : M} {pos : Pos} (he : GE X Wx e m) (hs : swapsWith e none pos.line X.env = pure false := by rfl) : GS X Wx (.Expr e pos) (sExpr m) := by
  refine PS.imp (ps_expr he hs) fun D sh H ⟨W, sl, st, hr, hs, p⟩ => ?_
  exact rd_bindS hr hs p fun d1 st1 W1 v1 H1 e1 x1 h1 s1 r1 p1 => p1 W1 sh H1 rfl .refl h1 s1
def sRet (m : M) : MS := fun sl st => (m sl st).thenS fun d st => .rt d st
theorem gs_ret {e : Expr} {m : M} {pos : Pos} (he : GE X Wx e m) : GS X Wx (.Return (some e) pos) (sRet m) := by
  refine PS.imp (ps_ret he) fun D sh H ⟨W, sl, st, hr, hs, p⟩ => ?_
  exact rd_bindS hr hs p fun d1 st1 W1 v1 H1 e1 x1 h1 s1 r1 p1 => p1 W1 v1 H1 .refl h1 r1
def sRetN : MS := fun sl st => .rt .none st
def sIf (t : MT) (a b : MS) : MS := fun sl st => (t sl st).thenS fun k st => if k = true then a sl st else b sl st
theorem gs_if {c : Expr} {p q : List Stmt} {t : MT} {a b : MS} {pos : Pos} (hc : GT X Wx c t) (ha : GSs X Wx p a) (hb : GSs X Wx q b) : GS X Wx (.If c p q pos) (sIf t a b) := by
  refine PS.imp (ps_if hc ha hb) fun D sh H ⟨W, sl, st, hr, hs, p⟩ => ?_
  refine rdT_bindS hr hs p fun k st1 W1 H1 e1 x1 h1 s1 p1 => ?_
  cases k with
  | true => rw [if_pos rfl] at p1 ⊢; exact ⟨W1, sl, st1, h1, s1, p1⟩
  | false => rw [if_neg Bool.false_ne_true] at p1 ⊢; exact ⟨W1, sl, st1, h1, s1, p1⟩
mutual
def sameD : Pv.D → Pv.D → Bool
  | .none, .none => true
  | .bool a, .bool b => a == b
  | .int a, .int b => decide (a = b)
  | .str a, .str b => decide (a = b)
  | .list a, .list b => sameL a b
  | .tuple a, .tuple b => sameL a b
  | .dict a, .dict b => sameP a b
  | _, _ => false
def sameL : List Pv.D → List Pv.D → Bool
  | [], [] => true
  | a :: as, b :: bs => sameD a b && sameL as bs
  | _, _ => false
def sameP : List (Pv.D × Pv.D) → List (Pv.D × Pv.D) → Bool
  | [], [] => true
  | (a, c) :: as, (b, d) :: bs => sameD a b && (sameD c d && sameP as bs)
  | _, _ => false
end
mutual
theorem sameD_eq : ∀ a b : Pv.D, sameD a b = true → a = b
  | .none, b, h => by cases b <;> first | rfl | cases h
  | .bool x, b, h => by cases b <;> first | (simp only [sameD, beq_iff_eq] at h; rw [h]) | cases h
  | .int x, b, h => by cases b <;> first | (simp only [sameD, decide_eq_true_eq] at h; rw [h]) | cases h
  | .str x, b, h => by cases b <;> first | (simp only [sameD, decide_eq_true_eq] at h; rw [h]) | cases h
  | .list x, b, h => by cases b <;> first | (simp only [sameD] at h; rw [sameL_eq _ _ h]) | cases h
  | .tuple x, b, h => by cases b <;> first | (simp only [sameD] at h; rw [sameL_eq _ _ h]) | cases h
  | .dict x, b, h => by cases b <;> first | (simp only [sameD] at h; rw [sameP_eq _ _ h]) | cases h
theorem sameL_eq : ∀ a b : List Pv.D, sameL a b = true → a = b
  | [], b, h => by cases b <;> first | rfl | cases h
  | x :: xs, b, h => by
    cases b with
    | nil => cases h
    | cons y ys =>
      simp only [sameL, Bool.and_eq_true] at h
      rw [sameD_eq _ _ h.1, sameL_eq _ _ h.2]
theorem sameP_eq : ∀ a b : List (Pv.D × Pv.D), sameP a b = true → a = b
  | [], b, h => by cases b <;> first | rfl | cases h
  | (x, z) :: xs, b, h => by
    cases b with
    | nil => cases h
    | cons y ys =>
      obtain ⟨y1, y2⟩ := y
      simp only [sameP, Bool.and_eq_true] at h
      rw [sameD_eq _ _ h.1, sameD_eq _ _ h.2.1, sameP_eq _ _ h.2.2]
end
mutual
theorem sameD_refl : ∀ a : Pv.D, sameD a a = true
  | .none => rfl
  | .bool x => by simp [sameD]
  | .int x => by simp [sameD]
  | .str x => by simp [sameD]
  | .list x => by simp only [sameD]; exact sameL_refl x
  | .tuple x => by simp only [sameD]; exact sameL_refl x
  | .dict x => by simp only [sameD]; exact sameP_refl x
theorem sameL_refl : ∀ a : List Pv.D, sameL a a = true
  | [] => rfl
  | x :: xs => by simp only [sameL, sameD_refl x, sameL_refl xs]; rfl
theorem sameP_refl : ∀ a : List (Pv.D × Pv.D), sameP a a = true
  | [] => rfl
  | (x, z) :: xs => by simp only [sameP, sameD_refl x, sameD_refl z, sameP_refl xs]; rfl
end
structure Src where
  items : List Pv.D
  /-- what must stay true of the store while the walk goes on -/
  keep : Sto → Prop
  [dec : DecidablePred keep]
instance (s : Src) : DecidablePred s.keep := s.dec
abbrev MI := Sl → Sto → R Src
def WalkK (K : PySem.W.Frag) (J : It) (W0 : Wd) (s : Src) : Prop := ∀ W H st, HR K W H st → (∀ b o, W0.F b = some o → W.F b = some o) → (∀ (r : Nat) a, W0.rho[r]? = some a → W.rho[r]? = some a) → s.keep st →
  J.stop s.items.length H ∧ ∀ i d, s.items[i]? = some d → J.go i H ∧ ∀ x H', J.yld i H x H' → ∃ W', Ext W H W' H' ∧ HR K W' H' st ∧ rep K W' x d
def PostI (N : Nv) (n : L2.St) (Wx : WX) (W : Wd) (H : Hp) (Q : It → Hp → Prop) : R Src → Prop
  | .ok s st => ∀ W' H' J, Ext W H W' H' → HR N.K W' H' st → WalkK N.K J W' s → Q J H'
  | .exc x st => ∀ W' cls dd H', Ext W H W' H' → HR N.K W' H' st → repX N W' H' cls dd x → Wx cls dd n H'
  | .bad => False
theorem PostI.ext {Q : It → Hp → Prop} {r : R Src} (e : Ext W H W' H') (h : PostI N sh Wx W H Q r) : PostI N sh Wx W' H' Q r := by
  cases r with
  | ok sl st => exact fun W2 H2 J e2 a b => h W2 H2 J (e.trans e2) a b
  | exc x st => exact fun W2 c dd H2 e2 a b => h W2 c dd H2 (e.trans e2) a b
  | bad => exact h
def rdI (N : Nv) (Wx : WX) (m : MI) : TI := fun sh H R => ∃ W sl st, HR N.K W H st ∧ SR N.K W sh sl ∧ PostI N sh Wx W H R (m sl st)
def GI (X : Cx) (Wx : WX) (tg e : Expr) (m : MI) : Prop := PI X tg e (rdI (nv X) Wx m)
theorem _root_.L2.PI.imp {tg e : Expr} {t t' : TI} (h : PI X tg e t) (i : ∀ σ H R, t' σ H R → t σ H R) : PI X tg e t' := ⟨fun pins s σ H R I q => h.run pins s σ H R I (i σ H R q)⟩
theorem _root_.L2.PI.or {tg e : Expr} {t t' : TI} (h : PI X tg e t) (h' : PI X tg e t') : PI X tg e (fun σ H R => t σ H R ∨ t' σ H R) := ⟨fun pins s σ H R I q => q.elim (h.run pins s σ H R I) (h'.run pins s σ H R I)⟩
theorem rd_bindI {m : M} {f : Pv.D → Sto → R Src} {Q : It → Hp → Prop} {Q2 : VK} (hr : HR N.K W H st) (hs : SR N.K W sh sl)
    (h : PostI N sh Wx W H Q ((m sl st).bind f))
    (k : ∀ d st1 W1 v H1, m sl st = .ok d st1 → Ext W H W1 H1 → HR N.K W1 H1 st1 → SR N.K W1 sh sl → rep N.K W1 v d → PostI N sh Wx W1 H1 Q (f d st1) → Q2 v H1) : rd N Wx m sh H Q2 := by
  refine ⟨W, sl, st, hr, hs, ?_⟩
  cases e : m sl st with
  | ok d st1 => rw [e] at h; exact fun W1 v H1 e1 h1 r1 => k d st1 W1 v H1 e e1 h1 (hs.ext e1) r1 (PostI.ext e1 h)
  | exc x st1 => rw [e] at h; exact h
  | bad => rw [e] at h; exact h
/-- the signs of a text -/
def signs (z : Str) : List Pv.D := z.cps.toList.map fun c => .str ⟨#[c]⟩
def always : Sto → Prop := fun _ => True
instance : DecidablePred always := fun _ => .isTrue trivial
def holdsLst (r : Nat) (ds : List Pv.D) : Sto → Prop := fun st => st[r]? = some (.lst ds)
def keptB (r : Nat) (ds : List Pv.D) (st : Sto) : Bool := match st[r]? with | some (.lst es) => sameL es ds | _ => false
theorem kept_iff (r : Nat) (ds : List Pv.D) (st : Sto) : keptB r ds st = true ↔ holdsLst r ds st := by
  unfold keptB holdsLst
  constructor
  · intro h
    split at h
    · rename_i es e; rw [e, sameL_eq es ds h]
    · cases h
  · intro h; rw [h]; exact sameL_refl ds
instance (r : Nat) (ds : List Pv.D) : DecidablePred (holdsLst r ds) := fun st => decidable_of_iff _ (kept_iff r ds st)
/-- the items that a for meets: a list's, a tuple's, a text's signs; a list that may change is not walked while it does -/
def srcOf (d : Pv.D) (st : Sto) : R Src :=
  match d with
  | .list ds => .ok ⟨ds, always⟩ st
  | .tuple ds => .ok ⟨ds, always⟩ st
  | .dict [(.none, .tuple ds)] => .ok ⟨ds, always⟩ st
  | .dict [(.none, .list ds)] => .ok ⟨ds, always⟩ st
  | .str z => .ok ⟨signs z, always⟩ st
  | .dict [(.int r, .none)] => (match st[r.toNat]? with | some (.lst ds) => .ok ⟨ds, holdsLst r.toNat ds⟩ st | _ => .bad)
  | _ => .bad
def mIter (m : M) : MI := fun sl st => (m sl st).bind srcOf
theorem walk_list {a : Addr} {xs : List V} {ds : List Pv.D} {K : PySem.W.Frag} (hf : SqL K W.F a xs) (l : repL K W xs ds) : WalkK K (Itl K a) W ⟨ds, always⟩ := by
  intro W1 H1 st1 h1 f r _
  have hq : SqL K H1 a xs := sqL_mono h1.sub (sqL_mono f hf)
  have l1 : repL K W1 xs ds := repL_mono f r ds l
  refine ⟨⟨xs, hq, by rw [repL_length l]; exact Nat.le_refl _⟩, fun i d hd => ?_⟩
  obtain ⟨v, hv, rv⟩ := repL_get i l1 hd
  refine ⟨⟨xs, v, hq, hv⟩, fun x H' y => ?_⟩
  obtain ⟨e, y⟩ := y
  subst e
  have := y xs hq
  rw [hv] at this
  cases this
  exact ⟨W1, .refl, h1, rv⟩
theorem walk_ref {a : Addr} {r0 : Nat} {ds : List Pv.D} {K : PySem.W.Frag} (hf : W.rho[r0]? = some a) : WalkK K (Itl K a) W ⟨ds, holdsLst r0 ds⟩ := by
  intro W1 H1 st1 h1 f r k
  obtain ⟨m, hm, _, ho⟩ := h1.at (r r0 a hf)
  have k' : st1[r0]? = some (.lst ds) := k
  rw [k'] at hm
  cases hm
  obtain ⟨xs, g1, l1⟩ := ho
  have hq : SqL K H1 a xs := .inl (.inl g1)
  refine ⟨⟨xs, hq, by rw [repL_length l1]; exact Nat.le_refl _⟩, fun i d hd => ?_⟩
  obtain ⟨v, hv, rv⟩ := repL_get i l1 hd
  refine ⟨⟨xs, v, hq, hv⟩, fun x H' y => ?_⟩
  obtain ⟨e, y⟩ := y
  subst e
  have := y xs hq
  rw [hv] at this
  cases this
  exact ⟨W1, .refl, h1, rv⟩
theorem walk_tup {a : Addr} {xs : List V} {ds : List Pv.D} {K : PySem.W.Frag} (hf : ∀ W1 H1 st1, HR K W1 H1 st1 → (∀ b o, W.F b = some o → W1.F b = some o) → SqT K H1 a xs) (l : repL K W xs ds) : WalkK K (Itt K a) W ⟨ds, always⟩ := by
  intro W1 H1 st1 h1 f r _
  have hq : SqT K H1 a xs := hf W1 H1 st1 h1 f
  have l1 : repL K W1 xs ds := repL_mono f r ds l
  refine ⟨⟨xs, hq, by rw [repL_length l]; exact Nat.le_refl _⟩, fun i d hd => ?_⟩
  obtain ⟨v, hv, rv⟩ := repL_get i l1 hd
  refine ⟨⟨xs, v, hq, hv⟩, fun x H' y => ?_⟩
  obtain ⟨e, y⟩ := y
  subst e
  have := y xs hq
  rw [hv] at this
  cases this
  exact ⟨W1, .refl, h1, rv⟩
theorem walk_str {z : Str} {K : PySem.W.Frag} : WalkK K (Its z) W ⟨signs z, always⟩ := by
  intro W1 H1 st1 h1 f r _
  have hl : (signs z).length = z.cps.size := by unfold signs; simp
  refine ⟨by show z.cps.size ≤ (signs z).length; rw [hl]; exact Nat.le_refl _, fun i d hd => ?_⟩
  have hi : i < z.cps.size := by rw [← hl]; exact (List.getElem?_eq_some_iff.mp hd).1
  refine ⟨hi, fun x H' y => ?_⟩
  obtain ⟨e, c, hc, ex⟩ := y
  subst e; subst ex
  have : signs z = z.cps.toList.map fun c => PyData.str ⟨#[c]⟩ := rfl
  rw [this, List.getElem?_map] at hd
  have hc' : z.cps.toList[i]? = some c := by simpa using hc
  rw [hc'] at hd
  cases hd
  exact ⟨W1, .refl, h1, rfl⟩
theorem gi_iter {tg ea : Expr} {ma : M} (ha : GE X Wx ea ma) : GI X Wx tg ea (mIter ma) := by
  refine PI.imp (PI.or (PI.or (pi_list ha) (pi_tup ha)) (pi_str ha)) fun sh H R ⟨W, sl, st, hr, hs, p⟩ => ?_
  cases e1 : ma sl st with
  | bad => unfold mIter at p; rw [e1] at p; exact p.elim
  | exc x s2 =>
    refine .inl (.inl (rd_bindI hr hs p fun d1 st1 W1 v1 H1 e2 => ?_))
    rw [e1] at e2; cases e2
  | ok d st1 =>
    cases d with
    | list ds =>
      refine .inl (.inl (rd_bindI hr hs p fun d1 st1' W1 v1 H1 e2 x1 h1 s1 r1 p1 => ?_))
      rw [e1] at e2; cases e2
      obtain ⟨a, xs, q1, q2, l⟩ := r1
      exact ⟨a, q1, ⟨xs, .inl (.inl (h1.sub _ _ q2))⟩, p1 W1 H1 _ .refl h1 (walk_list (.inl (.inl q2)) l)⟩
    | tuple ds =>
      refine .inl (.inr (rd_bindI hr hs p fun d1 st1' W1 v1 H1 e2 x1 h1 s1 r1 p1 => ?_))
      rw [e1] at e2; cases e2
      obtain ⟨a, xs, q1, q2, l⟩ := r1
      exact ⟨a, q1, ⟨xs, .inl (.inl (h1.sub _ _ q2))⟩, p1 W1 H1 _ .refl h1 (walk_tup (fun W2 H2 st2 h2 f => .inl (.inl (h2.sub _ _ (f _ _ q2)))) l)⟩
    | str z =>
      refine .inr (rd_bindI hr hs p fun d1 st1' W1 v1 H1 e2 x1 h1 s1 r1 p1 => ?_)
      rw [e1] at e2; cases e2
      cases r1
      exact ⟨z, rfl, p1 W1 H1 _ .refl h1 walk_str⟩
    | dict kvs =>
      by_cases hk : ∃ ds', kvs = [(.none, .tuple ds')]
      · obtain ⟨ds0, hk⟩ := hk
        subst hk
        refine .inl (.inr (rd_bindI hr hs p fun d1 st1' W1 v1 H1 e2 x1 h1 s1 r1 p1 => ?_))
        rw [e1] at e2; cases e2
        obtain ⟨a, xs, f2, f3, f4⟩ := r1
        exact ⟨a, f2, ⟨xs, f3.T h1.sub⟩, p1 W1 H1 _ .refl h1 (walk_tup (fun W2 H2 st2 h2 f => f3.T fun b o e => h2.sub _ _ (f b o e)) f4)⟩
      · refine .inl (.inl (rd_bindI hr hs p fun d1 st1' W1 v1 H1 e2 x1 h1 s1 r1 p1 => ?_))
        rw [e1] at e2; cases e2
        rcases rep_dict r1 with ⟨r, a, f1, f2, f3⟩ | ⟨ds', a, xs, f1, f2, f3, f4⟩ | ⟨ds', a, xs, f1, f2, f3, f4⟩ | ⟨ae, ade, ce, nse, fse, he⟩
        rotate_left
        · exact absurd ⟨_, f1⟩ hk
        · subst f1
          exact ⟨a, f2, ⟨xs, sqL_mono h1.sub f3⟩, p1 W1 H1 _ .refl h1 (walk_list f3 f4)⟩
        · subst he; exact p1.elim
        subst f1
        unfold srcOf at p1
        simp only [Int.toNat_natCast] at p1
        obtain ⟨m, hm, _, ho⟩ := h1.at f3
        rw [hm] at p1
        cases m with
        | lst ds =>
          obtain ⟨xs, g1, g2⟩ := ho
          exact ⟨a, f2, ⟨xs, .inl (.inl g1)⟩, p1 W1 H1 _ .refl h1 (walk_ref f3)⟩
        | ro _ => exact p1.elim
        | dct _ => exact p1.elim
        | dctT _ => exact p1.elim
        | tb _ _ => exact p1.elim
    | none => unfold mIter at p; rw [e1] at p; exact p.elim
    | bool _ => unfold mIter at p; rw [e1] at p; exact p.elim
    | int _ => unfold mIter at p; rw [e1] at p; exact p.elim
/-- range(n), range(a, b) -/
def rngD (lo : Int) (n : Nat) : List Pv.D := (List.range n).map fun (k : Nat) => PyData.int (lo + (k : Int))
theorem rngD_length (lo : Int) (n : Nat) : (rngD lo n).length = n := by unfold rngD; simp
theorem walk_range {K : PySem.W.Frag} {lo : Int} {n : Nat} : WalkK K (Itr lo n) W ⟨rngD lo n, always⟩ := by
  intro W1 H1 st1 h1 f r _
  refine ⟨by show n ≤ (rngD lo n).length; rw [rngD_length]; exact Nat.le_refl _, fun i d hd => ?_⟩
  have hi : i < n := by rw [← rngD_length lo n]; exact (List.getElem?_eq_some_iff.mp hd).1
  refine ⟨hi, fun x H' y => ?_⟩
  obtain ⟨e, ex⟩ := y
  subst e; subst ex
  have hx : (rngD lo n)[i]? = some (.int (lo + i)) := by unfold rngD; rw [List.getElem?_map, List.getElem?_range hi]; rfl
  rw [hx] at hd
  cases hd
  exact ⟨W1, .refl, h1, rfl⟩
def inR62 (j : Int) : Bool := decide (-(2 ^ 62) ≤ j ∧ j < 2 ^ 62)
def fRng1 (d : Pv.D) (st : Sto) : R Src := match d with | .int j => if inR62 j = true then .ok ⟨rngD 0 j.toNat, always⟩ st else .bad | _ => .bad
def fRng2 (c d : Pv.D) (st : Sto) : R Src := match c with
  | .int i => (match d with | .int j => if inR62 i = true ∧ inR62 j = true then .ok ⟨rngD i (j - i).toNat, always⟩ st else .bad | _ => .bad)
  | _ => .bad
def mRng1 (a : M) : MI := fun sl st => (a sl st).bind fRng1
def mRng2 (a b : M) : MI := fun sl st => (a sl st).bind fun x st => (b sl st).bind fun y st => fRng2 x y st
theorem gi_range1 {tg ea : Expr} {ma : M} {p pos : Pos} (hm : X.mg "range" = none) (ha : GE X Wx ea ma) (hg : Gl X "range" := by rfl) (hs : starEach [ea] X.env = [(false, eval ea X.env)] := by rfl)
    (hs1 : starEach (ea :: []) X.env = (false, eval ea X.env) :: starEach [] X.env := by rfl) : GI X Wx tg (.Call (.Name "range" p) [ea] [] pos) (mRng1 ma) := by
  refine PI.imp (pi_range1 hg hm (pa_cons ha pa_nil hs1) hs) fun sh H R ⟨W, sl, st, hr, hs, p⟩ => ?_
  refine rd_bindI hr hs p fun d1 st1 W1 v1 H1 e1 x1 h1 s1 r1 p1 => ?_
  cases d1 with
  | int j =>
    cases r1
    unfold fRng1 at p1
    simp only at p1
    split at p1
    · rename_i hj
      obtain ⟨j1, j2⟩ := of_decide_eq_true hj
      exact ⟨j, rfl, j1, j2, p1 W1 H1 _ .refl h1 walk_range⟩
    · exact p1.elim
  | _ => exact p1.elim
theorem gi_range2 {tg ea eb : Expr} {ma mb : M} {p pos : Pos} (hm : X.mg "range" = none) (ha : GE X Wx ea ma) (hb : GE X Wx eb mb) (hg : Gl X "range" := by rfl) (hs : starEach [ea, eb] X.env = [(false, eval ea X.env), (false, eval eb X.env)] := by rfl) (hs2 : starEach [eb] X.env = [(false, eval eb X.env)] := by rfl)
    (hs1 : starEach (ea :: [eb]) X.env = (false, eval ea X.env) :: starEach [eb] X.env := by rfl) (hs0 : starEach (eb :: []) X.env = (false, eval eb X.env) :: starEach [] X.env := by rfl) : GI X Wx tg (.Call (.Name "range" p) [ea, eb] [] pos) (mRng2 ma mb) := by
  refine PI.imp (pi_range2 hg hm (pa_cons ha (pa_cons hb pa_nil hs0) hs1) hs hs2) fun sh H R ⟨W, sl, st, hr, hs, p⟩ => ?_
  refine rd_bindI hr hs p fun d1 st1 W1 v1 H1 e1 x1 h1 s1 r1 p1 => ?_
  refine rd_bindI h1 s1 p1 fun d2 st2 W2 v2 H2 e2 x2 h2 s2 r2 p2 => ?_
  cases d1 with
  | int i =>
    cases d2 with
    | int j =>
      cases r1; cases r2
      unfold fRng2 at p2
      simp only at p2
      split at p2
      · rename_i hj
        obtain ⟨j1, j2⟩ := of_decide_eq_true hj.1
        obtain ⟨j3, j4⟩ := of_decide_eq_true hj.2
        exact ⟨i, j, rfl, ⟨j1, j2, j3, j4⟩, p2 W2 H2 _ .refl h2 walk_range⟩
      · exact p2.elim
    | _ => exact p2.elim
  | _ => exact p2.elim
/-- slots forgotten -/
def wipeD (sl : Sl) : List Nat → Sl
  | [] => sl
  | v :: vs => (wipeD sl vs).set v none
theorem wipeD_length (sl : Sl) : ∀ vs : List Nat, (wipeD sl vs).length = sl.length
  | [] => rfl
  | v :: vs => by unfold wipeD; rw [List.length_set, wipeD_length sl vs]
theorem wipeD_some {sl : Sl} {i : Nat} {x : Pv.D} : ∀ {vs : List Nat}, (wipeD sl vs)[i]? = some (some x) → sl[i]? = some (some x) ∧ i ∉ vs
  | [], h => ⟨h, by simp⟩
  | v :: vs, h => by
    unfold wipeD at h
    by_cases hi : v = i
    · subst hi
      by_cases hv : v < (wipeD sl vs).length
      · rw [List.getElem?_set_self hv] at h; cases h
      · rw [List.getElem?_eq_none (by simpa using hv)] at h; cases h
    · rw [List.getElem?_set_ne hi] at h
      obtain ⟨a, b⟩ := wipeD_some h
      exact ⟨a, by simp [b, Ne.symm hi]⟩
theorem SR.wipe {K : PySem.W.Frag} {vs : List Nat} (s : SR K W sh sl) : SR K W sh (wipeD sl vs) := s.weak (wipeD_length _ _) fun i d e => (wipeD_some e).1
/-- the turns over some items: tg stores the item, body goes on; fg: slots that no later turn reads -/
def forL (keep : Sto → Prop) [DecidablePred keep] (tg : MG) (body : MS) (fg : List Nat) : List Pv.D → Sl → Sto → RS
  | [], sl, st => if keep st then .nx sl st else .bad
  | d :: ds, sl, st => if keep st then (match (tg d sl st).thenS body with
    | .nx sl st => forL keep tg body fg ds (wipeD sl fg) st
    | .ct sl st => forL keep tg body fg ds (wipeD sl fg) st
    | .bk sl st => .nx (wipeD sl fg) st
    | r => r) else .bad
def sFor (fg : List Nat) (mi : MI) (tg : MG) (body : MS) : MS := fun sl st => (mi sl st).thenS fun s st => forL s.keep tg body fg s.items (wipeD sl fg) st
theorem for_read {mi : MI} {tg : MG} {body : MS} {fg : List Nat} (hr : HR N.K W H st) (hs : SR N.K W sh sl) (p : PostS N sh.length Wx W H D (sFor fg mi tg body sl st)) : tFor (rdI N Wx mi) (rdG N Wx tg) (rdS N Wx body) D sh H := by
  refine ⟨W, sl, st, hr, hs, ?_⟩
  unfold sFor at p
  cases e : mi sl st with
  | bad => rw [e] at p; exact p
  | exc x s2 => rw [e] at p; exact fun W1 c dd H1 e1 a b => p W1 sh c dd H1 rfl e1 a b
  | ok s st1 =>
    rw [e] at p
    intro W1 H1 J x1 h1 wk
    have p1 := PostS.ext x1 p
    simp only [R.thenS_ok] at p1
    refine ⟨fun i m sh' H' => sh'.length = sh.length ∧ i ≤ s.items.length ∧ m = s.items.length - i ∧ ∃ W' sl' st', (∀ b o, W1.F b = some o → W'.F b = some o) ∧ (∀ (r : Nat) a, W1.rho[r]? = some a → W'.rho[r]? = some a) ∧ HR N.K W' H' st' ∧ SR N.K W' sh' sl' ∧
      PostS N sh.length Wx W' H' D (forL s.keep tg body fg (s.items.drop i) sl' st'), ⟨s.items.length, rfl, Nat.zero_le _, by simp, W1, _, st1, fun _ _ z => z, fun _ _ z => z, h1, (hs.ext x1).wipe, by simpa using p1⟩, ?_⟩
    rintro i m sh2 H2 ⟨hl2, hi, hm, W2, sl2, st2, f2, r2, h2, s2, p2⟩
    by_cases hk : s.keep st2
    · obtain ⟨stp, go⟩ := wk W2 H2 st2 h2 f2 r2 hk
      by_cases hlt : i < s.items.length
      · obtain ⟨gi, yi⟩ := go i _ (List.getElem?_eq_getElem hlt)
        refine .inr ⟨gi, fun sh3 H3 => sh3.length = sh.length ∧ ∃ W' sl' st', (∀ b o, W1.F b = some o → W'.F b = some o) ∧ (∀ (r : Nat) a, W1.rho[r]? = some a → W'.rho[r]? = some a) ∧ HR N.K W' H3 st' ∧ SR N.K W' sh3 sl' ∧
          PostS N sh.length Wx W' H3 D (forL s.keep tg body fg (s.items.drop (i + 1)) sl' st'), fun sh3 H3 ⟨a, b⟩ => ⟨s.items.length - (i + 1), by omega, a, hlt, rfl, b⟩, fun x H3 y => ?_⟩
        obtain ⟨W3, x3, h3, rx⟩ := yi x H3 y
        rw [List.drop_eq_getElem_cons hlt] at p2
        unfold forL at p2
        rw [if_pos hk] at p2
        have p3 := PostS.ext x3 p2
        have f3 : ∀ b o, W1.F b = some o → W3.F b = some o := fun b o z => x3.fr b o (f2 b o z)
        have r3 : ∀ (r : Nat) a, W1.rho[r]? = some a → W3.rho[r]? = some a := fun r a z => x3.at r a (r2 r a z)
        refine ⟨W3, sl2, st2, s.items[i], h3, s2.ext x3, rx, ?_⟩
        cases q : tg s.items[i] sl2 st2 with
        | bad => rw [q] at p3; exact p3
        | exc a b => rw [q] at p3; rw [hl2]; exact p3
        | ok sl4 st4 =>
          rw [q] at p3
          simp only [R.thenS_ok] at p3
          intro W4 sh4 H4 l4 x4 h4 s4
          have p4 := PostS.ext x4 p3
          have f4 : ∀ b o, W1.F b = some o → W4.F b = some o := fun b o z => x4.fr b o (f3 b o z)
          have r4 : ∀ (r : Nat) a, W1.rho[r]? = some a → W4.rho[r]? = some a := fun r a z => x4.at r a (r3 r a z)
          refine ⟨W4, sl4, st4, h4, s4, ?_⟩
          have ll : sh4.length = sh.length := l4.trans hl2
          have step : ∀ sl5 st5, PostS N sh.length Wx W4 H4 D (forL s.keep tg body fg (s.items.drop (i + 1)) (wipeD sl5 fg) st5) → ∀ W5 sh5 H5, sh5.length = sh4.length → Ext W4 H4 W5 H5 → HR N.K W5 H5 st5 → SR N.K W5 sh5 sl5 →
              sh5.length = sh.length ∧ ∃ W' sl' st', (∀ b o, W1.F b = some o → W'.F b = some o) ∧ (∀ (r : Nat) a, W1.rho[r]? = some a → W'.rho[r]? = some a) ∧ HR N.K W' H5 st' ∧ SR N.K W' sh5 sl' ∧
                PostS N sh.length Wx W' H5 D (forL s.keep tg body fg (s.items.drop (i + 1)) sl' st') := fun sl5 st5 pp W5 sh5 H5 l5 x5 h5 s5 =>
            ⟨l5.trans ll, W5, _, st5, fun b o z => x5.fr b o (f4 b o z), fun r a z => x5.at r a (r4 r a z), h5, s5.wipe, PostS.ext x5 pp⟩
          cases qb : body sl4 st4 with
          | nx sl5 st5 => rw [qb] at p4; exact step sl5 st5 p4
          | ct sl5 st5 => rw [qb] at p4; exact step sl5 st5 p4
          | bk sl5 st5 =>
            rw [qb] at p4
            intro W5 sh5 H5 l5 x5 h5 s5
            exact p4 W5 sh5 H5 (l5.trans ll) x5 h5 s5.wipe
          | rt d st5 => rw [qb] at p4; exact p4
          | exc a b => rw [qb] at p4; rw [ll]; exact p4
          | bad => rw [qb] at p4; exact p4
      · have e : i = s.items.length := by omega
        subst e
        rw [List.drop_length] at p2
        unfold forL at p2
        rw [if_pos hk] at p2
        exact .inl ⟨stp, p2 W2 sh2 H2 hl2 .refl h2 s2⟩
    · exfalso
      cases q : s.items.drop i with
      | nil => rw [q] at p2; unfold forL at p2; rw [if_neg hk] at p2; exact p2
      | cons d ds => rw [q] at p2; unfold forL at p2; rw [if_neg hk] at p2; exact p2
theorem gs_for {tg iter : Expr} {body : List Stmt} {mi : MI} {mt : MG} {mb : MS} {pos : Pos} (fg : List Nat) (g : Gd X) (hp : PassesOwn (model X.prog X.w) X.A X.env X.xe) (hi : GI X Wx tg iter mi) (hg : GG X Wx tg mt) (hb : GSs X Wx body mb)
    (hs : ∀ x, foldedSetIterable iter X.env x = pure x := by intro _; rfl) : GS X Wx (.For tg iter body [] pos) (sFor fg mi mt mb) :=
  PS.imp (ps_for hp g.calm hi hg hb hs) fun D sh H ⟨W, sl, st, hr, hs, p⟩ => for_read hr hs p
end
end Pv
set_option Elab.async false
set_option linter.all false
set_option maxRecDepth 100000
set_option maxHeartbeats 4000000
namespace Pv
open PySem PySem.Spec L2
open PyProof.Rows hiding St
inductive CP where
  | nm (i : Nat) | tp (is : List Nat)
inductive CT where
  | nm (i : Nat) | tp (is : List Nat) | tq (ps : List CP)
def setAll (sl : Sl) : List Nat → List Pv.D → Option Sl
  | [], [] => some sl
  | i :: is, d :: ds => setAll (sl.set i (some d)) is ds
  | _, _ => none
def cpSet (p : CP) (d : Pv.D) (sl : Sl) : Option Sl :=
  match p with
  | .nm i => some (sl.set i (some d))
  | .tp is => (match d with | .tuple ds => setAll sl is ds | _ => none)
def setAllP (sl : Sl) : List CP → List Pv.D → Option Sl
  | [], [] => some sl
  | p :: ps, d :: ds => (match cpSet p d sl with | some sl2 => setAllP sl2 ps ds | none => none)
  | _, _ => none
def ctSet (t : CT) (d : Pv.D) (sl : Sl) : Option Sl :=
  match t with
  | .nm i => some (sl.set i (some d))
  | .tp is => (match d with | .tuple ds => setAll sl is ds | _ => none)
  | .tq ps => (match d with | .tuple ds => setAllP sl ps ds | _ => none)
def gNames : List Nat → TGs
  | [] => gNil
  | i :: is => gCons (gName i) (gNames is)
def gcp (K : PySem.W.Frag) : CP → TG
  | .nm i => gName i
  | .tp is => gTup K is.length (gNames is)
def gPs (K : PySem.W.Frag) : List CP → TGs
  | [] => gNil
  | p :: ps => gCons (gcp K p) (gPs K ps)
def gct (K : PySem.W.Frag) : CT → TG
  | .nm i => gName i
  | .tp is => gTup K is.length (gNames is)
  | .tq ps => gTup K ps.length (gPs K ps)
def cpIn (vs : List Nat) (p : CP) : Bool := match p with | .nm i => vs.contains i | .tp is => is.all vs.contains
def ctIn (t : CT) (vs : List Nat) : Bool := match t with | .nm i => vs.contains i | .tp is => is.all vs.contains | .tq ps => ps.all (cpIn vs)
theorem wipe_set {σ : L2.St} {x : Option V} {i : Nat} : ∀ {vs : List Nat}, i ∈ vs → wipe (σ.set i x) vs = wipe σ vs
  | [], h => by cases h
  | v :: vs, h => by
    unfold wipe
    by_cases hv : v = i
    · subst hv
      by_cases hm : v ∈ vs
      · rw [wipe_set hm]
      · have key : ∀ (vs : List Nat), v ∉ vs → wipe (σ.set v x) vs = (wipe σ vs).set v x := by
          intro vs
          induction vs with
          | nil => intro _; rfl
          | cons u us ih =>
            intro hu
            unfold wipe
            rw [ih (fun z => hu (List.mem_cons_of_mem _ z))]
            exact List.set_comm _ _ (fun z => hu (by rw [z]; exact List.mem_cons_self))
        rw [key vs hm, List.set_set]
    · rw [wipe_set (by rcases List.mem_cons.mp h with q | q; exact absurd q.symm hv; exact q)]
theorem wipe_wipe {σ : L2.St} (vs : List Nat) : ∀ us : List Nat, (∀ u ∈ us, u ∈ vs) → wipe (wipe σ us) vs = wipe σ vs
  | [], _ => rfl
  | u :: us, h => by
    show wipe ((wipe σ us).set u none) vs = wipe σ vs
    rw [wipe_set (h u List.mem_cons_self)]
    exact wipe_wipe vs us fun w hw => h w (List.mem_cons_of_mem _ hw)
section
variable {X : Cx} {Wx : WX} {N : Nv} {W W' : Wd} {H H' : Hp} {st : Sto} {sl : Sl} {sh : L2.St} {n : Nat} {D D' : Ends}
theorem gNames_run {vs : List Nat} : ∀ {is : List Nat} {ds : List Pv.D} {xs : List V} {sl sl2 : Sl} {sh sh0 : L2.St}, (∀ i ∈ is, i ∈ vs) → SR N.K W sh sl → repL N.K W xs ds → setAll sl is ds = some sl2 → wipe sh vs = wipe sh0 vs →
    ∀ (Q : L2.St → Hp → Prop), (∀ sh2, SR N.K W sh2 sl2 → sh2.length = sh.length → wipe sh2 vs = wipe sh0 vs → Q sh2 H) → gNames is xs sh H Q
  | [], [], _, sl, sl2, sh, sh0, _, s, l, e, w, Q, q => by cases l; cases e; exact ⟨rfl, q sh s rfl w⟩
  | i :: is, d :: ds, _, sl, sl2, sh, sh0, hi, s, ⟨v, us, e1, r, l⟩, e, w, Q, q => by
    subst e1
    refine ⟨v, us, rfl, ?_⟩
    refine gNames_run (sh0 := sh0) (fun j hj => hi j (List.mem_cons_of_mem _ hj)) (s.set i r) l e ?_ Q fun sh2 s2 l2 w2 => q sh2 s2 (by rw [l2]; simp) w2
    rw [wipe_set (hi i List.mem_cons_self)]; exact w
  | [], _ :: _, _, _, _, _, _, _, _, _, e, _, _, _ => by cases e
  | _ :: _, [], _, _, _, _, _, _, _, _, e, _, _, _ => by cases e
theorem setAll_length : ∀ (is : List Nat) (ds : List Pv.D) (sl sl2 : Sl), setAll sl is ds = some sl2 → ds.length = is.length := by
  intro is
  induction is with
  | nil => intro ds sl sl2 e; cases ds with | nil => rfl | cons _ _ => cases e
  | cons i is ih => intro ds sl sl2 e; cases ds with | nil => cases e | cons d ds => simp [ih ds _ _ e]
theorem setAllP_length : ∀ (ps : List CP) (ds : List Pv.D) (sl sl2 : Sl), setAllP sl ps ds = some sl2 → ds.length = ps.length := by
  intro ps
  induction ps with
  | nil => intro ds sl sl2 e; cases ds with | nil => rfl | cons _ _ => cases e
  | cons p ps ih =>
    intro ds sl sl2 e
    cases ds with
    | nil => cases e
    | cons d ds =>
      unfold setAllP at e
      cases hc : cpSet p d sl with
      | none => rw [hc] at e; cases e
      | some sl3 => rw [hc] at e; simp [ih ds _ _ e]
theorem cp_run {p : CP} {d : Pv.D} {v : V} {sl2 : Sl} {vs : List Nat} {sh0 : L2.St} (hin : cpIn vs p = true) (hr : HR N.K W H st) (s : SR N.K W sh sl) (r : rep N.K W v d) (e : cpSet p d sl = some sl2) (w : wipe sh vs = wipe sh0 vs) (Q : L2.St → Hp → Prop)
    (q : ∀ sh2, SR N.K W sh2 sl2 → sh2.length = sh.length → wipe sh2 vs = wipe sh0 vs → Q sh2 H) : gcp N.K p v sh H Q := by
  cases p with
  | nm i =>
    cases e
    have hi : i ∈ vs := by simpa [cpIn] using hin
    exact q _ (s.set i r) (by simp) (by rw [wipe_set hi]; exact w)
  | tp is =>
    unfold cpSet at e
    simp only at e
    split at e
    · rename_i ds
      obtain ⟨a, xs, e1, f, l⟩ := r
      have hall : ∀ i ∈ is, i ∈ vs := by
        intro i hi
        have := List.all_eq_true.mp (show is.all vs.contains = true from hin) i hi
        simpa using this
      have hlen : xs.length = is.length := by rw [repL_length l]; exact setAll_length is ds sl sl2 e
      exact ⟨a, xs, e1, .inl (.inl (hr.sub _ _ f)), hlen, gNames_run hall s l e w Q q⟩
    · cases e
theorem gPs_run {vs : List Nat} (hr : HR N.K W H st) : ∀ {ps : List CP} {ds : List Pv.D} {xs : List V} {sl sl2 : Sl} {sh sh0 : L2.St}, (∀ p ∈ ps, cpIn vs p = true) → SR N.K W sh sl → repL N.K W xs ds → setAllP sl ps ds = some sl2 → wipe sh vs = wipe sh0 vs →
    ∀ (Q : L2.St → Hp → Prop), (∀ sh2, SR N.K W sh2 sl2 → sh2.length = sh.length → wipe sh2 vs = wipe sh0 vs → Q sh2 H) → gPs N.K ps xs sh H Q
  | [], [], _, sl, sl2, sh, sh0, _, s, l, e, w, Q, q => by cases l; cases e; exact ⟨rfl, q sh s rfl w⟩
  | p :: ps, d :: ds, _, sl, sl2, sh, sh0, hi, s, ⟨v, us, e1, r, l⟩, e, w, Q, q => by
    subst e1
    unfold setAllP at e
    cases hc : cpSet p d sl with
    | none => rw [hc] at e; cases e
    | some sl3 =>
      rw [hc] at e
      refine ⟨v, us, rfl, ?_⟩
      exact cp_run (sh0 := sh0) (hi p List.mem_cons_self) hr s r hc w _ fun sh3 s3 l3 w3 =>
        gPs_run hr (sh0 := sh0) (fun j hj => hi j (List.mem_cons_of_mem _ hj)) s3 l e w3 Q fun sh2 s2 l2 w2 => q sh2 s2 (by rw [l2, l3]) w2
  | [], _ :: _, _, _, _, _, _, _, _, _, e, _, _, _ => by cases e
  | _ :: _, [], _, _, _, _, _, _, _, _, e, _, _, _ => by cases e
theorem ct_run {t : CT} {d : Pv.D} {v : V} {sl2 : Sl} {vs : List Nat} (hin : ctIn t vs = true) (hr : HR N.K W H st) (s : SR N.K W sh sl) (r : rep N.K W v d) (e : ctSet t d sl = some sl2) (Q : L2.St → Hp → Prop)
    (q : ∀ sh2, SR N.K W sh2 sl2 → sh2.length = sh.length → wipe sh2 vs = wipe sh vs → Q sh2 H) : gct N.K t v sh H Q := by
  cases t with
  | nm i =>
    cases e
    have hi : i ∈ vs := by simpa [ctIn] using hin
    exact q _ (s.set i r) (by simp) (wipe_set hi)
  | tp is =>
    unfold ctSet at e
    simp only at e
    split at e
    · rename_i ds
      obtain ⟨a, xs, e1, f, l⟩ := r
      have hall : ∀ i ∈ is, i ∈ vs := by
        intro i hi
        have := List.all_eq_true.mp (show is.all vs.contains = true from hin) i hi
        simpa using this
      have hlen : xs.length = is.length := by
        rw [repL_length l]
        have key : ∀ (is : List Nat) (ds : List Pv.D) (sl sl2 : Sl), setAll sl is ds = some sl2 → ds.length = is.length := by
          intro is
          induction is with
          | nil => intro ds sl sl2 e; cases ds with | nil => rfl | cons _ _ => cases e
          | cons i is ih => intro ds sl sl2 e; cases ds with | nil => cases e | cons d ds => simp [ih ds _ _ e]
        exact key is ds sl sl2 e
      exact ⟨a, xs, e1, .inl (.inl (hr.sub _ _ f)), hlen, gNames_run hall s l e rfl Q q⟩
    · cases e
  | tq ps =>
    unfold ctSet at e
    simp only at e
    split at e
    · rename_i ds
      obtain ⟨a, xs, e1, f, l⟩ := r
      have hall : ∀ p ∈ ps, cpIn vs p = true := fun p hp => List.all_eq_true.mp (show ps.all (cpIn vs) = true from hin) p hp
      have hlen : xs.length = ps.length := by rw [repL_length l]; exact setAllP_length ps ds sl sl2 e
      exact ⟨a, xs, e1, .inl (.inl (hr.sub _ _ f)), hlen, gPs_run hr hall s l e rfl Q q⟩
    · cases e
theorem gct_name {x : Str} {pos : Pos} (i : Nat) (g : Gd X) (hi : X.N[i]? = some x := by rfl) (hx : Loc X.env.scope x := by first | exact Or.inl rfl | exact Or.inr rfl) (hf : X.fn x = true ∨ X.env.scope.names.lookup x = some .local := by first | exact .inl rfl | exact .inr rfl) : PG X (.Name x pos) (gct X.K (.nm i)) :=
  pg_name g.nd hi hx hf
/-- the items that are made -/
def lcL (keep : Sto → Prop) [DecidablePred keep] (t : CT) (tt : MT) (te : M) (sl : Sl) : List Pv.D → Sto → R (List Pv.D)
  | [], st => if keep st then .ok [] st else .bad
  | d :: ds, st => if keep st then (match ctSet t d sl with
    | none => .bad
    | some sl2 => match tt sl2 st with
      | .ok true st => (match te sl2 st with
        | .ok y st => (match lcL keep t tt te sl ds st with | .ok ys st => .ok (y :: ys) st | _ => .bad)
        | _ => .bad)
      | .ok false st => lcL keep t tt te sl ds st
      | _ => .bad) else .bad
def tYesM : MT := fun _ st => .ok true st
def lcR (mi : MI) (t : CT) (tt : MT) (te : M) (vs : List Nat) : Ms := fun sl st => (mi sl st).bind fun s st => (lcL s.keep t tt te (wipeD sl vs) s.items st).bind fun ys st => if ys.length ≤ sizeLine then .ok ys st else .bad
def mLc (mi : MI) (t : CT) (tt : MT) (te : M) (vs : List Nat) : M := fun sl st => (lcR mi t tt te vs sl st).bind fun ys st => .ok (.list ys) st
theorem SR.wipes {K : PySem.W.Frag} (vs : List Nat) (s : SR K W sh sl) : SR K W (L2.wipe sh vs) (wipeD sl vs) := by
  refine ⟨by rw [wipe_length, wipeD_length]; exact s.len, fun i d h => ?_⟩
  obtain ⟨h1, h2⟩ := wipeD_some h
  obtain ⟨v, hv, r⟩ := s.at_ i d h1
  refine ⟨v, ?_, r⟩
  have key : ∀ vs : List Nat, i ∉ vs → (L2.wipe sh vs)[i]? = sh[i]? := by
    intro vs
    induction vs with
    | nil => intro _; rfl
    | cons u us ih =>
      intro hu
      unfold L2.wipe
      rw [List.getElem?_set_ne (fun z => hu (by rw [z]; exact List.mem_cons_self))]
      exact ih fun z => hu (List.mem_cons_of_mem _ z)
  rw [key vs h2]; exact hv
/-- beside the store stands an object that is written from outside -/
structure Bes (W1 : Wd) (H1 : Hp) (Dd : Addr) (W2 : Wd) (H2 : Hp) : Prop where
  e : Ext W1 H1 W2 H2
  n : Dd ∉ W2.rho
  f : W2.F Dd = none
def plainO2 (o : HO) : Bool := match o with
  | .tup _ => false
  | o => plainO o
theorem plainO2_o {o : HO} (h : plainO2 o = true) : plainO o = true := by
  unfold plainO2 at h
  split at h
  · cases h
  · exact h
theorem plainO2_t {o : HO} (h : plainO2 o = true) : ∀ xs, o ≠ .tup xs := fun xs e => by subst e; cases h
theorem Bes.step {W1 W2 W3 : Wd} {H1 H2 H3 : Hp} {Dd : Addr} {o : HO} (b : Bes W1 H1 Dd W2 H2) (x : Ext W2 H2 W3 H3) (h : H2 Dd = some o) (hpl : plainO2 o = true) : Bes W1 H1 Dd W3 H3 ∧ H3 Dd = some o := by
  refine ⟨⟨b.e.trans x, ?_, ?_⟩, x.out _ _ h b.n (plainO_tbl (plainO2_o hpl))⟩
  · obtain ⟨r, hr, hm⟩ := x.rh
    rw [hr]
    intro z
    rcases List.mem_append.mp z with z | z
    · exact b.n z
    · obtain ⟨ps, y⟩ := hm _ z _ h; exact plainO_tbl (plainO2_o hpl) ps y
  · cases q : W3.F Dd with
    | none => rfl
    | some u =>
      rcases x.nf _ _ q with z | z
      · rw [b.f] at z; cases z
      · obtain ⟨ys, y⟩ := z.some h (plainO_tbl (plainO2_o hpl)); exact absurd y (plainO2_t hpl ys)
theorem Bes.write {W1 W2 : Wd} {H1 H2 : Hp} {Dd : Addr} {u : HO} {K : PySem.W.Frag} (b : Bes W1 H1 Dd W2 H2) (h : HR K W2 H2 st) (hD : H1 Dd = none) (ht : LamX.Tabs (tbs st) (upd H2 Dd u)) : Bes W1 H1 Dd W2 (upd H2 Dd u) ∧ HR K W2 (upd H2 Dd u) st := by
  refine ⟨⟨⟨b.e.fr, b.e.rh, fun c o e hc ht => ?_, fun c e => ?_, b.e.nf⟩, b.n, b.f⟩, ⟨h.len, h.nd, fun c o e => ?_, fun r c m e1 e2 => ?_, ht, h.nt⟩⟩
  · have hb : c ≠ Dd := fun w => by subst w; rw [hD] at e; cases e
    rw [upd_ne hb]; exact b.e.out c o e hc ht
  · by_cases hb : c = Dd
    · subst hb; exact .of hD
    · exact b.e.non c fun o z => e o (by rw [upd_ne hb]; exact z)
  · have hb : c ≠ Dd := fun w => by subst w; rw [b.f] at e; cases e
    rw [upd_ne hb]; exact h.sub _ _ e
  · have hb : c ≠ Dd := fun w => b.n (by rw [← w]; exact List.mem_of_getElem? e1)
    obtain ⟨p, q⟩ := h.obj r c m e1 e2
    exact ⟨p, repO_mono (W := W2) (fun _ _ z => z) (fun _ _ z => z) (fun u z => by rw [upd_ne hb]; exact z) q⟩
theorem lc_loop {J : It} {s : Src} {t : CT} {tt : MT} {te : M} {vs : List Nat} {Q : VK} {W1 : Wd} {H1 : Hp} {st1 st2 : Sto} {ys : List Pv.D} (hin : ctIn t vs = true) (h1 : HR N.K W1 H1 st1) (s1 : SR N.K W1 sh sl) (wk : WalkK N.K J W1 s)
    (e : lcL s.keep t tt te (wipeD sl vs) s.items st1 = .ok ys st2) (hz : ys.length ≤ sizeLine) {Dd : Addr} (hD : H1 Dd = none)
    (fin : ∀ W2 H2 xs, Bes W1 H1 Dd W2 H2 → HR N.K W2 H2 st2 → H2 Dd = some (.lst xs) → repL N.K W2 xs ys → Q (.ref Dd) H2) :
    ∃ Wv : Nat → Nat → Hp → Prop, (∃ m, Wv 0 m (upd H1 Dd (.lst []))) ∧ ∀ i m H, Wv i m H →
      (J.stop i H ∧ Q (.ref Dd) H) ∨ (J.go i H ∧ ∃ Nx : Hp → Prop, (∀ H', Nx H' → ∃ m', m' < m ∧ Wv (i + 1) m' H') ∧ ∀ x H', J.yld i H x H' → gct N.K t x (wipe sh vs) H' fun σ2 H2 => wipe σ2 vs = wipe sh vs ∧ rdT N (fun _ _ _ _ => False) tt σ2 H2 fun b H3 =>
        if b = true then rd N (fun _ _ _ _ => False) te σ2 H3 fun y H4 => ∃ acc, H4 Dd = some (.lst acc) ∧ acc.length < sizeLine ∧ Nx (upd H4 Dd (.lst (acc ++ [y]))) else Nx H3) := by
  let P : Nat → Hp → Prop := fun i H => ∃ (W2 : Wd) (st : Sto) (xs : List V) (ds zs : List Pv.D), Bes W1 H1 Dd W2 H ∧ HR N.K W2 H st ∧ H Dd = some (.lst xs) ∧ repL N.K W2 xs ds ∧ lcL s.keep t tt te (wipeD sl vs) (s.items.drop i) st = .ok zs st2 ∧ ds ++ zs = ys
  have hDr : Dd ∉ W1.rho := h1.free hD
  have b0 : Bes W1 H1 Dd W1 H1 := ⟨.refl, hDr, h1.freeF hD⟩
  obtain ⟨b1, h1'⟩ := b0.write (u := .lst []) h1 hD (tabs_new h1.tab hD)
  refine ⟨fun i m H => i ≤ s.items.length ∧ m = s.items.length - i ∧ P i H, ⟨_, Nat.zero_le _, rfl, ⟨W1, st1, [], [], ys, b1, h1', upd_same, rfl, by simpa using e, rfl⟩⟩, ?_⟩
  rintro i m H ⟨hi, hm, W2, st, xs, ds, zs, b2, h2, hx, l, el, ed⟩
  have hk : s.keep st := by
    cases q : s.items.drop i with
    | nil => rw [q] at el; unfold lcL at el; by_cases z : s.keep st; exact z; rw [if_neg z] at el; cases el
    | cons d r => rw [q] at el; unfold lcL at el; by_cases z : s.keep st; exact z; rw [if_neg z] at el; cases el
  obtain ⟨stp, go⟩ := wk W2 H st h2 b2.e.fr b2.e.at hk
  by_cases hlt : i < s.items.length
  · obtain ⟨gi, yi⟩ := go i _ (List.getElem?_eq_getElem hlt)
    refine .inr ⟨gi, P (i + 1), fun H' p' => ⟨s.items.length - (i + 1), by omega, hlt, rfl, p'⟩, fun x H3 y => ?_⟩
    obtain ⟨W3, x3, h3, rx⟩ := yi x H3 y
    obtain ⟨b3, hx3⟩ := b2.step x3 hx rfl
    rw [List.drop_eq_getElem_cons hlt] at el
    unfold lcL at el
    rw [if_pos hk] at el
    cases e1 : ctSet t s.items[i] (wipeD sl vs) with
    | none => rw [e1] at el; cases el
    | some sl2 =>
      rw [e1] at el
      simp only at el
      have s3 : SR N.K W3 (wipe sh vs) (wipeD sl vs) := SR.wipes vs ⟨s1.len, fun j d q => let ⟨v, a, b⟩ := s1.at_ j d q; ⟨v, a, rep_mono b3.e.fr b3.e.at d b⟩⟩
      refine ct_run hin h3 s3 rx e1 _ fun sh2 s4 l4 w4 => ?_
      rw [wipe_wipe vs vs fun _ z => z] at w4
      refine ⟨w4, W3, sl2, st, h3, s4, ?_⟩
      cases e2 : tt sl2 st with
      | bad => rw [e2] at el; cases el
      | exc _ _ => rw [e2] at el; cases el
      | ok b st3 =>
        rw [e2] at el
        intro W4 H4 x4 h4
        obtain ⟨b4, hx4⟩ := b3.step x4 hx3 rfl
        cases b with
        | false =>
          simp only [Bool.false_eq_true, if_false]
          exact ⟨W4, st3, xs, ds, zs, b4, h4, hx4, x4.repL (x3.repL l), el, ed⟩
        | true =>
          simp only [if_true]
          refine ⟨W4, sl2, st3, h4, s4.ext x4, ?_⟩
          simp only at el
          cases e3 : te sl2 st3 with
          | bad => rw [e3] at el; cases el
          | exc _ _ => rw [e3] at el; cases el
          | ok yd st4 =>
            rw [e3] at el
            simp only at el
            intro W5 v5 H5 x5 h5 r5
            obtain ⟨b5, hx5⟩ := b4.step x5 hx4 rfl
            split at el
            · rename_i zs' st5 e4
              cases el
              have l5 : repL N.K W5 xs ds := x5.repL (x4.repL (x3.repL l))
              have hlen : xs.length < sizeLine := by
                rw [repL_length l5]
                have := congrArg List.length ed
                simp only [List.length_append, List.length_cons] at this
                omega
              obtain ⟨b6, h6⟩ := b5.write (u := .lst (xs ++ [v5])) h5 hD (tabs_set h5.tab hx5 rfl)
              exact ⟨xs, hx5, hlen, W5, st4, xs ++ [v5], ds ++ [yd], zs', b6, h6, upd_same, repL_append l5 (repL_one r5), e4, by rw [← ed]; simp⟩
            · cases el
  · have ei : i = s.items.length := by omega
    subst ei
    rw [List.drop_length] at el
    unfold lcL at el
    rw [if_pos hk] at el
    cases el
    rw [List.append_nil] at ed
    subst ed
    exact .inl ⟨stp, fin W2 H xs b2 h2 hx l⟩
theorem lc_read {mi : MI} {t : CT} {tt : MT} {te : M} {vs : List Nat} {Q : VK} {f : List Pv.D → Sto → R Pv.D} (hin : ctIn t vs = true) (hr : HR N.K W H st) (hs : SR N.K W sh sl)
    (p : Post N W H Q (fun cls dd H' => Wx cls dd sh H') ((lcR mi t tt te vs sl st).bind f))
    (k : ∀ ys st2 W1 H1 Dd xs, Ext W H W1 H1 → HR N.K W1 H1 st2 → H1 Dd = some (.lst xs) → Nn H Dd → Dd ∉ W1.rho → W1.F Dd = none → repL N.K W1 xs ys → Post N W H Q (fun cls dd H' => Wx cls dd sh H') (f ys st2) → Q (.ref Dd) H1) :
    tLc (fun sh H R => rdI N Wx mi sh H R) (gct N.K t) (rdT N (fun _ _ _ _ => False) tt) (rd N (fun _ _ _ _ => False) te) vs sh H Q := by
  refine ⟨W, sl, st, hr, hs, ?_⟩
  unfold lcR at p
  cases e : mi sl st with
  | bad => rw [e] at p; exact p
  | exc x s2 => rw [e] at p; exact p
  | ok s st1 =>
    rw [e] at p
    simp only [R.bind_ok] at p
    intro W1 H1 J x1 h1 wk Dd hD
    cases e2 : lcL s.keep t tt te (wipeD sl vs) s.items st1 with
    | bad => rw [e2] at p; exact p.elim
    | exc _ _ =>
      exfalso
      have key : ∀ (ds : List Pv.D) (st : Sto) (x : XV) (s2 : Sto), lcL s.keep t tt te (wipeD sl vs) ds st ≠ .exc x s2 := by
        intro ds
        induction ds with
        | nil => intro st x s2; unfold lcL; split <;> simp
        | cons d ds ih =>
          intro st x s2
          unfold lcL
          split
          · split
            · simp
            · split
              · split
                · split <;> simp
                · simp
              · exact ih _ _ _
              · simp
          · simp
      exact key _ _ _ _ e2
    | ok ys st2 =>
      rw [e2] at p
      simp only [R.bind_ok] at p
      split at p
      · rename_i hz
        simp only [R.bind_ok] at p
        refine lc_loop hin h1 (hs.ext x1) wk e2 hz hD fun W2 H2 xs b h2 hx l => ?_
        exact k ys st2 W2 H2 Dd xs (x1.trans b.e) h2 hx (x1.non _ (.of hD)) b.n b.f l p
      · exact p.elim
theorem Gd.blk (g : Gd X) {s : Shared} {H : Hp} {scope : Scope} {env : Env} {fp : List Addr} : Gd (X.blk s H scope env fp) := ⟨g.calm, g.nd, g.un, g.gu⟩
/-- nothing is raised inside a block -/
abbrev WF : WX := fun _ _ _ _ => False
/-- a block's context -/
abbrev Bk (X : Cx) (scope : Scope) (s : Shared) (H : Hp) (C : Addr) (cl : List (Str × Addr)) (fp : List Addr) : Cx := X.blk s H scope (compEnvC scope cl C X.env) fp
def GTs (X : Cx) (Wx : WX) (ifs : List Expr) (m : MT) : Prop := PTs X ifs (rdT (nv X) Wx m)
theorem gts_nil : GTs X Wx [] tYesM := ⟨fun pins s σ H Q I ⟨W, sl, st, hr, hs, p⟩ => pts_nil.run pins s σ H Q I (p W H .refl hr)⟩
theorem gts_one {c : Expr} {t : MT} (h : GT X Wx c t) : GTs X Wx [c] t := pts_one h
section
variable {elt kx tg iter : Expr} {ifs : List Expr} {scope : Scope} {own : List (Str × Nat)} {pos : Pos} {mi : MI} {t : CT} {tt : MT} {te tk : M}
theorem ge_lc (own : List (Str × Nat)) (t : CT) (g : Gd X) (hi : GI X Wx tg iter mi) (ok : BlkOk X.N X.env.scope scope own)
    (hg : ∀ s H C cl fp, Gd (Bk X scope s H C cl fp) → PG (Bk X scope s H C cl fp) tg (gct X.K t)) (ht : ∀ s H C cl fp, Gd (Bk X scope s H C cl fp) → GTs (Bk X scope s H C cl fp) WF ifs tt)
    (he : ∀ s H C cl fp, Gd (Bk X scope s H C cl fp) → GE (Bk X scope s H C cl fp) WF elt te) (hin : ctIn t (own.map (·.2)) = true := by rfl) (hs : ∀ x, foldedSetIterable iter X.env x = pure x := by intro _; rfl) :
    GE X Wx (.ListComp elt [⟨tg, iter, ifs, 0⟩] scope pos) (mLc mi t tt te (own.map (·.2))) := by
  refine PE.imp (pe_lc (tt := rdT (nv X) WF tt) (te := rd (nv X) WF te) g.calm g.nd hi ok (fun s H C cl fp => hg s H C cl fp g.blk) (fun s H C cl fp => ht s H C cl fp g.blk) (fun s H C cl fp => he s H C cl fp g.blk) hs) fun sh H Q ⟨W, sl, st, hr, hs, p⟩ => ?_
  refine lc_read hin hr hs p fun ys st2 W1 H1 Dd xs x1 h1 hD hn0 hn hF l p1 => ?_
  have h2 := HR.keepF h1 hD hn hF
  have x2 : Ext W H ⟨upd W1.F Dd (.lst xs), W1.rho⟩ H1 := by
    refine ⟨fun b o e => ?_, x1.rh, x1.out, x1.non, fun b o e => ?_⟩
    · show upd W1.F Dd (.lst xs) b = some o
      by_cases hb : b = Dd
      · subst hb; rw [x1.fr _ _ e] at hF; cases hF
      · rw [upd_ne hb]; exact x1.fr _ _ e
    · have e' : upd W1.F Dd (.lst xs) b = some o := e
      by_cases hb : b = Dd
      · subst hb; exact .inr (.inl hn0)
      · rw [upd_ne hb] at e'; exact x1.nf _ _ e'
  refine p1 _ (.ref Dd) H1 x2 h2 ⟨Dd, xs, rfl, upd_same, repL_mono (W := W1) (W' := ⟨upd W1.F Dd (.lst xs), W1.rho⟩) (fun b o e => ?_) (fun _ _ z => z) ys l⟩
  show upd W1.F Dd (.lst xs) b = some o
  by_cases hb : b = Dd
  · subst hb; rw [hF] at e; cases e
  · rw [upd_ne hb]; exact e
end
end
end Pv
set_option Elab.async false
set_option linter.all false
set_option maxRecDepth 100000
set_option maxHeartbeats 4000000
namespace Pv
open PySem PySem.Spec L2
open PyProof.Rows hiding St
mutual
def fz (g : Nat → Option Pv.D) : Pv.D → Option Pv.D
  | .list ds => (fzL g ds).map .list
  | .tuple ds => (fzL g ds).map .tuple
  | .dict [(.int i, .none)] => g i.toNat
  | .dict [(.none, .tuple ds)] => (fzL g ds).map Gc
  | .dict [(.none, .list ds)] => (fzL g ds).map Gs
  | .dict _ => none
  | .none => some .none
  | .bool b => some (.bool b)
  | .int i => some (.int i)
  | .str x => some (.str x)
def fzL (g : Nat → Option Pv.D) : List Pv.D → Option (List Pv.D)
  | [] => some []
  | d :: ds => (fz g d).bind fun e => (fzL g ds).map (e :: ·)
end
def lookF : Nat → Nat → Sto → Nat → Option Pv.D
  | k, n, st, r => if r < n then some (Rf r) else match k with
    | 0 => none
    | k + 1 => match st[r]? with
      | some (.lst ds) => (fzL (lookF k n st) ds).map .list
      | _ => none
def fzP {κ : Type} (g : Nat → Option Pv.D) : List (κ × Pv.D) → Option (List (κ × Pv.D))
  | [] => some []
  | p :: ps => (fz g p.2).bind fun e => (fzP g ps).map ((p.1, e) :: ·)
def fzO (g : Nat → Option Pv.D) : MO → Option MO
  | .lst ds => (fzL g ds).map .lst
  | .ro ds => (fzL g ds).map .ro
  | .dct kvs => (fzP g kvs).map .dct
  | .dctT kvs => (fzP g kvs).map .dctT
  | .tb P q => some (.tb P q)
def fzS (g : Nat → Option Pv.D) : Sto → Option Sto
  | [] => some []
  | m :: ms => (fzO g m).bind fun e => (fzS g ms).map (e :: ·)
def finR (n : Nat) (r : R Pv.D) : R Pv.D :=
  match r with
  | .ok d st => if st.length = n then .ok d st else (match fz (lookF 6 n st) d, fzS (lookF 6 n st) (st.take n) with | some d', some st' => .ok d' st' | _, _ => .bad)
  | .exc x st => if st.length = n then .exc x st else (match fzP (lookF 6 n st) x.2, fzS (lookF 6 n st) (st.take n) with | some fs, some st' => .exc (x.1, fs) st' | _, _ => .bad)
  | .bad => .bad
section
variable {K : PySem.W.Frag} {W W' W1 W2 : Wd} {H H1 : Hp} {st st1 : Sto} {g : Nat → Option Pv.D}
mutual
theorem fz_rep (hg : ∀ r a e, W1.rho[r]? = some a → g r = some e → rep K W2 (.ref a) e) (hF : ∀ b o, W1.F b = some o → W2.F b = some o) : ∀ (d : Pv.D) (v : V) (e : Pv.D), rep K W1 v d → fz g d = some e → rep K W2 v e
  | .none, _, _, h, q => by cases q; exact h
  | .bool _, _, _, h, q => by cases q; exact h
  | .int _, _, _, h, q => by cases q; exact h
  | .str _, _, _, h, q => by cases q; exact h
  | .list ds, _, _, ⟨a, xs, e1, e2, l⟩, q => by
    obtain ⟨es, q1, q2⟩ := Option.map_eq_some_iff.mp q
    subst q2
    exact ⟨a, xs, e1, hF _ _ e2, fzL_rep hg hF ds xs es l q1⟩
  | .tuple ds, _, _, ⟨a, xs, e1, e2, l⟩, q => by
    obtain ⟨es, q1, q2⟩ := Option.map_eq_some_iff.mp q
    subst q2
    exact ⟨a, xs, e1, hF _ _ e2, fzL_rep hg hF ds xs es l q1⟩
  | .dict [(.int i, .none)], _, _, ⟨r, a, e1, e2, e3⟩, q => by
    subst e1; subst e2
    exact hg r a _ e3 q
  | .dict [(.none, .tuple ds)], _, _, ⟨a, xs, e1, e2, l⟩, q => by
    obtain ⟨es, q1, q2⟩ := Option.map_eq_some_iff.mp q
    subst q2
    exact ⟨a, xs, e1, e2.mono hF, fzL_rep hg hF ds xs es l q1⟩
  | .dict [(.none, .list ds)], _, _, ⟨a, xs, e1, e2, l⟩, q => by
    obtain ⟨es, q1, q2⟩ := Option.map_eq_some_iff.mp q
    subst q2
    exact ⟨a, xs, e1, sqL_mono hF e2, fzL_rep hg hF ds xs es l q1⟩
theorem fzL_rep (hg : ∀ r a e, W1.rho[r]? = some a → g r = some e → rep K W2 (.ref a) e) (hF : ∀ b o, W1.F b = some o → W2.F b = some o) : ∀ (ds : List Pv.D) (vs : List V) (es : List Pv.D), repL K W1 vs ds → fzL g ds = some es → repL K W2 vs es
  | [], _, _, h, q => by cases q; exact h
  | d :: ds, _, _, ⟨v, us, e1, r, l⟩, q => by
    obtain ⟨e, q1, q2⟩ := Option.bind_eq_some_iff.mp q
    obtain ⟨es, q3, q4⟩ := Option.map_eq_some_iff.mp q2
    subst q4
    exact ⟨v, us, e1, fz_rep hg hF d v e r q1, fzL_rep hg hF ds us es l q3⟩
end
theorem fzP_rep {κ : Type} (hg : ∀ r a e, W1.rho[r]? = some a → g r = some e → rep K W2 (.ref a) e) (hF : ∀ b o, W1.F b = some o → W2.F b = some o) {ks : List (κ × V)} {kvs es : List (κ × Pv.D)} (h : repP K W1 ks kvs) (q : fzP g kvs = some es) : repP K W2 ks es := by
  induction h generalizing es with
  | nil => cases q; exact .nil
  | cons h _ ih =>
    obtain ⟨e, q1, q2⟩ := Option.bind_eq_some_iff.mp q
    obtain ⟨es', q3, q4⟩ := Option.map_eq_some_iff.mp q2
    subst q4
    exact .cons ⟨h.1, fz_rep hg hF _ _ _ h.2 q1⟩ (ih q3)
theorem fzO_rep (hg : ∀ r a e, W1.rho[r]? = some a → g r = some e → rep K W2 (.ref a) e) (hF : ∀ b o, W1.F b = some o → W2.F b = some o) {a : Addr} {m m' : MO} (h : repO K W1 H a m) (q : fzO g m = some m') : repO K W2 H a m' := by
  cases m with
  | lst ds => obtain ⟨es, q1, q2⟩ := Option.map_eq_some_iff.mp q; subst q2; obtain ⟨xs, h1, h2⟩ := h; exact ⟨xs, h1, fzL_rep hg hF _ _ _ h2 q1⟩
  | ro ds => obtain ⟨es, q1, q2⟩ := Option.map_eq_some_iff.mp q; subst q2; obtain ⟨o, xs, h1, h2⟩ := h; exact ⟨o, xs, h1, fzL_rep hg hF _ _ _ h2 q1⟩
  | dct ds => obtain ⟨es, q1, q2⟩ := Option.map_eq_some_iff.mp q; subst q2; obtain ⟨xs, h1, h2⟩ := h; exact ⟨xs, h1, fzP_rep hg hF h2 q1⟩
  | dctT ds => obtain ⟨es, q1, q2⟩ := Option.map_eq_some_iff.mp q; subst q2; obtain ⟨xs, h1, h2⟩ := h; exact ⟨xs, h1, fzP_rep hg hF h2 q1⟩
  | tb P q0 => cases q; exact h
theorem fzS_get {ms ms' : Sto} (q : fzS g ms = some ms') : ms'.length = ms.length ∧ ∀ (r : Nat) (m' : MO), ms'[r]? = some m' → ∃ m, ms[r]? = some m ∧ fzO g m = some m' := by
  induction ms generalizing ms' with
  | nil => cases q; exact ⟨rfl, fun r m' h => by simp at h⟩
  | cons m ms ih =>
    obtain ⟨e, q1, q2⟩ := Option.bind_eq_some_iff.mp q
    obtain ⟨es, q3, q4⟩ := Option.map_eq_some_iff.mp q2
    subst q4
    obtain ⟨l, f⟩ := ih q3
    refine ⟨by simp [l], fun r m' h => ?_⟩
    cases r with
    | zero => simp at h; subst h; exact ⟨m, rfl, q1⟩
    | succ r => exact f r m' (by simpa using h)
/-- the world behind a def's end -/
def isLo : Option HO → Bool
  | some (.lst _) => true
  | _ => false
def finW (n : Nat) (H : Hp) (W : Wd) : Wd := ⟨fun b => if b ∈ W.rho.drop n ∧ isLo (H b) = true then H b else W.F b, W.rho.take n⟩
theorem tbs_fz {g : Nat → Option Pv.D} : ∀ {ms ms' : Sto}, fzS g ms = some ms' → tbs ms' = tbs ms
  | [], _, q => by cases q; rfl
  | m :: ms, ms', q => by
    obtain ⟨e, q1, q2⟩ := Option.bind_eq_some_iff.mp q
    obtain ⟨es, q3, q4⟩ := Option.map_eq_some_iff.mp q2
    subst q4
    have ih := tbs_fz q3
    cases m with
    | tb P q0 => cases q1; simp [tbs, ih]
    | lst ds => obtain ⟨x, _, z⟩ := Option.map_eq_some_iff.mp q1; subst z; simp [tbs, ih]
    | ro ds => obtain ⟨x, _, z⟩ := Option.map_eq_some_iff.mp q1; subst z; simp [tbs, ih]
    | dct ds => obtain ⟨x, _, z⟩ := Option.map_eq_some_iff.mp q1; subst z; simp [tbs, ih]
    | dctT ds => obtain ⟨x, _, z⟩ := Option.map_eq_some_iff.mp q1; subst z; simp [tbs, ih]
theorem tbs_take : ∀ (st : Sto) (n : Nat), ∀ p ∈ tbs (st.take n), p ∈ tbs st
  | [], _, p, h => by simp [tbs] at h
  | m :: st, 0, p, h => by simp [tbs] at h
  | m :: st, n + 1, p, h => by
    have h' : p ∈ tbs (m :: st.take n) := h
    cases m with
    | tb P q =>
      rcases List.mem_cons.mp h' with e | e
      · subst e; exact List.mem_cons_self
      · exact List.mem_cons_of_mem _ (tbs_take st n p e)
    | _ => exact tbs_take st n p h'
theorem finW_F (h : HR K W1 H1 st1) {n : Nat} : ∀ b o, W1.F b = some o → (finW n H1 W1).F b = some o := fun b o e => by
  show (if b ∈ W1.rho.drop n ∧ isLo (H1 b) = true then H1 b else W1.F b) = some o
  split
  · exact h.sub _ _ e
  · exact e
theorem lookF_rep (h : HR K W1 H1 st1) {n : Nat} : ∀ (k : Nat) (r : Nat) (a : Addr) (e : Pv.D), W1.rho[r]? = some a → lookF k n st1 r = some e → rep K (finW n H1 W1) (.ref a) e := by
  intro k
  induction k with
  | zero =>
    intro r a e hr q
    unfold lookF at q
    split at q
    · rename_i hlt
      cases q
      exact ⟨r, a, rfl, rfl, by show (W1.rho.take n)[r]? = some a; rw [List.getElem?_take_of_lt hlt]; exact hr⟩
    · cases q
  | succ k ih =>
    intro r a e hr q
    unfold lookF at q
    split at q
    · rename_i hlt
      cases q
      exact ⟨r, a, rfl, rfl, by show (W1.rho.take n)[r]? = some a; rw [List.getElem?_take_of_lt hlt]; exact hr⟩
    · rename_i hlt
      simp only at q
      split at q
      · rename_i ds hd
        obtain ⟨es, q1, q2⟩ := Option.map_eq_some_iff.mp q
        subst q2
        obtain ⟨hF, xs, h1, h2⟩ := h.obj r a _ hr hd
        refine ⟨a, xs, rfl, ?_, fzL_rep ih (finW_F h) ds xs es h2 q1⟩
        show (if a ∈ W1.rho.drop n ∧ isLo (H1 a) = true then H1 a else W1.F a) = _
        rw [if_pos]
        · exact h1
        · refine ⟨?_, by rw [h1]; rfl⟩
          rw [List.mem_iff_getElem?]
          exact ⟨r - n, by rw [List.getElem?_drop]; rw [show n + (r - n) = r by omega]; exact hr⟩
      · cases q
/-- the end: what was made since the beginning is data now -/
theorem fin_hr {st' : Sto} (h : HR K W1 H1 st1) (x : Ext W H W1 H1) (n : Nat) (hn : W.rho.length = n) (k : Nat) (q : fzS (lookF k n st1) (st1.take n) = some st') : HR K (finW n H1 W1) H1 st' ∧ Ext W H (finW n H1 W1) H1 := by
  obtain ⟨l, f⟩ := fzS_get q
  obtain ⟨t, ht, hnew⟩ := x.rh
  have htake : W1.rho.take n = W.rho := by rw [ht, ← hn]; simp
  have hdrop : W1.rho.drop n = t := by rw [ht, ← hn]; simp
  refine ⟨⟨?_, h.nd.sublist (List.take_sublist _ _), fun b o e => ?_, fun r a m e1 e2 => ?_, fun p hp => h.tab p (tbs_take _ _ p (by rw [← tbs_fz q]; exact hp)), fun b ps e => ?_⟩, ⟨fun b o e => finW_F h b o (x.fr b o e), ⟨[], by show W1.rho.take n = _; rw [htake]; simp, fun _ z => by cases z⟩, x.out, x.non, fun b o e => ?_⟩⟩
  · show (W1.rho.take n).length = _
    rw [l, List.length_take, List.length_take, h.len]
  · have e' : (if b ∈ W1.rho.drop n ∧ isLo (H1 b) = true then H1 b else W1.F b) = some o := e
    split at e'
    · exact e'
    · exact h.sub _ _ e'
  · have e1' : (W1.rho.take n)[r]? = some a := e1
    have hlt : r < n := by
      have := (List.getElem?_eq_some_iff.mp e1').1
      rw [List.length_take] at this; omega
    rw [List.getElem?_take_of_lt hlt] at e1'
    obtain ⟨m0, g1, g2⟩ := f r m e2
    rw [List.getElem?_take_of_lt hlt] at g1
    obtain ⟨p, o⟩ := h.obj r a m0 e1' g1
    refine ⟨?_, fzO_rep (lookF_rep h k) (finW_F h) o g2⟩
    show (if a ∈ W1.rho.drop n ∧ isLo (H1 a) = true then H1 a else W1.F a) = none
    rw [if_neg]
    · exact p
    · rintro ⟨hm, _⟩
      obtain ⟨j, hj⟩ := List.mem_iff_getElem?.mp hm
      rw [List.getElem?_drop] at hj
      have := (List.getElem?_inj (List.getElem?_eq_some_iff.mp e1').1 h.nd).mp (e1'.trans hj.symm)
      omega
  · have e' : (if b ∈ W1.rho.drop n ∧ isLo (H1 b) = true then H1 b else W1.F b) = some (.tbl ps) := e
    split at e'
    · rename_i hm; rw [e'] at hm; cases hm.2
    · exact h.nt b ps e'
  · have e' : (if b ∈ W1.rho.drop n ∧ isLo (H1 b) = true then H1 b else W1.F b) = some o := e
    split at e'
    · rename_i hm; have hm := hm.1; rw [hdrop] at hm; exact .inr (.inl (hnew b hm))
    · exact x.nf _ _ e'
theorem fin_post {N : Nv} {Q : VK} {E : XK} {r : R Pv.D} (hr : HR N.K W H st) (p : Post N W H Q E (finR st.length r)) : Post N W H Q E r := by
  cases r with
  | bad => exact p
  | ok d st1 =>
    intro W1 v H1 x1 h1 r1
    unfold finR at p
    simp only at p
    split at p
    · exact p W1 v H1 x1 h1 r1
    · split at p
      · rename_i d' st' q1 q2
        obtain ⟨a, b⟩ := fin_hr h1 x1 st.length hr.len 6 q2
        exact p _ v H1 b a (fz_rep (lookF_rep h1 6) (finW_F h1) d v d' r1 q1)
      · exact p.elim
  | exc x st1 =>
    intro W1 c dd H1 x1 h1 r1
    unfold finR at p
    simp only at p
    split at p
    · exact p W1 c dd H1 x1 h1 r1
    · split at p
      · rename_i fs st' q1 q2
        obtain ⟨a, b⟩ := fin_hr h1 x1 st.length hr.len 6 q2
        obtain ⟨C, e1, e2, d, gs, e3, e4, e5⟩ := r1
        exact p _ c dd H1 b a ⟨C, e1, e2, d, gs, e3, finW_F h1 _ _ e4, fzP_rep (lookF_rep h1 6) (finW_F h1) e5 q1⟩
      · exact p.elim
end
abbrev Fn := List Pv.D → Sto → R Pv.D
def startD (n : Nat) (ds : List Pv.D) : Sl := ds.map some ++ List.replicate (n - ds.length) none
/-- the body run, its objects kept (fnK) or made data (fnP) -/
def endR (r : RS) : R Pv.D :=
  match r with
  | .nx _ st => .ok .none st
  | .rt d st => .ok d st
  | .exc x st => .exc x st
  | .bk _ _ => .bad
  | .ct _ _ => .bad
  | .bad => .bad
def fnK (n : Nat) (body : MS) : Fn := fun ds st => endR (body (startD n ds) st)
def fnP (n : Nat) (body : MS) : Fn := fun ds st => finR st.length (endR (body (startD n ds) st))
def spF (N : Nv) (n : Nat) (F : Fn) : Sp := fun vs H Q E => ∃ W ds st, HR N.K W H st ∧ repL N.K W vs ds ∧ ds.length = n ∧ Post N W H Q E (F ds st)
/-- as FnOk, around callers none of whom is held by a guard -/
structure FnG (P : Program) (w : World) (K : PySem.W.Frag) (mg : Str → Option Value) (base : Heap) (k : Nat) (f : Addr) (fd : FuncData) (ps : List Str) (F : Fn) : Prop where
  run : ∀ (A : Around) (outer : List Env) (s : Shared) (H : Hp) (args : Args) (us : List Value) (vs : List V) (Q : VK) (E : XK), Room k A → A.guards = some [] → Env0 P w K mg base A outer s H → BindsTo s fd args (ps.zip us) → Vals vs us → spF ⟨K, mg⟩ ps.length F vs H Q E →
    codeAny (model P w) A (.call (.ref f) args) (CR (L2.CX P w) outer P w H s Q E) s
theorem FnG.mono {P : Program} {w : World} {K : PySem.W.Frag} {mg : Str → Option Value} {base : Heap} {j k : Nat} {f : Addr} {fd : FuncData} {ps : List Str} {F : Fn} (g : FnG P w K mg base j f fd ps F) (h : j ≤ k) : FnG P w K mg base k f fd ps F :=
  ⟨fun A outer s H args us vs Q E hr => g.run A outer s H args us vs Q E (hr.mono h)⟩
theorem start_rep {K : PySem.W.Frag} {W : Wd} {Ns : List Str} {vs : List V} {ds : List Pv.D} (l : repL K W vs ds) : SR K W (L2.start Ns vs) (startD Ns.length ds) := by
  have e := repL_length l
  refine ⟨by unfold L2.start startD; simp [e], fun i d h => ?_⟩
  unfold startD at h
  unfold L2.start
  by_cases hi : i < ds.length
  · rw [List.getElem?_append_left (by simpa using hi), List.getElem?_map] at h
    rw [List.getElem?_append_left (by simpa [e] using hi), List.getElem?_map]
    cases q : ds[i]? with
    | none => rw [q] at h; cases h
    | some d' =>
      rw [q] at h
      cases h
      obtain ⟨v, a, b⟩ := repL_get i l q
      exact ⟨v, by rw [a]; rfl, b⟩
  · rw [List.getElem?_append_right (by simpa using hi), List.getElem?_replicate] at h
    split at h <;> cases h
theorem gd_of {X : Cx} {k : Nat} (hc : X.calm = true) (nd : X.N.Nodup) (r : Room k X.A) (gu : X.A.guards = some []) : Gd X := ⟨hc, nd, by have := r.un; omega, gu⟩
/-- the body's end, read back -/
theorem end_posts {N : Nv} {W : Wd} {H : Hp} {Q : VK} {E : XK} {n : Nat} {r : RS} (p : Post N W H Q E (endR r)) : PostS N n (fun cls dd _ H' => E cls dd H') W H { nx := fun _ H' => Q .non H', rt := Q } r := by
  cases r with
  | nx sl st => exact fun W1 sh H1 l x h s => p W1 .non H1 x h rfl
  | rt d st => exact fun W1 v H1 x h r => p W1 v H1 x h r
  | exc x st => exact fun W1 sh c dd H1 l e h r => p W1 c dd H1 e h r
  | bk _ _ => exact p.elim
  | ct _ _ => exact p.elim
  | bad => exact p.elim
section
variable {P : Program} {w : World} {K : PySem.W.Frag} {mg : Str → Option Value} {base : Heap}
/-- a body's context -/
abbrev Cb (P : Program) (w : World) (K : PySem.W.Frag) (mg : Str → Option Value) (base : Heap) (Ns : List Str) (qual : Str) (st : Stmt) (f : Addr) (cdv : Value) (A : Around) (outer : List Env) (s : Shared) (H : Hp) (E : XK) : Cx :=
  cxOf (L2.CX P w) P w K mg base Ns qual (defScope st) f cdv A outer s H E
abbrev Ew (E : XK) : WX := fun cls dd _ H' => E cls dd H'
/-- a def whose code object is named -/
def FunCd (K : PySem.W.Frag) (x qual : Str) (st : Stmt) (f : Addr) (fd : FuncData) (cdv : Value) : Prop :=
  ∃ (oc : Value) (od : Option Addr) (kV doc pm : Value) (an : Option Addr) (ct : Value) (osl : Array (Option Value)),
    fd = PySem.W.fnOf x qual (defArgs st) (defBody st) (defScope st) .none kV doc pm an cdv ct ∧ K.lookup f = some ⟨oc, od, .func fd, osl⟩ ∧ PySem.W.codeIn K cdv qual = true
theorem fnG_cd {x qual : Str} {st : Stmt} {f : Addr} {fd : FuncData} {cdv : Value} {Ns ps : List Str} {k : Nat} {m : MS} {F : Fn} (h : FunCd K x qual st f fd cdv) (S : FnScope Ns ps (defScope st))
    (hF : F = fnK Ns.length m ∨ F = fnP Ns.length m)
    (hb : ∀ A outer s H E, Gd (Cb P w K mg base Ns qual st f cdv A outer s H E) → Room k (Cb P w K mg base Ns qual st f cdv A outer s H E).A → Takes (Cb P w K mg base Ns qual st f cdv A outer s H E) (Ew E) →
      PassesOwn (model P w) (Cb P w K mg base Ns qual st f cdv A outer s H E).A (Cb P w K mg base Ns qual st f cdv A outer s H E).env (Cb P w K mg base Ns qual st f cdv A outer s H E).xe →
      GSs (Cb P w K mg base Ns qual st f cdv A outer s H E) (Ew E) (defBody st) m) : FnG P w K mg base (k + 1) f fd ps F := by
  obtain ⟨oc, od, kV, doc, pm, an, ct, osl, rfl, lk, hcd⟩ := h
  constructor
  intro A outer s H args us vs Q E hr hgu e0 hbn rv hsp
  obtain ⟨W, ds, st0, hR, hL, hl, hP⟩ := hsp
  have hlv : vs.length = ps.length := (repL_length hL).trans hl
  have kin := e0.mod.kin.keeps fun b o e => (e0.bs b o e).1
  have nolim := e0.mod.nolimit.keeps fun b o e => (e0.bs b o e).1
  have kinds : ∀ y ∈ ps.zip us, (defScope st).names.lookup y.1 = some .local ∨ ((defScope st).names.lookup y.1 = some .cell ∧ ((cellsFrom (s.heap.objs.size + 1) (defScope st).names []).lookup y.1).isSome = true) := by
    intro y hy
    obtain ⟨nm, u⟩ := y
    cases S.par nm (List.of_mem_zip hy).1 with
    | inl q => exact Or.inl q
    | inr q => exact Or.inr ⟨q, PySem.W.cellsFrom_some _ _ _ (Or.inl q)⟩
  have rest : Room k (A.deeper (envOfC qual (defScope st) s.heap.objs.size f cdv)) := hr.deeper _
  refine codeAny_call_function hr.depth (kin _ _ lk) rfl S.co S.gen rfl (PySem.W.codeRec_of kin hcd) (hbn _ _ _ _ (wpAny_newFunctionEnv_cells S.kind kinds ?_))
  intro env hen s1 xin
  subst hen
  refine ⟨nolim.keeps xin.toInCall.keep, codeAny_func ?_⟩
  have G : Gd (Cb P w K mg base Ns qual st f cdv A outer s H E) := gd_of (k := k) rfl S.nd rest hgu
  have B := hb A outer s H E G rest (takes_of rfl rfl rfl rfl) (passes_of rfl)
  have I := inv_start (CX := L2.CX P w) (w := w) (cd := cdv) (E := E) S hr.hd e0 hlv rv xin
  have hP' : Post ⟨K, mg⟩ W H Q E (endR (m (startD Ns.length ds) st0)) := by
    rcases hF with q | q
    · subst q; exact hP
    · subst q; exact fin_post hR hP
  have J := B.run [] s1 (L2.start Ns vs) H { nx := fun _ H' => Q .non H', rt := Q } I ⟨W, _, st0, hR, start_rep hL, end_posts hP'⟩
  refine wpAny_mono J ?_ fun e s' z => z
  intro fl s' z
  cases fl with
  | ret u => obtain ⟨v, σ', H', I', q1, q2⟩ := z; exact ⟨v, H', I'.os, I'.bare, I'.base, I'.hok, q1, q2⟩
  | next => obtain ⟨σ', H', I', q2⟩ := z; exact ⟨V.non, H', I'.os, I'.bare, I'.base, I'.hok, rfl, q2⟩
  | brk => obtain ⟨_, _, _, z⟩ := z; exact z.elim
  | cont => obtain ⟨_, _, _, z⟩ := z; exact z.elim
theorem fnG_of {x qual : Str} {st : Stmt} {f : Addr} {fd : FuncData} {Ns ps : List Str} {k : Nat} {m : MS} {F : Fn} (h : Fun K x qual st f fd) (S : FnScope Ns ps (defScope st))
    (hF : F = fnK Ns.length m ∨ F = fnP Ns.length m)
    (hb : ∀ cdv A outer s H E, Gd (Cb P w K mg base Ns qual st f cdv A outer s H E) → Room k (Cb P w K mg base Ns qual st f cdv A outer s H E).A → Takes (Cb P w K mg base Ns qual st f cdv A outer s H E) (Ew E) →
      PassesOwn (model P w) (Cb P w K mg base Ns qual st f cdv A outer s H E).A (Cb P w K mg base Ns qual st f cdv A outer s H E).env (Cb P w K mg base Ns qual st f cdv A outer s H E).xe →
      GSs (Cb P w K mg base Ns qual st f cdv A outer s H E) (Ew E) (defBody st) m) : FnG P w K mg base (k + 1) f fd ps F := by
  obtain ⟨oc, od, kV, doc, pm, an, cdv, ct, osl, rfl, lk, hcd⟩ := h.ex
  exact fnG_cd ⟨oc, od, kV, doc, pm, an, ct, osl, rfl, lk, hcd⟩ S hF fun A outer s H E => hb cdv A outer s H E
end
def mCall (fn : Fn) (ms : Ms) : M := fun sl st => (ms sl st).bind fn
/-- a def as the text's bodies call it -/
structure Df (P : Program) (w : World) (K : PySem.W.Frag) (mg : Str → Option Value) (base : Heap) (k : Nat) (x : Str) (f : Addr) (fd : FuncData) (ps : List Str) (F : Fn) : Prop where
  fn : FnG P w K mg base k f fd ps F
  mg : mg x = some (.ref f)
  kp : PySem.W.keepIn K (.ref f) = true
  bd : Binds K fd ps []
theorem Df.mono {P : Program} {w : World} {K : PySem.W.Frag} {mg : Str → Option Value} {base : Heap} {j k : Nat} {x : Str} {f : Addr} {fd : FuncData} {ps : List Str} {F : Fn} (d : Df P w K mg base j x f fd ps F) (h : j ≤ k) : Df P w K mg base k x f fd ps F :=
  ⟨d.fn.mono h, d.mg, d.kp, d.bd⟩
section
variable {X : Cx} {Wx : WX} {k j : Nat} {f : Addr} {fd : FuncData} {ps : List Str} {F : Fn} {x : Str} {p pos : Pos} {e : Expr} {es : List Expr} {ms : Ms}
theorem run_G {pins : List (Addr × Obj)} {H : Hp} {s : Shared} {Q : VK} {args : Args} {us : List Value} {vs : List V} {sh : L2.St} (fn : FnG X.prog X.w X.K X.mg X.base k f fd ps F) (hr : Room k X.A) (g : Gd X) (tk : Takes X Wx)
    (I : Inv X pins sh H s) (b : BindsTo s fd args (ps.zip us)) (r : Vals vs us) (h : spF ⟨X.K, X.mg⟩ ps.length F vs H Q (fun cls dd H' => Wx cls dd sh H')) : wpAny (model X.prog X.w) X.A (call (.ref f) args.pos args.kw) (EP X pins sh Q) X.xe s := by
  have c := fn.run X.A X.stack s H args us vs Q _ hr g.gu I.env0 b r h
  refine wpAny_call (codeAny_mono c ?_)
  intro rr s' z
  cases rr with
  | error u => exact passAt tk sh pins H s u s' I z
  | ok fl => cases fl with
    | ret u => exact I.after z
    | next => exact z.elim
    | brk => exact z.elim
    | cont => exact z.elim
theorem ms_read {ms : Ms} {N : Nv} {W : Wd} {H : Hp} {sl : Sl} {st : Sto} {sh : L2.St} {n : Nat} {Q : VK} (hn : ∀ sl st ds st', ms sl st = .ok ds st' → ds.length = n) (hr : HR N.K W H st) (hs : SR N.K W sh sl) (p : Post N W H Q (fun cls dd H' => Wx cls dd sh H') (mCall F ms sl st)) :
    rdL N Wx ms sh H fun vs H1 => spF N n F vs H1 Q fun cls dd H' => Wx cls dd sh H' :=
  rdL_bind hr hs p fun ds st1 W1 vs H1 e1 x1 h1 s1 l1 p1 => ⟨W1, ds, st1, h1, l1, hn _ _ _ _ e1, p1⟩
/-- f(e, ..) -/
theorem ge_call (d : Df X.prog X.w X.K X.mg X.base k x f fd ps F) (hr : Room k X.A) (g : Gd X) (tk : Takes X Wx) (ha : GA X Wx (e :: es) ms) (hn : ∀ sl st ds st', ms sl st = .ok ds st' → ds.length = ps.length) (hg : Gl X x := by rfl) (hdb : (x == ("__debug__" : Str)) = false := by decide +kernel)
    (he : starEach (e :: es) X.env = (false, eval e X.env) :: starEach es X.env := by rfl) (hpl : (backTo pos (starEach es X.env)).any (·.1) = false := by rfl) : GE X Wx (.Call (.Name x p) (e :: es) [] pos) (mCall F ms) := by
  refine ⟨fun pins s sh H Q I ⟨W, sl, st, hr', hs, q⟩ => wpAny_Call_Name_kw (ld_glob I hg d.mg ?_ hdb)⟩
  refine PySem.W.callWith_K (h₀ := X.base) I.ok.mod.kin d.kp (thn (ha.run pos pins s sh H _ I (ms_read hn hr' hs q)) ?_) he hpl
  intro us s1 ⟨vs, H1, I1, r, q1⟩
  obtain ⟨_, ds, _, _, l1, l2, _⟩ := id q1
  have hl : us.length = ps.length := by rw [← r.length, repL_length l1, l2]
  have b := d.bd s1 us I1.kIn (by rw [List.append_nil]; exact hl)
  rw [List.append_nil] at b
  exact ⟨I1.kIn, run_G (args := ⟨us, []⟩) d.fn hr g tk I1 b r q1⟩
/-- f() -/
theorem ge_call0 (d : Df X.prog X.w X.K X.mg X.base k x f fd [] F) (hr : Room k X.A) (g : Gd X) (tk : Takes X Wx) (hg : Gl X x := by rfl) (hdb : (x == ("__debug__" : Str)) = false := by decide +kernel) : GE X Wx (.Call (.Name x p) [] [] pos) (mCall F msNil) := by
  refine ⟨fun pins s sh H Q I ⟨W, sl, st, hr', hs, q⟩ => wpAny_Call_Name_kw (ld_glob I hg d.mg ?_ hdb)⟩
  have b := d.bd s [] I.kIn rfl
  exact PySem.W.callWith_K0 I.kIn d.kp (run_G (args := ⟨[], []⟩) (us := []) (vs := []) d.fn hr g tk I b .nil ⟨W, [], st, hr', rfl, rfl, q⟩)
/-- keywords' values -/
def GK (X : Cx) (Wx : WX) (kws : List Keyword) (ms : Ms) : Prop := PK X kws (rdL (nv X) Wx ms)
theorem gk_nil : GK X Wx [] msNil := ⟨fun pos pins s sh H Q I ⟨W, sl, st, hr, hs, q⟩ => pk_nil.run pos pins s sh H Q I (PostL.now (vs := []) hr q rfl)⟩
theorem gk_cons {nm : Option Str} {kpos : Pos} {kws : List Keyword} {m : M} (ha : GE X Wx e m) (hr : GK X Wx kws ms) : GK X Wx (⟨nm, e, kpos⟩ :: kws) (msCons m ms) := by
  refine ⟨fun pos pins s sh H Q I ⟨W, sl, st, hr', hs, q⟩ => (pk_cons ha hr).run pos pins s sh H Q I ?_⟩
  refine rd_bindL hr' hs q fun d1 st1 W1 v1 H1 e1 x1 h1 s1 r1 p1 => ?_
  refine rdL_bindL h1 s1 p1 fun ds st2 W2 vs H2 e2 x2 h2 s2 r2 p2 => ?_
  exact PostL.now h2 p2 ⟨v1, vs, rfl, x2.rep r1, r2⟩
/-- how a call by keywords alone binds -/
structure BindsK (K : PySem.W.Frag) (fd : FuncData) (ps ks : List Str) (g : {α : Type} → List α → List α) : Prop where
  to : ∀ (s : Shared) (ws : List Value), K.In s.heap → ws.length = ks.length → BindsTo s fd ⟨[], ks.zip ws⟩ (ps.zip (g ws))
  rep : ∀ {K : PySem.W.Frag} {W : Wd} {vs : List V} {ds : List Pv.D}, repL K W vs ds → vs.length = ks.length → repL K W (g vs) (g ds)
  rel : ∀ {vs : List V} {us : List Value}, Vals vs us → vs.length = ks.length → Vals (g vs) (g us)
  len : ∀ {ds : List Pv.D}, ds.length = ks.length → (g ds).length = ps.length
/-- f(k = v, ..) -/
theorem ge_callK0 {ks : List Str} {g' : {α : Type} → List α → List α} {kws : List Keyword} (d : Df X.prog X.w X.K X.mg X.base k x f fd ps F) (b : BindsK X.K fd ps ks g') (hr : Room k X.A) (g : Gd X) (tk : Takes X Wx) (ha : GK X Wx kws ms) (hn : ∀ sl st ds st', ms sl st = .ok ds st' → ds.length = ks.length)
    (hall : (backToKw pos (keywordEach kws X.env)).all (·.1.isSome) = true := by rfl) (hks : (backToKw pos (keywordEach kws X.env)).filterMap (·.1) = ks := by rfl) (hg : Gl X x := by rfl) (hdb : (x == ("__debug__" : Str)) = false := by decide +kernel)
    (hpl : ((backTo pos (starEach [] X.env)).any (·.1) || (backToKw pos (keywordEach kws X.env)).any (·.1.isNone)) = false := by rfl) : GE X Wx (.Call (.Name x p) [] kws pos) (mCall (fun ds => F (g' ds)) ms) := by
  refine ⟨fun pins s sh H Q I ⟨W, sl, st, hr', hs, q⟩ => wpAny_Call_Name_kw (ld_glob I hg d.mg ?_ hdb)⟩
  refine PySem.W.callWith_KW0 (h₀ := X.base) I.ok.mod.kin d.kp hall (thn (ha.run pos pins s sh H _ I (ms_read (n := ks.length) hn hr' hs q)) ?_) hpl
  intro us s1 ⟨vs, H1, I1, r, q1⟩
  obtain ⟨W1, ds, st1, h1, l1, l2, p1⟩ := q1
  have hv : vs.length = ks.length := (repL_length l1).trans l2
  rw [hks]
  refine ⟨I1.kIn, run_G (args := ⟨[], ks.zip us⟩) d.fn hr g tk I1 (b.to s1 us I1.kIn (r.length.symm.trans hv)) (b.rel r hv) ⟨W1, g' ds, st1, h1, b.rep l1 hv, b.len l2, p1⟩⟩
end
end Pv
set_option Elab.async false
set_option linter.all false
set_option maxRecDepth 100000
set_option maxHeartbeats 4000000
namespace Pv
open PySem PySem.Spec L2
open PyProof.Rows hiding St
inductive Ty where
  | non | bool | int | str | list | tuple | dict
  deriving DecidableEq
def Ty.name : Ty → String
  | .non => "NoneType"
  | .bool => "bool"
  | .int => "int"
  | .str => "str"
  | .list => "list"
  | .tuple => "tuple"
  | .dict => "dict"
def Ty.sub : Ty → Ty → Bool
  | .non, .non => true
  | .bool, .bool => true
  | .bool, .int => true
  | .int, .int => true
  | .str, .str => true
  | .list, .list => true
  | .tuple, .tuple => true
  | .dict, .dict => true
  | _, _ => false
theorem kit_all (a b : Ty) : kitB a.name b.name = some (a.sub b) := by cases a <;> cases b <;> decide +kernel
def tyD (st : Sto) (d : Pv.D) : Option Ty :=
  match d with
  | .none => some .non
  | .bool _ => some .bool
  | .int _ => some .int
  | .str _ => some .str
  | .list _ => some .list
  | .tuple _ => some .tuple
  | .dict [(.int r, .none)] => (match st[r.toNat]? with | some (.lst _) => some .list | some (.ro _) => some .list | some (.dct _) => some .dict | some (.dctT _) => some .dict | some (.tb _ _) => none | none => none)
  | _ => none
section
variable {X : Cx} {Wx : WX} {ea eb e : Expr} {ma mb : M} {pos p p2 : Pos} {K : PySem.W.Frag} {W : Wd} {H : Hp} {st : Sto} {v : V} {d : Pv.D}
theorem ty_rep {t : Ty} (hr : HR K W H st) (h : rep K W v d) (e : tyD st d = some t) : TyX K H v (.type t.name) := by
  cases d with
  | none => cases e; cases h; exact .base .non
  | bool b => cases e; cases h; exact .base (.bl b)
  | int i => cases e; cases h; exact .base (.int i)
  | str x => cases e; cases h; exact .base (.str x)
  | list ds => cases e; obtain ⟨a, xs, e1, e2, l⟩ := h; subst e1; exact .base (.lst (hr.sub _ _ e2))
  | tuple ds => cases e; obtain ⟨a, xs, e1, e2, l⟩ := h; subst e1; exact .base (.tup (hr.sub _ _ e2))
  | dict kvs =>
    unfold tyD at e
    split at e
    all_goals (first | (rename_i q; cases q; done) | skip)
    · rename_i i q
      rcases rep_dict h with ⟨r, a, e1, e2, e3⟩ | ⟨ds', a, xs, e1, _, _⟩ | ⟨ds', a, xs, e1, _, _⟩ | ⟨ae, ade, ce, nse, fse, he⟩
      rotate_left
      · subst e1; cases q
      · subst e1; cases q
      · subst he; cases q
      subst e1
      cases q
      rw [Int.toNat_natCast] at e
      obtain ⟨m, hm, _, ho⟩ := hr.at e3
      rw [hm] at e
      subst e2
      cases m with
      | lst ds => cases e; obtain ⟨xs, f, _⟩ := ho; exact .base (.lst f)
      | ro ds => cases e; obtain ⟨o, xs, f, _⟩ := ho; exact .base (.frz f)
      | dct ds => cases e; obtain ⟨xs, f, _⟩ := ho; exact .base (.dK f)
      | dctT ds => cases e; obtain ⟨xs, f, _⟩ := ho; exact .base (.dT f)
      | tb _ _ => cases e
    · cases e
def mIsi (T : Ty) (m : M) : M := fun sl st => (m sl st).bind fun d st => lift ((tyD st d).map fun t => .bool (t.sub T)) st
theorem ge_isi {y : Str} (T : Ty) (hm : X.mg "isinstance" = none) (hmy : X.mg y = none) (ha : GE X Wx ea ma) (hv : bootBuiltins y = some (.type T.name) := by decide +kernel) (hg : Gl X "isinstance" := by rfl) (hgy : Gl X y := by rfl) (hn : y ≠ "__name__" := by decide +kernel) (hd : (y == ("__debug__" : Str)) = false := by decide +kernel)
    (he : starEach [ea, .Name y p2] X.env = (false, eval ea X.env) :: starEach [.Name y p2] X.env := by rfl) (he2 : starEach [.Name y p2] X.env = (false, eval (.Name y p2) X.env) :: starEach [] X.env := by rfl) (hpl : (backTo pos (starEach [.Name y p2] X.env)).any (·.1) = false := by rfl) : GE X Wx (.Call (.Name "isinstance" p) [ea, .Name y p2] [] pos) (mIsi T ma) := by
  have hy : PE X (.Name y p2) (tC (.ty T.name)) := pe_bltn hgy hmy hv rfl hn hd
  refine PE.imp (pe_callB (call_isi (X := X)) hg hm (by decide +kernel) (pa_cons ha (pa_cons hy pa_nil he2) he) (by decide +kernel) (by decide +kernel) he hpl) fun sh H Q ⟨W, sl, st, hr, hs, q⟩ => ?_
  refine rd_bind hr hs q fun d1 st1 W1 v1 H1 e1 x1 h1 s1 r1 p1 => ?_
  cases ht : tyD st1 d1 with
  | none => rw [ht] at p1; exact p1.elim
  | some t =>
    rw [ht] at p1
    exact ⟨v1, .ty T.name, _, _, _, rfl, .ty _, ty_rep h1 r1 ht, kit_ty (kit_all t T), p1.val h1 rfl⟩
def reprD (st : Sto) (d : Pv.D) : Option Pv.D := if (deref st d).canLay0 = true ∧ (deref st d).showable = true ∧ (deref st d).depth ≤ 100 ∧ (deref st d).shown.length ≤ sizeLine then some (.str (deref st d).shown) else none
theorem call_reprD (g : Gd X) : CallR X (.builtin "repr") (fun xs H Q => ∃ v d, xs = [v] ∧ Dp X.K H v d ∧ d.canLay0 = true ∧ d.showable = true ∧ d.depth ≤ 100 ∧ d.shown.length ≤ sizeLine ∧ Q (.str d.shown) H) := by
  intro pins s sh H xs us Q I r ⟨v, d, ex, hd, hc, hs, hdp, hz, q⟩
  subst ex
  obtain ⟨u, rfl, ru⟩ := vals1 r
  have hu := g.un
  have read : ∀ (a : Addr), v = .ref a → wpAny (model X.prog X.w) X.A (call (.builtin "repr") [u]) (EP X pins sh Q) X.xe s := by
    intro a ev
    subst ev
    obtain ⟨as, rd⟩ := Dp.reads I d _ u hd ru
    cases (show u = Value.ref a from ru)
    exact repr_of_reads' rd hs (PyData.noDict_hsm (PyData.hasDict_of_canLay d hc)) g.gu (by omega) (fun _ _ e => e) (fun h' t tk k => ⟨.str d.shown, H, I.kept k, ⟨t, rfl⟩, q⟩) hz
  cases hd with
  | non => cases ru; exact PySem.P.repr_of_none ⟨.str _, H, I.tok _, ⟨_, rfl⟩, q⟩
  | bl b => cases ru; exact PySem.P.repr_of_bool ⟨.str _, H, I.tok _, ⟨_, rfl⟩, by cases b <;> exact q⟩
  | int i => obtain ⟨t, rfl⟩ := ru; exact PySem.P.repr_of_int (by simpa [PyData.showable] using hs) ⟨.str _, H, I.tok _, ⟨_, rfl⟩, q⟩
  | str x => obtain ⟨t, rfl⟩ := ru; exact PySem.P.repr_of_str ⟨.str _, H, I.tok _, ⟨_, rfl⟩, q⟩ hz
  | lst _ _ => exact read _ rfl
  | tup _ _ => exact read _ rfl
def mRepr (m : M) : M := fun sl st => (m sl st).bind fun d st => lift (reprD st d) st
def dMulS : Pv.D → Pv.D → Option Pv.D
  | .int i, .int j => if (-(2 ^ 64) < i ∧ i < 2 ^ 64) ∨ (-(2 ^ 64) < j ∧ j < 2 ^ 64) then some (.int (i * j)) else none
  | .tuple ds, .int k => if ds ≠ [] ∧ 2 ≤ k ∧ k ≤ 1000 ∧ ds.length ≤ 1000 then some (.tuple (List.replicate k.toNat ds).flatten) else none
  | .list ds, .int k => if -(2 ^ 63) ≤ k ∧ k < 2 ^ 63 ∧ ds.length * k.toNat ≤ sizeLine then some (.list (List.replicate k.toNat ds).flatten) else none
  | _, _ => none
theorem repL_rep {vs : List V} {ds : List Pv.D} (h : repL K W vs ds) : ∀ n : Nat, repL K W (List.replicate n vs).flatten (List.replicate n ds).flatten
  | 0 => rfl
  | n + 1 => by rw [List.replicate_succ, List.replicate_succ, List.flatten_cons, List.flatten_cons]; exact repL_append h (repL_rep h n)
def mMulS : M → M → M := mOp2 (onD2 dMulS)
theorem ge_mulS (ha : GE X Wx ea ma) (hb : GE X Wx eb mb) : GE X Wx (.BinOp ea .Mult eb pos) (mMulS ma mb) := by
  refine ge_op2 onD2_nx ?_ (pe_op ((op_mul.or op_repT).or op_rep) ha hb)
  intro W H st x y dx dy Q hr rx ry p
  obtain ⟨d, e, p⟩ := onD2_post p
  unfold dMulS at e
  split at e
  · rename_i i j e1 e2
    split at e
    · rename_i hc
      cases e
      exact .inl (.inl ⟨i, j, rep_dint hr rx e1, rep_dint hr ry e2, hc, p.val hr rfl⟩)
    · cases e
  · rename_i ds k e1 e2
    split at e
    · rename_i hc
      cases e
      obtain ⟨a, xs, f1, f2, l⟩ := rep_dtuple hr rx e1
      have hl := repL_length l
      refine .inl (.inr ⟨a, k, xs, f1, rep_dint hr ry e2, f2, fun z => ?_, hc.2.1, hc.2.2.1, by rw [hl]; exact hc.2.2.2, p.tup hr (repL_rep l _)⟩)
      subst z
      exact hc.1 (List.length_eq_zero_iff.mp hl.symm)
    · cases e
  · rename_i ds k e1 e2
    split at e
    · rename_i hc
      cases e
      obtain ⟨a, xs, f1, f2, l⟩ := rep_dlist hr rx e1
      exact .inr ⟨a, k, xs, f1, rep_dint hr ry e2, f2, hc.1, hc.2.1, by rw [repL_length l]; exact hc.2.2, p.lst hr (repL_rep l _)⟩
    · cases e
  · cases e
end
section
variable {prog : Program} {w : World} {A : Around} {E : Value → Shared → Prop} {s : Shared}
theorem fm_congr {α β : Type} {f g : α → Option β} : ∀ {l : List α}, (∀ k ∈ l, f k = g k) → l.filterMap f = l.filterMap g
  | [], _ => rfl
  | a :: l, h => by rw [List.filterMap_cons, List.filterMap_cons, h a List.mem_cons_self, fm_congr fun k hk => h k (List.mem_cons_of_mem _ hk)]
end
section
variable {X : Cx} {Wx : WX} {ea eb e : Expr} {ma mb : M} {pos p p1 p2 p3 : Pos} {K : PySem.W.Frag} {W : Wd} {H : Hp} {st : Sto} {v : V} {d : Pv.D} {k : Nat}
def dRev : Pv.D → Option Pv.D
  | .list ds => some (.list ds.reverse)
  | .tuple ds => some (.tuple ds.reverse)
  | _ => none
def mRev : M → M := mOp1 (onD1 dRev)
end
end Pv
set_option Elab.async false
set_option linter.all false
set_option maxRecDepth 100000
set_option maxHeartbeats 4000000
namespace Pv
open PySem PySem.Spec L2
open PyProof.Rows hiding St
section
variable {prog : Program} {w : World} {A : Around} {E : Value → Shared → Prop} {s : Shared}
set_option maxHeartbeats 1000000 in
theorem enum_new1 {v : Value} {o : Obj} {H : Heap → Prop} (B : Begins v o H) : Meets (Builtin.«enumerate.__new__» ⟨[.type "enumerate", v], []⟩) (fun _ R s => H s.heap ∧
      R (.ok (.ret (.ref (s.heap.push o).objs.size))) { s with heap := (s.heap.push o).push { cls := .type "enumerate", data := .fields #[.none, .bool false, .ref s.heap.objs.size, rawInt 0, .none, .none] } }) :=
  .of_wp fun prog w A R s h => by
    obtain ⟨hp, g, d, tk, os⟩ := s
    obtain ⟨h1, h⟩ := h
    have subE := sub_enumerate
    have iter : ∀ {A' : Around} {E : Value → Shared → Prop} {Q : Value → Shared → Prop}, Q (.ref hp.objs.size) ⟨hp.push o, g, d, tk, os⟩ → wpAny (model prog w) A' (pyIter v) Q E ⟨hp, g, d, tk, os⟩ :=
      fun z => B.iter prog w _ _ ⟨hp, g, d, tk, os⟩ _ h1 z
    wp_walk using iter
    refine wpAny_stack_any (fun st => wpAny_pure ?_)
    split
    · rename_i c _ _ _ _ _
      cases (c == Value.type "enumerate") <;> (wp_walk using iter; exact ⟨_, rfl, h⟩)
    · wp_walk using iter
      exact ⟨_, rfl, h⟩
theorem enum_call1 {v : Value} {o : Obj} {H : Heap → Prop} {Q : Value → Shared → Prop} (B : Begins v o H) (h1 : H s.heap)
    (h : ∀ h', IsEnum h' (s.heap.objs.size + 1) s.heap.objs.size 0 .none → h'.get? s.heap.objs.size = some o → (∀ b o, s.heap.get? b = some o → h'.get? b = some o) → Q (.ref (s.heap.objs.size + 1)) { s with heap := h' }) :
    wpAny (model prog w) A (call (.type "enumerate") [v]) Q E s := by
  have size1 : (s.heap.push o).objs.size = s.heap.objs.size + 1 := Heap.size_push ..
  refine callType_new F.called_enumerate (by decide) (F.typeCall_enumerate_1 _) (F.newCall_enumerate_1 _) (fun obj => F.args_object_init_2 obj _) F.entry_enumerate_new (enum_new1 B) ⟨h1, ?_⟩
  show _ ∧ _
  rw [size1]
  have isE : IsEnum ((s.heap.push o).push { cls := .type "enumerate", data := .fields #[.none, .bool false, .ref s.heap.objs.size, rawInt 0, .none, .none] }) (s.heap.objs.size + 1) s.heap.objs.size 0 .none := by
    rw [← size1]
    exact Heap.get?_push_size (s.heap.push o) rfl
  exact ⟨⟨_, isE, rfl⟩, h _ isE (Heap.get?_push_of_some _ (Heap.get?_push_size _ B.free)) fun b o x => Heap.get?_push_of_some _ (Heap.get?_push_of_some _ x)⟩
end
def IteT (K : PySem.W.Frag) (a : Addr) : It :=
  ⟨fun i H => ∃ (xs : List V) (x : V), SqT K H a xs ∧ xs[i]? = some x, fun i H v H' => ∃ T x, v = .ref T ∧ H T = none ∧ H' = upd H T (.tup [.int (i : Nat), x]) ∧ ∀ xs, SqT K H a xs → xs[i]? = some x, fun i H => ∃ xs : List V, SqT K H a xs ∧ xs.length ≤ i⟩
theorem turn_enumT {P : Program} {w : World} {K : PySem.W.Frag} {elts : List Expr} {kk : Nat} {tpos : Pos} (a e it : Addr) :
    Turn P w K (.Tuple elts kk tpos) (IteT K a) [e, it] e (fun i h => (∃ old, IsEnum h e it ((i : Nat) : Int) old) ∧ h.IsTupleIter it a i ∧ e ≠ it ∧ a ≠ it ∧ e ≠ a) where
  mem := by simp
  obj := by
    intro i h st b hb
    obtain ⟨⟨old, he⟩, ⟨o, ho, hc, hd⟩, _⟩ := st
    rcases (show b = e ∨ b = it by simpa using hb) with z | z
    · subst z; exact ⟨_, he, fun v q => nomatch q⟩
    · subst z; exact ⟨o, ho, fun v q => by rw [hd] at q; cases q⟩
  keep := by
    intro i h h' ⟨⟨old, he⟩, hi, ne⟩ k
    exact ⟨⟨old, k e (by simp) _ he⟩, hi.at fun o q => k it (by simp) o q, ne⟩
  item := by
    intro X hP hw hK hc i pins s sh H E I hf ⟨⟨old, he⟩, hit, hne, hai, hea⟩ ⟨xs, x, hq, hx⟩
    subst hP hw hK
    obtain ⟨its, rv, p, hz⟩ := I.tuple hq
    obtain ⟨u, hu, ru⟩ := rv.get hx
    have le : e < s.heap.objs.size := Heap.lt_size he
    have li : it < s.heap.objs.size := let ⟨_, q, _⟩ := hit; Heap.lt_size q
    have Dr : Draws X.prog X.w X.A.in1 it [it, a] its.toArray.size (fun i v => its.toArray[i]? = some v) (fun i h => h.IsTupleIter it a i ∧ h.IsTuple a its.toArray) :=
      .tuple (A := X.A.in1) (show X.A.in1.handled = none from I.ok.hd hc) it a hai its.toArray
    have hlt : i < its.toArray.size := by rw [List.size_toArray]; exact (List.getElem?_eq_some_iff.mp hu).1
    refine wpAny_pyNext_enum_itemD Dr he ⟨hit, p⟩ hlt hne (by simp [hne, hea]) ?_
    intro x1 h' tk hx1 ho ⟨hit', _⟩ hT hsz hk
    have ex1 : x1 = u := by
      have hx1' : its[i]? = some x1 := by simpa using hx1
      rw [hu] at hx1'; cases hx1'; rfl
    subst ex1
    refine ⟨_, rfl, wpAny_letOwnedTupleGo_enum (s := { s with heap := h', toks := tk + 1 }) ho ?_⟩
    intro h'' he' sb
    have hT2 : h''.get? s.heap.objs.size = some { cls := .type "tuple", data := .seq #[.int i tk, x1] } := (sb.2 _ (Nat.ne_of_gt le)).trans hT
    have new : ObjOk X.prog X.w (upd H s.heap.objs.size (.tup [.int (i : Nat), x])) h'' s.heap.objs.size (.tup [.int (i : Nat), x]) :=
      ⟨(by decide : (2 : Nat) ≤ sizeLine), [.int i tk, x1], .cons ⟨_, rfl⟩ (.cons ru .nil), ⟨_, hT2, rfl, _, rfl⟩⟩
    have keep2 : ∀ b ob, b ∉ [e, it] → s.heap.get? b = some ob → h''.get? b = some ob := by
      intro b ob hb q
      have hb1 : b ≠ e := fun z => hb (by simp [z])
      have hb2 : b ≠ it := fun z => hb (by simp [z])
      exact (sb.2 b hb1).trans (hk b ob hb1 hb2 q)
    have I1 : Inv X pins sh (upd H s.heap.objs.size (.tup [.int (i : Nat), x])) { s with heap := h'', toks := tk + 1 } := I.turnedNew (ch := [e, it]) keep2 hf (Nat.le_refl _) new
    refine ⟨.ref s.heap.objs.size, _, I1, rfl, ⟨_, x, rfl, I.hok.fresh (Nat.le_refl _), rfl, fun ys hy => by rw [I.tuple_inj hy hq]; exact hx⟩, ⟨⟨x1, ?_⟩, hit'.at fun o q => (sb.2 it (Ne.symm hne)).trans q, hne, hai, hea⟩, ?_⟩
    · rw [show ((i + 1 : Nat) : Int) = (i : Int) + 1 by omega]; exact he'
    · intro b hb
      have lb : b < s.heap.objs.size := by
        rcases (show b = e ∨ b = it by simpa using hb) with z | z <;> (subst z; assumption)
      rw [upd_ne (Nat.ne_of_lt lb)]
      exact (hf b hb).1
  done := by
    intro X hP hw hK hc i pins s sh H E I hf ⟨⟨old, he⟩, hit, hne, hai, hea⟩ ⟨xs, hq, hx⟩
    subst hP hw hK
    obtain ⟨its, rv, p, hz⟩ := I.tuple hq
    have hl := rv.length
    have out : its.toArray[i]? = none := by simp; omega
    obtain ⟨f0, f1, f2, f3, f4, f5⟩ := hf it (by simp)
    unfold pyNext
    have hT : s.TypeIs (.ref e) "enumerate" := ⟨_, he, rfl⟩
    refine wpAny_bind (wpAny_attempt (wpAny_callSpecial?_slot (name := Str.ofString "__next__") hT F.slot_enumerate_next (wpAny_call_entry F.slot_enumerate_next hT F.entry_enumerate_next ?_ (F.args_enumerate_next_1 _))))
    show wpAny _ _ (field (.ref e) 2 >>= _) _ _ _
    refine wpAny_bind (wpAny_field he rfl (x := .ref it) rfl (wpAny_bind (wpAny_nextOf_tuple_end (I.ok.hd hc) hit p out ?_)))
    intro h' x eb ⟨o, ho, hcl⟩
    exact wpAny_bind (wpAny_isInstance (T := "StopIteration") (b := true) ⟨o, ho, hcl⟩ isSubtype_stop (wpAny_pure ⟨rfl, I.turned (t' := s.toks) (fun b o hb q => eb b o hb q) f0 f1 f3 f4 f5⟩))
  self := fun A i s Q E ⟨⟨_, he⟩, _⟩ h => wpAny_pyIter_enum he h
def iEnumT (K : PySem.W.Frag) (ta : TA) : TI := fun sh H R => ta sh H fun vs H1 => ∃ a xs, vs = [.ref a] ∧ SqT K H1 a xs ∧ R (IteT K a) H1
theorem pi_enumT {X : Cx} {e : Expr} {ta : TA} {p pos tpos : Pos} {elts : List Expr} {kk : Nat} (hg : Gl X "enumerate") (hm : X.mg "enumerate" = none) (ha : PA X [e] ta) (hs : starEach [e] X.env = [(false, eval e X.env)] := by rfl) :
    PI X (.Tuple elts kk tpos) (.Call (.Name "enumerate" p) [e] [] pos) (iEnumT X.K ta) := by
  refine ⟨fun pins s sh H R I h => Call_ (ld_blt I hg hm boot_enumerate (PyProof.Rows.callWith_type1 (thn (ha.run pos pins s sh H _ I h) ?_) hs rfl))⟩
  intro us s1 ⟨vs, H1, I1, r1, a, xs, ex, hq, q⟩
  subst ex
  obtain ⟨u, rfl, r⟩ := r1.one
  cases (show u = Value.ref a from r)
  obtain ⟨its, rv, p', hz⟩ := I1.tuple hq
  have la : a < s1.heap.objs.size := let ⟨_, z, _⟩ := p'; Heap.lt_size z
  refine enum_call1 (begins_tuple a its.toArray) p' ?_
  intro h' he hit hk
  refine wpAny_pyIter_enum he ?_
  have I2 : Inv X pins sh H1 { s1 with heap := h' } := I1.kept (t' := s1.toks) hk
  refine ⟨s1.heap.objs.size + 1, [s1.heap.objs.size + 1, s1.heap.objs.size], _, _, H1, rfl, I2, turn_enumT a (s1.heap.objs.size + 1) s1.heap.objs.size, ⟨⟨.none, he⟩, ⟨_, hit, rfl, rfl⟩, Nat.succ_ne_self _, Nat.ne_of_lt la, Nat.ne_of_gt (Nat.lt_succ_of_lt la)⟩, ?_, q⟩
  intro b hb
  have lb : s1.heap.objs.size ≤ b := by
    rcases (show b = s1.heap.objs.size + 1 ∨ b = s1.heap.objs.size by simpa using hb) with z | z <;> (rw [z]; omega)
  exact I1.fpOk lb (I1.hok.fresh lb)
def numD : Nat → List Pv.D → List Pv.D
  | _, [] => []
  | i, d :: ds => .tuple [.int (i : Int), d] :: numD (i + 1) ds
theorem numD_get : ∀ (ds : List Pv.D) (k i : Nat), (numD k ds)[i]? = (ds[i]?).map fun d => .tuple [.int ((k + i : Nat) : Int), d]
  | [], k, i => by simp [numD]
  | d :: ds, k, 0 => by simp [numD]
  | d :: ds, k, i + 1 => by
    show (numD (k + 1) ds)[i]? = (ds[i]?).map _
    rw [numD_get ds (k + 1) i, show k + 1 + i = k + (i + 1) by omega]
theorem numD_length : ∀ (ds : List Pv.D) (k : Nat), (numD k ds).length = ds.length
  | [], _ => rfl
  | d :: ds, k => by simp [numD, numD_length ds]
def enumOf (d : Pv.D) (st : Sto) : R Src := (srcOf d st).bind fun s st => .ok ⟨numD 0 s.items, s.keep⟩ st
def mEnum (m : M) : MI := fun sl st => (m sl st).bind fun d st => match d with | .str _ => .bad | d => enumOf d st
section
variable {X : Cx} {Wx : WX} {W W' : Wd} {H H' : Hp} {st : Sto} {sl : Sl} {sh : L2.St} {pos p : Pos} {N : Nv}
theorem walk_num {K : PySem.W.Frag} {J0 J : It} {ds : List Pv.D} {keep : Sto → Prop} [DecidablePred keep] (hw : WalkK K J0 W ⟨ds, keep⟩) (hstop : ∀ H, J0.stop ds.length H → J.stop ds.length H)
    (hgo : ∀ i H d W1 st1, HR K W1 H st1 → ds[i]? = some d → J0.go i H → (∀ x H', J0.yld i H x H' → ∃ W2, Ext W1 H W2 H' ∧ HR K W2 H' st1 ∧ rep K W2 x d) → J.go i H ∧ ∀ v H', J.yld i H v H' → ∃ T x, v = .ref T ∧ H T = none ∧ H' = upd H T (.tup [.int (i : Nat), x]) ∧ J0.yld i H x H) : WalkK K J W ⟨numD 0 ds, keep⟩ := by
  intro W1 H1 st1 h1 f r k
  obtain ⟨a, b⟩ := hw W1 H1 st1 h1 f r k
  refine ⟨by rw [show (Src.mk (numD 0 ds) keep).items.length = ds.length from numD_length ds 0]; exact hstop H1 a, fun i d hd => ?_⟩
  have hd' : (ds[i]?).map (fun d => PyData.tuple [.int ((0 + i : Nat) : Int), d]) = some d := by rw [← numD_get ds 0 i]; exact hd
  obtain ⟨d0, e0, e1⟩ := Option.map_eq_some_iff.mp hd'
  subst e1
  obtain ⟨g, y⟩ := b i d0 e0
  obtain ⟨g', y'⟩ := hgo i H1 d0 W1 st1 h1 e0 g y
  refine ⟨g', fun v H' yy => ?_⟩
  obtain ⟨T, x, ev, hT, eH, y0⟩ := y' v H' yy
  subst ev; subst eH
  obtain ⟨W2, x2, h2, r2⟩ := y x H1 y0
  obtain ⟨h3, x3⟩ := h2.new (o := .tup [.int (i : Nat), x]) hT
  refine ⟨_, x2.trans x3, h3, T, _, rfl, upd_same, .int (i : Nat), [x], rfl, by show V.int _ = V.int _; rw [Nat.zero_add], x, [], rfl, x3.rep r2, rfl⟩
theorem walk_numL {K : PySem.W.Frag} {a : Addr} {ds : List Pv.D} {keep : Sto → Prop} [DecidablePred keep] (hw : WalkK K (Itl K a) W ⟨ds, keep⟩) : WalkK K (Ite K a) W ⟨numD 0 ds, keep⟩ :=
  walk_num hw (fun H h => h) fun i H d W1 st1 h1 hd g y => ⟨g, fun v H' ⟨T, x, e1, e2, e3, e4⟩ => ⟨T, x, e1, e2, e3, rfl, e4⟩⟩
theorem walk_numT {K : PySem.W.Frag} {a : Addr} {ds : List Pv.D} {keep : Sto → Prop} [DecidablePred keep] (hw : WalkK K (Itt K a) W ⟨ds, keep⟩) : WalkK K (IteT K a) W ⟨numD 0 ds, keep⟩ :=
  walk_num hw (fun H h => h) fun i H d W1 st1 h1 hd g y => ⟨g, fun v H' ⟨T, x, e1, e2, e3, e4⟩ => ⟨T, x, e1, e2, e3, rfl, e4⟩⟩
theorem gi_enum {ea : Expr} {ma : M} {elts : List Expr} {kk : Nat} {tpos : Pos} (hm : X.mg "enumerate" = none) (ha : GE X Wx ea ma) (hg : Gl X "enumerate" := by rfl) (hs : starEach [ea] X.env = [(false, eval ea X.env)] := by rfl)
    (hs1 : starEach (ea :: []) X.env = (false, eval ea X.env) :: starEach [] X.env := by rfl) : GI X Wx (.Tuple elts kk tpos) (.Call (.Name "enumerate" p) [ea] [] pos) (mEnum ma) := by
  refine PI.imp (PI.or (pi_enum hg hm (pa_cons ha pa_nil hs1) hs) (pi_enumT hg hm (pa_cons ha pa_nil hs1) hs)) fun sh H R ⟨W, sl, st, hr, hs, p⟩ => ?_
  have L : ∀ {d1 st1 W1 v1 H1}, Ext W H W1 H1 → HR X.K W1 H1 st1 → rep X.K W1 v1 d1 → (∀ z, d1 ≠ .str z) → (∀ ds, d1 ≠ .tuple ds) → (∀ ds, d1 ≠ Gc ds) → PostI (nv X) sh Wx W1 H1 R (enumOf d1 st1) → ∃ a xs, [v1] = [V.ref a] ∧ SqL X.K H1 a xs ∧ R (Ite X.K a) H1 := by
    intro d1 st1 W1 v1 H1 x1 h1 r1 n1 n2 n3 p1
    cases d1 with
    | list ds => obtain ⟨a, xs, q1, q2, l⟩ := r1; subst q1; exact ⟨a, xs, rfl, .inl (.inl (h1.sub _ _ q2)), p1 W1 H1 _ .refl h1 (walk_numL (walk_list (.inl (.inl q2)) l))⟩
    | dict kvs =>
      rcases rep_dict r1 with ⟨r, a, f1, f2, f3⟩ | ⟨ds', a, xs, f1, f2, f3, f4⟩ | ⟨ds', a, xs, f1, f2, f3, f4⟩ | ⟨ae, ade, ce, nse, fse, he⟩
      · subst f1; subst f2
        unfold enumOf srcOf at p1
        simp only [Int.toNat_natCast] at p1
        obtain ⟨m, hm, _, ho⟩ := h1.at f3
        rw [hm] at p1
        cases m with
        | lst ds => obtain ⟨xs, g1, g2⟩ := ho; exact ⟨a, xs, rfl, .inl (.inl g1), p1 W1 H1 _ .refl h1 (walk_numL (walk_ref f3))⟩
        | ro _ => exact p1.elim
        | dct _ => exact p1.elim
        | dctT _ => exact p1.elim
        | tb _ _ => exact p1.elim
      · subst f1; exact absurd rfl (n3 ds')
      · subst f1; subst f2; exact ⟨a, xs, rfl, sqL_mono h1.sub f3, p1 W1 H1 _ .refl h1 (walk_numL (walk_list f3 f4))⟩
      · subst he; exact p1.elim
    | str z => exact absurd rfl (n1 z)
    | tuple ds => exact absurd rfl (n2 ds)
    | none => exact p1.elim
    | bool _ => exact p1.elim
    | int _ => exact p1.elim
  cases e1 : ma sl st with
  | bad => unfold mEnum at p; rw [e1] at p; exact p.elim
  | exc x s2 =>
    refine .inl (rd_bindI hr hs p fun d1 st1 W1 v1 H1 e2 => ?_)
    rw [e1] at e2; cases e2
  | ok d st1 =>
    by_cases n1 : ∃ z, d = .str z
    · obtain ⟨z, n1⟩ := n1; subst n1; unfold mEnum at p; rw [e1] at p; exact p.elim
    · have pp : PostI (nv X) sh Wx W H R ((ma sl st).bind enumOf) := by
        unfold mEnum at p
        rw [e1] at p ⊢
        simp only [Pv.R.bind_ok] at p ⊢
        split at p
        · exact p.elim
        · exact p
      by_cases n2 : ∃ ds, d = .tuple ds
      · obtain ⟨ds, n2⟩ := n2
        subst n2
        refine .inr (rd_bindI hr hs pp fun d1 st1' W1 v1 H1 e2 x1 h1 s1 r1 p1 => ?_)
        rw [e1] at e2; cases e2
        obtain ⟨a, xs, q1, q2, l⟩ := r1
        subst q1
        exact ⟨a, xs, rfl, .inl (.inl (h1.sub _ _ q2)), p1 W1 H1 _ .refl h1 (walk_numT (walk_tup (fun W2 H2 st2 h2 f => .inl (.inl (h2.sub _ _ (f _ _ q2)))) l))⟩
      · by_cases n3 : ∃ ds, d = Gc ds
        · obtain ⟨ds, n3⟩ := n3
          subst n3
          refine .inr (rd_bindI hr hs pp fun d1 st1' W1 v1 H1 e2 x1 h1 s1 r1 p1 => ?_)
          rw [e1] at e2; cases e2
          obtain ⟨a, xs, f2, f3, f4⟩ := r1
          subst f2
          exact ⟨a, xs, rfl, f3.T h1.sub, p1 W1 H1 _ .refl h1 (walk_numT (walk_tup (fun W2 H2 st2 h2 f => f3.T fun b o e => h2.sub _ _ (f b o e)) f4))⟩
        · refine .inl (rd_bindI hr hs pp fun d1 st1' W1 v1 H1 e2 x1 h1 s1 r1 p1 => ?_)
          rw [e1] at e2; cases e2
          exact L x1 h1 r1 (fun z q => n1 ⟨z, q⟩) (fun z q => n2 ⟨z, q⟩) (fun z q => n3 ⟨z, q⟩) p1
end
end Pv
set_option Elab.async false
set_option linter.all false
set_option maxRecDepth 100000
set_option maxHeartbeats 4000000
namespace Pv
open PySem PySem.Spec L2
open PyProof.Rows hiding St
section
variable {X : Cx} {Wx : WX} {W W' : Wd} {H H' : Hp} {st : Sto} {sl : Sl} {sh : L2.St} {pos p apos : Pos} {N : Nv} {K : PySem.W.Frag}
def fApp (o d : Pv.D) (st : Sto) : R Pv.D :=
  match o with
  | .dict [(.int r, .none)] => (match st[r.toNat]? with | some (.lst ds) => if ds.length < sizeLine then .ok .none (st.set r.toNat (.lst (ds ++ [d]))) else .bad | _ => .bad)
  | _ => .bad
def isLst (st : Sto) (o : Pv.D) : Bool :=
  match o with
  | .dict [(.int r, .none)] => (match st[r.toNat]? with | some (.lst _) => true | _ => false)
  | _ => false
theorem isLst_rep {v : V} {o : Pv.D} (hr : HR K W H st) (h : rep K W v o) (e : isLst st o = true) : ∃ (r : Nat) (a : Addr) (ds : List Pv.D) (xs : List V), o = Rf r ∧ v = .ref a ∧ W.rho[r]? = some a ∧ st[r]? = some (.lst ds) ∧ H a = some (.lst xs) ∧ repL K W xs ds := by
  unfold isLst at e
  split at e
  · rename_i i
    rcases rep_dict h with ⟨r, a, e1, e2, e3⟩ | ⟨ds', a, xs, e1, _, _⟩ | ⟨ds', a, xs, e1, _, _⟩ | ⟨ae, ade, ce, nse, fse, he⟩
    rotate_left
    · cases e1
    · cases e1
    · cases he
    have ei : i = (r : Int) := by injection e1 with q1 _; injection q1 with q2 _; injection q2
    subst ei
    rw [Int.toNat_natCast] at e
    obtain ⟨m, hm, _, ho⟩ := hr.at e3
    rw [hm] at e
    cases m with
    | lst ds => obtain ⟨xs, g1, g2⟩ := ho; exact ⟨r, a, ds, xs, rfl, e2, e3, hm, g1, g2⟩
    | ro _ => cases e
    | dct _ => cases e
    | dctT _ => cases e
    | tb _ _ => cases e
  · cases e
/-- a method of a list of the store: the receiver, then the argument -/
def mLm (f : F2) (a b : M) : M := fun sl st => (a sl st).bind fun o st => if isLst st o = true then (b sl st).bind fun d st => f o d st else .bad
def mApp : M → M → M := mLm fApp
theorem ge_append {ea eb : Expr} {ma mb : M} (ha : GE X Wx ea ma) (hb : GE X Wx eb mb) (hbase : attributeBase ea "append" X.env (eval ea X.env) = eval ea X.env := by rfl)
    (hfew : ((backTo pos (starEach (eb :: []) X.env)).all (fun x => !x.1) && (backToKw pos (keywordEach [] X.env)).all (fun x => x.1.isSome) && decide ((eb :: ([] : List Expr)).length + ([] : List Keyword).length + (if ([] : List Keyword).isEmpty then 0 else 1) < 30)) = true := by rfl)
    (hline : (apos.endLine == pos.line) = true := by rfl) (hs : starEach (eb :: []) X.env = (false, eval eb X.env) :: starEach [] X.env := by rfl) (hplain : (backTo pos (starEach [] X.env)).any (·.1) = false := by rfl) :
    GE X Wx (.Call (.Attribute ea "append" apos) [eb] [] pos) (mApp ma mb) := by
  refine PE.imp (pe_bm PySem.F.plainAttrs_list PySem.F.slot_list_append PySem.F.type_list_append mt_append ha (pa_cons hb pa_nil hs) hbase hfew hline hs hplain) fun sh H Q ⟨W, sl, st, hr, hs, q⟩ => ?_
  refine rd_bind hr hs q fun d1 st1 W1 v1 H1 e1 x1 h1 s1 r1 p1 => ?_
  split at p1
  · rename_i hl
    obtain ⟨r, a, ds, xs, eo, ev, hrho, hst, hH, hL⟩ := isLst_rep h1 r1 hl
    subst eo; subst ev
    refine ⟨.inl ⟨rfl, xs, .inl (.inl hH)⟩, ?_⟩
    refine rd_bind h1 s1 p1 fun d2 st2 W2 v2 H2 e2 x2 h2 s2 r2 p2 => ?_
    have p2 : Post (nv X) W2 H2 Q (fun cls dd H' => Wx cls dd sh H') (match st2[r]? with | some (.lst ds) => if ds.length < sizeLine then .ok .none (st2.set r (.lst (ds ++ [d2]))) else .bad | _ => .bad) := p2
    split at p2
    · rename_i ds2 hd2
      split at p2
      · rename_i hz
        obtain ⟨b, hb, _, xs2, g1, g2⟩ := h2.at' hd2
        rw [x2.at r a hrho] at hb
        cases hb
        refine ⟨a, xs2, v2, rfl, rfl, g1, by rw [repL_length g2]; exact hz, ?_⟩
        obtain ⟨h3, x3⟩ := h2.set (o := .lst (xs2 ++ [v2])) (m := .lst (ds2 ++ [d2])) (x2.at r a hrho) hd2 ⟨_, upd_same, repL_append g2 (repL_one r2)⟩
        exact p2 W2 .non _ x3 h3 rfl
      · exact p2.elim
    · exact p2.elim
  · exact p1.elim
abbrev Mk2 := List (M × M)
def pairsM : Mk2 → Sl → Sto → R (List (Key × Pv.D))
  | [], _, st => .ok [] st
  | (k, v) :: r, sl, st => (k sl st).bind fun kd st => (v sl st).bind fun vd st => match keyOf kd with
    | some kk => (pairsM r sl st).bind fun ps st => .ok ((kk, vd) :: ps) st
    | none => .bad
def mergeD (kvs more : List (Key × Pv.D)) : List (Key × Pv.D) := more.foldl (fun acc kv => putD acc kv.1 kv.2) kvs
def mDct (ps : Mk2) : M := fun sl st => (pairsM ps sl st).bind fun kvs st => if kvs.length ≤ 15 then .ok (Rf st.length) (st ++ [.dct (mergeD [] kvs)]) else .bad
/-- the pairs' expressions, told -/
inductive GP (X : Cx) (Wx : WX) : List (Option Expr) → List Expr → Mk2 → Prop where
  | nil : GP X Wx [] [] []
  | cons {k v : Expr} {ks : List (Option Expr)} {vs : List Expr} {mk mv : M} {ps : Mk2} (hk : GE X Wx k mk) (hv : GE X Wx v mv) (hr : GP X Wx ks vs ps) : GP X Wx (some k :: ks) (v :: vs) ((mk, mv) :: ps)
def trsOf (N : Nv) (Wx : WX) : Mk2 → List (TE × TE)
  | [] => []
  | (k, v) :: r => (rd N Wx k, rd N Wx v) :: trsOf N Wx r
theorem GP.pps {ks : List (Option Expr)} {vs : List Expr} {ps : Mk2} (h : GP X Wx ks vs ps) : PPs X pos ks vs (trsOf (nv X) Wx ps) := by
  induction h with
  | nil => exact pps_nil
  | cons hk hv _ ih => exact pps_cons hk hv ih
theorem pairs_read : ∀ {ps : Mk2} {W : Wd} {H : Hp} {st : Sto} {Q : VK} {f : List (Key × Pv.D) → Sto → R Pv.D} {Q2 : List (V × V) → Hp → Prop}, HR N.K W H st → SR N.K W sh sl → Post N W H Q (fun cls dd H' => Wx cls dd sh H') ((pairsM ps sl st).bind f) →
    (∀ kvs st1 W1 H1 ks, pairsM ps sl st = .ok kvs st1 → Ext W H W1 H1 → HR N.K W1 H1 st1 → repP N.K W1 ks kvs → Q2 (ks.map fun kv => (kV kv.1, kv.2)) H1) → tPairs (trsOf N Wx ps) sh H Q2
  | [], W, H, st, Q, f, Q2, hr, hs, p, k => k [] st W H [] rfl .refl hr .nil
  | (mk, mv) :: r, W, H, st, Q, f, Q2, hr, hs, p, k => by
    have e : (pairsM ((mk, mv) :: r) sl st).bind f = (mk sl st).bind fun kd st => (mv sl st).bind fun vd st => match keyOf kd with
        | some kk => (pairsM r sl st).bind fun ps st => f ((kk, vd) :: ps) st
        | none => .bad := by
      show ((mk sl st).bind _).bind f = _
      cases mk sl st with
      | ok kd s1 =>
        show ((mv sl s1).bind _).bind f = (mv sl s1).bind _
        cases mv sl s1 with
        | ok vd s2 =>
          show (match keyOf kd with | some kk => (pairsM r sl s2).bind fun ps st => R.ok ((kk, vd) :: ps) st | none => .bad : R _).bind f = _
          cases keyOf kd with
          | none => rfl
          | some kk =>
            show ((pairsM r sl s2).bind _).bind f = (pairsM r sl s2).bind _
            cases pairsM r sl s2 <;> rfl
        | exc _ _ => rfl
        | bad => rfl
      | exc _ _ => rfl
      | bad => rfl
    rw [e] at p
    refine rd_bind hr hs p fun d1 st1 W1 v1 H1 e1 x1 h1 s1 r1 p1 => ?_
    refine rd_bind h1 s1 p1 fun d2 st2 W2 v2 H2 e2 x2 h2 s2 r2 p2 => ?_
    cases hk : keyOf d1 with
    | none => rw [hk] at p2; exact p2.elim
    | some kk =>
      rw [hk] at p2
      refine pairs_read h2 s2 p2 fun kvs st3 W3 H3 ks e3 x3 h3 r3 => ?_
      have := k ((kk, d2) :: kvs) st3 W3 H3 ((kk, v2) :: ks) (by unfold pairsM; rw [e1]; simp only [Pv.R.bind_ok]; rw [e2]; simp only [Pv.R.bind_ok, hk]; rw [e3]; rfl) ((x1.trans x2).trans x3) h3 (.cons ⟨rfl, x3.rep r2⟩ r3)
      rw [keyOf_rep r1 hk]
      exact this
theorem merge_rep {W : Wd} : ∀ {ms : List (Key × V)} {ds : List (Key × Pv.D)} {ks : List (Key × V)} {kvs : List (Key × Pv.D)}, repP K W ms ds → repP K W ks kvs → repP K W (mergeK ks ms) (mergeD kvs ds) := by
  intro ms ds ks kvs h
  induction h generalizing ks kvs with
  | nil => exact fun q => q
  | @cons a b _ _ h _ ih =>
    intro q
    have s := put_rep q b.1 h.2
    show repP K W (mergeK (putK ks a.1 a.2) _) (mergeD (putD kvs b.1 b.2) _)
    rw [h.1]
    exact ih s
/-- an object beside the store -/
theorem HR.beside {o : HO} {a : Addr} (h : HR K W H st) (hp : H a = none) : HR K W (upd H a o) st ∧ Ext W H W (upd H a o) := by
  have hn := h.free hp
  refine ⟨⟨h.len, h.nd, fun b u e => ?_, fun r b m e1 e2 => ?_, tabs_new h.tab hp, h.nt⟩, ⟨fun _ _ e => e, ⟨[], by simp, fun _ z => by cases z⟩, fun b u e _ _ => ?_, fun b e => ?_, fun _ _ e => .inl e⟩⟩
  · have hb : b ≠ a := fun z => by subst z; rw [h.freeF hp] at e; cases e
    rw [upd_ne hb]; exact h.sub _ _ e
  · have hb : b ≠ a := fun z => hn (by rw [← z]; exact List.mem_of_getElem? e1)
    obtain ⟨p, q⟩ := h.obj r b m e1 e2
    exact ⟨p, repO_mono (W := W) (fun _ _ z => z) (fun _ _ z => z) (fun u z => by rw [upd_ne hb]; exact z) q⟩
  · have hb : b ≠ a := fun z => by subst z; rw [hp] at e; cases e
    rw [upd_ne hb]; exact e
  · by_cases hb : b = a
    · subst hb; exact .of hp
    · exact fun u z => e u (by rw [upd_ne hb]; exact z)
/-- an object beside the store is written, and is one of the store now -/
theorem HR.adopt {o o' : HO} {a : Addr} {m : MO} {W0 : Wd} {H0 : Hp} (h : HR K W H st) (x : Ext W0 (upd H0 a o') W H) (hp : H0 a = none) (hn : a ∉ W0.rho) (hF : W0.F a = none) (ho' : plainO o' = true) (hnt : ∀ xs, o' ≠ .tup xs) (htb : noTb m = true) (hm : ∀ H1, H1 a = some o → repO K ⟨W.F, W.rho ++ [a]⟩ H1 a m) :
    HR K ⟨W.F, W.rho ++ [a]⟩ (upd H a o) (st ++ [m]) ∧ Ext W0 H0 ⟨W.F, W.rho ++ [a]⟩ (upd H a o) := by
  have now : (upd H0 a o') a = some o' := upd_same
  have hH : H a = some o' := x.out a o' now hn (plainO_tbl ho')
  have hnW : a ∉ W.rho := by
    obtain ⟨r, hr, hnew⟩ := x.rh
    rw [hr]
    intro z
    rcases List.mem_append.mp z with z | z
    · exact hn z
    · obtain ⟨ps, y⟩ := hnew a z _ now; exact plainO_tbl ho' ps y
  have hFW : W.F a = none := by
    cases q : W.F a with
    | none => rfl
    | some u =>
      rcases x.nf _ _ q with z | z
      · rw [hF] at z; cases z
      · obtain ⟨ys, y⟩ := z.some now (plainO_tbl ho'); exact absurd y (hnt ys)
  have ne : ∀ {b u}, W.F b = some u → b ≠ a := fun e z => by subst z; rw [hFW] at e; cases e
  refine ⟨⟨by simp [h.len], List.nodup_append.mpr ⟨h.nd, by simp, fun y hy z hz => by
      have : z = a := by simpa using hz
      rw [this]; exact fun q => hnW (q ▸ hy)⟩, fun b u e => by rw [upd_ne (ne e)]; exact h.sub _ _ e, fun r b m' e1 e2 => ?_, by rw [tbs_app _ htb]; exact tabs_set h.tab hH ho', h.nt⟩, ⟨x.fr, ?_, fun b u e hb ht => ?_, fun b e => ?_, fun b u e => ?_⟩⟩
  · by_cases hr : r < W.rho.length
    · rw [List.getElem?_append_left hr] at e1
      rw [List.getElem?_append_left (by rw [← h.len]; exact hr)] at e2
      have hb : b ≠ a := fun z => hnW (by rw [← z]; exact List.mem_of_getElem? e1)
      obtain ⟨p, q⟩ := h.obj r b m' e1 e2
      refine ⟨p, repO_mono (W := W) (fun _ _ z => z) (fun r c z => ?_) (fun u z => by rw [upd_ne hb]; exact z) q⟩
      show (W.rho ++ [a])[r]? = some c
      rw [List.getElem?_append_left (List.getElem?_eq_some_iff.mp z).1]; exact z
    · rw [List.getElem?_append_right (by omega)] at e1
      rw [List.getElem?_append_right (by rw [← h.len]; omega)] at e2
      rw [h.len] at e1
      cases hk : r - st.length with
      | zero =>
        rw [hk] at e1 e2
        simp at e1 e2
        subst e1; subst e2
        exact ⟨hFW, hm _ upd_same⟩
      | succ k => rw [hk] at e1; simp at e1
  · obtain ⟨r, hr, hnew⟩ := x.rh
    refine ⟨r ++ [a], by show W.rho ++ [a] = _; rw [hr, List.append_assoc], fun b hb => ?_⟩
    rcases List.mem_append.mp hb with z | z
    · have nb := hnew b z
      by_cases q : b = a
      · subst q; exact .of hp
      · exact fun u y => nb u (by rw [upd_ne q]; exact y)
    · have : b = a := by simpa using z
      rw [this]; exact .of hp
  · have hb' : b ≠ a := fun z => by subst z; rw [hp] at e; cases e
    rw [upd_ne hb']
    exact x.out b u (by rw [upd_ne hb']; exact e) hb ht
  · by_cases q : b = a
    · subst q; exact .of hp
    · have := x.non b fun u y => e u (by rw [upd_ne q]; exact y)
      exact fun u y => this u (by rw [upd_ne q]; exact y)
  · rcases x.nf b u e with z | z
    · exact .inl z
    · by_cases q : b = a
      · subst q; exact .inr (.of hp)
      · rcases z with z | ⟨z, xs, y⟩
        · exact .inr (.inl fun u y => z u (by rw [upd_ne q]; exact y))
        · exact .inr (.inr ⟨z, xs, by rw [upd_ne q] at y; exact y⟩)
theorem ge_dct {keys : List (Option Expr)} {values : List Expr} {ps : Mk2} (h : GP X Wx keys values ps) (hall : keys.all (·.isSome) = true := by rfl) (hl : keys.length = values.length := by rfl) (h0 : keys ≠ [] := by exact List.cons_ne_nil _ _) (h15 : keys.length ≤ 15 := by decide) :
    GE X Wx (.Dict keys values pos) (mDct ps) := by
  refine PE.imp (pe_disp h.pps hall hl h0 h15) fun sh H Q ⟨W, sl, st, hr, hs, q⟩ => ?_
  intro a ha
  obtain ⟨h1, x1⟩ := hr.beside (o := .dK []) ha
  refine pairs_read (f := fun kvs st => if kvs.length ≤ 15 then .ok (Rf st.length) (st ++ [.dct (mergeD [] kvs)]) else .bad) h1 (hs.ext x1) (Post.ext x1 q) fun kvs st1 W1 H1 ks e2 x2 h2 r2 => ?_
  unfold mDct at q
  rw [e2] at q
  simp only [Pv.R.bind_ok] at q
  split at q
  · rename_i hz
    have hn := hr.free ha
    obtain ⟨h3, x3⟩ := h2.adopt (o := .dK (mergeK [] ks)) (m := .dct (mergeD [] kvs)) x2 ha hn (hr.freeF ha) rfl (fun xs h => by cases h) rfl (fun H9 e => ⟨_, e, repP_mono (W := W1) (fun _ _ z => z) (fun r c z => by
      show (W1.rho ++ [a])[r]? = some c
      rw [List.getElem?_append_left (List.getElem?_eq_some_iff.mp z).1]; exact z) (merge_rep r2 .nil)⟩)
    refine ⟨x2.out a _ upd_same hn (fun _ z => by cases z), ks, rfl, by rw [repP_length r2]; exact hz, ?_⟩
    refine q _ (.ref a) _ x3 h3 ⟨st1.length, a, rfl, rfl, ?_⟩
    show (W1.rho ++ [a])[st1.length]? = some a
    rw [← h2.len]; simp
  · exact q.elim
end
end Pv
set_option Elab.async false
set_option linter.all false
set_option maxRecDepth 100000
set_option maxHeartbeats 4000000
namespace Pv
open PySem PySem.Spec L2
open PyProof.Rows hiding St
/-- so many values come out -/
abbrev Ln (ms : Ms) (n : Nat) : Prop := ∀ sl st ds st', ms sl st = .ok ds st' → ds.length = n
theorem ln_nil : Ln msNil 0 := fun sl st ds st' h => by cases h; rfl
theorem ln_cons {m : M} {ms : Ms} {n : Nat} (h : Ln ms n) : Ln (msCons m ms) (n + 1) := fun sl st ds st' e => by
  unfold msCons at e
  cases q : m sl st with
  | ok d s1 =>
    rw [q] at e
    simp only [R.bind_ok] at e
    cases q2 : ms sl s1 with
    | ok es s2 => rw [q2] at e; cases e; simp [h _ _ _ _ q2]
    | exc _ _ => rw [q2] at e; cases e
    | bad => rw [q2] at e; cases e
  | exc _ _ => rw [q] at e; cases e
  | bad => rw [q] at e; cases e
/-- a def of the text as it stands behind the top -/
def DefAt (K : PySem.W.Frag) (mg : Str → Option Value) (x : Str) (st : Stmt) (ps : List Str) : Prop := ∃ f fd, Fun K x x st f fd ∧ mg x = some (.ref f) ∧ Binds K fd ps []
/-- .. that is called by keywords alone, in the parameters' order -/
def DefAtK (K : PySem.W.Frag) (mg : Str → Option Value) (x : Str) (st : Stmt) (ps : List Str) : Prop := ∃ f fd, Fun K x x st f fd ∧ mg x = some (.ref f) ∧ Binds K fd ps [] ∧ BindsK K fd ps ps (fun l => l)
theorem DefAtK.plain {K : PySem.W.Frag} {mg : Str → Option Value} {x : Str} {st : Stmt} {ps : List Str} (h : DefAtK K mg x st ps) : DefAt K mg x st ps := let ⟨f, fd, a, b, c, _⟩ := h; ⟨f, fd, a, b, c⟩
def Has (P : Program) (w : World) (K : PySem.W.Frag) (mg : Str → Option Value) (base : Heap) (k : Nat) (x : Str) (ps : List Str) (F : Fn) : Prop := ∃ f fd, Df P w K mg base k x f fd ps F
def HasK (P : Program) (w : World) (K : PySem.W.Frag) (mg : Str → Option Value) (base : Heap) (k : Nat) (x : Str) (ps : List Str) (F : Fn) : Prop := ∃ f fd, Df P w K mg base k x f fd ps F ∧ BindsK K fd ps ps (fun l => l)
theorem HasK.plain {P : Program} {w : World} {K : PySem.W.Frag} {mg : Str → Option Value} {base : Heap} {k : Nat} {x : Str} {ps : List Str} {F : Fn} (h : HasK P w K mg base k x ps F) : Has P w K mg base k x ps F := let ⟨f, fd, a, _⟩ := h; ⟨f, fd, a⟩
/-- a constant of the module -/
def GcAt (K : PySem.W.Frag) (mg : Str → Option Value) (x : Str) (d : D) : Prop := ∃ u v, mg x = some u ∧ RelV v u ∧ GlobIs ⟨K, mg⟩ v d
theorem bl_of {K : PySem.W.Frag} {x qual p : Str} {st : Stmt} {f : Addr} {fd : FuncData} (F : Fun K x qual st f fd)
    (h : ∀ (kV doc pm : Value) (an : Option Addr) (cdv ct u : Value), bindArgs (PySem.W.fnOf x qual (defArgs st) (defBody st) (defScope st) .none kV doc pm an cdv ct) ⟨[u], []⟩ = pure [(p, u)]) (s : Shared) (u : Value) : BindsTo s fd ⟨[u], []⟩ [(p, u)] := by
  obtain ⟨oc, od, kV, doc, pm, an, cdv, ct, osl, rfl, lk, hcd⟩ := F.ex
  exact .of_eq (h kV doc pm an cdv ct u)
end Pv
set_option Elab.async false
set_option linter.all false
set_option maxRecDepth 100000
set_option maxHeartbeats 4000000
namespace Pv
open PySem PySem.Spec L2
open PyProof.Rows hiding St
section
variable {sl : Sl} {st : Sto} {d x y : Pv.D} {i : Nat} {a b c : M} {t u : MT} {ms : Ms}
@[simp] theorem e_var : mVar i sl st = (match sl[i]? with | some (some d) => .ok d st | _ => .bad) := rfl
@[simp] theorem e_c : mC d sl st = .ok d st := rfl
@[simp] theorem e_add : mAdd a b sl st = (a sl st).bind fun x st => (b sl st).bind fun y st => fAdd x y st := rfl
@[simp] theorem e_sub : mSub a b sl st = (a sl st).bind fun x st => (b sl st).bind fun y st => onD2 (dInt2 (fun _ _ => true) fun i j => .int (i - j)) x y st := rfl
@[simp] theorem e_mod : mMod a b sl st = (a sl st).bind fun x st => (b sl st).bind fun y st => onD2 (dInt2 (fun _ j => decide (0 < j)) fun i j => .int (i % j)) x y st := rfl
@[simp] theorem e_fdiv : mFdiv a b sl st = (a sl st).bind fun x st => (b sl st).bind fun y st => onD2 (dInt2 (fun _ j => decide (0 < j ∧ j < 1073741824)) fun i j => .int (i / j)) x y st := rfl
@[simp] theorem e_pow : mPow a b sl st = (a sl st).bind fun x st => (b sl st).bind fun y st => onD2 (dInt2 (fun i j => decide (0 ≤ j ∧ j ≤ 1000000 ∧ i.natAbs < 2 ^ 64)) fun i j => .int (i ^ j.toNat)) x y st := rfl
@[simp] theorem e_mul : mMulS a b sl st = (a sl st).bind fun x st => (b sl st).bind fun y st => onD2 dMulS x y st := rfl
@[simp] theorem e_neg : mNeg a sl st = (a sl st).bind fun x st => onD1 dNeg x st := rfl
@[simp] theorem e_cmp {op : CmpOp} : mCmp op a b sl st = (a sl st).bind fun x st => (b sl st).bind fun y st => onD2 (dCmp op) x y st := rfl
@[simp] theorem e_isN : mIsN a sl st = (a sl st).bind fun x st => .ok (.bool (isNone x)) st := rfl
@[simp] theorem e_notN : mNotN a sl st = (a sl st).bind fun x st => .ok (.bool (!isNone x)) st := rfl
@[simp] theorem e_chain {op op' : CmpOp} : mChain op op' a b c sl st = (a sl st).bind fun x st => (b sl st).bind fun y st => (match onD2 (dCmp op) x y st with
  | .ok (.bool true) st => (c sl st).bind fun z st => onD2 (dCmp op') y z st
  | .ok (.bool false) st => .ok (.bool false) st
  | _ => .bad) := rfl
@[simp] theorem e_tru : mTru a sl st = (a sl st).bind fun d st => lift (truD st d) st := rfl
@[simp] theorem e_tb : mTb a sl st = (a sl st).bind fun d st => (match d with | .bool b => .ok b st | _ => .bad) := rfl
@[simp] theorem e_notT : mNotT t sl st = (t sl st).bind fun b st => .ok (!b) st := rfl
@[simp] theorem e_andT : mAndT t u sl st = (t sl st).bind fun b st => if b = true then u sl st else .ok false st := rfl
@[simp] theorem e_orT : mOrT t u sl st = (t sl st).bind fun b st => if b = true then .ok true st else u sl st := rfl
@[simp] theorem e_and : mAnd a b sl st = (a sl st).bind fun x st => (match truD st x with | some true => b sl st | some false => .ok x st | none => .bad) := rfl
@[simp] theorem e_or : mOr a b sl st = (a sl st).bind fun x st => (match truD st x with | some true => .ok x st | some false => b sl st | none => .bad) := rfl
@[simp] theorem e_not : mNot a sl st = (a sl st).bind fun x st => (match truD st x with | some k => .ok (.bool (!k)) st | none => .bad) := rfl
@[simp] theorem e_if : mIf t a b sl st = (t sl st).bind fun k st => if k = true then a sl st else b sl st := rfl
@[simp] theorem e_msNil : msNil sl st = .ok [] st := rfl
@[simp] theorem e_msCons : msCons a ms sl st = (a sl st).bind fun x st => (ms sl st).bind fun xs st => .ok (x :: xs) st := rfl
@[simp] theorem e_tup : mTup ms sl st = (ms sl st).bind mkTup := rfl
@[simp] theorem e_lst : mLst ms sl st = (ms sl st).bind mkLst := rfl
@[simp] theorem e_lstM : mLstM ms sl st = (ms sl st).bind mkLstM := rfl
@[simp] theorem e_ix : mIx a b sl st = (a sl st).bind fun x st => (b sl st).bind fun y st => fIx x y st := rfl
@[simp] theorem e_moNone : moNone sl st = .ok none st := rfl
@[simp] theorem e_moSome : moSome a sl st = (a sl st).bind fun d st => (match d with | .int i => .ok (some i) st | _ => .bad) := rfl
@[simp] theorem e_sl {lo hi : MO?} : mSl a lo hi sl st = (a sl st).bind fun x st => (lo sl st).bind fun l st => (hi sl st).bind fun h st => fSl l h x st := rfl
@[simp] theorem e_len : mLen a sl st = (a sl st).bind fun x st => onD1 dLen x st := rfl
@[simp] theorem e_int : mInt a sl st = (a sl st).bind fun x st => onD1 dInt x st := rfl
@[simp] theorem e_tuple : mTuple a sl st = (a sl st).bind fun x st => fTuple x st := rfl
@[simp] theorem e_list : mList a sl st = (a sl st).bind fun x st => onD1 dList x st := rfl
@[simp] theorem e_all : mAll a sl st = (a sl st).bind fun x st => onD1 dAll x st := rfl
@[simp] theorem e_any : mAny a sl st = (a sl st).bind fun x st => onD1 dAny x st := rfl
@[simp] theorem e_isi {T : Ty} : mIsi T a sl st = (a sl st).bind fun d st => lift ((tyD st d).map fun t => .bool (t.sub T)) st := rfl
@[simp] theorem e_repr : mRepr a sl st = (a sl st).bind fun d st => lift (reprD st d) st := rfl
@[simp] theorem e_rev : mRev a sl st = (a sl st).bind fun x st => onD1 dRev x st := rfl
@[simp] theorem e_call {F : Fn} : mCall F ms sl st = (ms sl st).bind F := rfl
@[simp] theorem e_seq {p q : MS} : sSeq p q sl st = (p sl st).bind q := rfl
@[simp] theorem e_snil : sNil sl st = .nx sl st := rfl
@[simp] theorem e_asg {g : MG} : sAsg a g sl st = (a sl st).thenS fun d st => (g d sl st).thenS .nx := rfl
@[simp] theorem e_par2 {j : Nat} : sPar2 i j ms sl st = (ms sl st).thenS (set2 i j sl) := rfl
@[simp] theorem e_par3 {j l : Nat} : sPar3 i j l ms sl st = (ms sl st).thenS (set3 i j l sl) := rfl
@[simp] theorem e_expr : sExpr a sl st = (a sl st).thenS fun _ st => .nx sl st := rfl
@[simp] theorem e_ret : sRet a sl st = (a sl st).thenS fun d st => .rt d st := rfl
@[simp] theorem e_retN : sRetN sl st = .rt .none st := rfl
@[simp] theorem e_sif {p q : MS} : sIf t p q sl st = (t sl st).thenS fun k st => if k = true then p sl st else q sl st := rfl
@[simp] theorem e_tgName : tgName i d sl st = .ok (sl.set i (some d)) st := rfl
@[simp] theorem e_tgTup {n : Nat} {g : MGs} {ds : List Pv.D} : tgTup n g (.tuple ds) sl st = if ds.length = n then g ds sl st else .bad := rfl
@[simp] theorem e_tgCons {g : MG} {r : MGs} {ds : List Pv.D} : tgCons g r (d :: ds) sl st = (g d sl st).bind (r ds) := rfl
@[simp] theorem e_tgNil : tgNil [] sl st = .ok sl st := rfl
@[simp] theorem e_tgSub : tgSub a b d sl st = (a sl st).bind fun o st => (b sl st).bind fun i st => (match setO st o i d with | some st' => .ok sl st' | none => .bad) := rfl
@[simp] theorem e_iter : mIter a sl st = (a sl st).bind srcOf := rfl
@[simp] theorem e_for {fg : List Nat} {mi : MI} {g : MG} {p : MS} : sFor fg mi g p sl st = (mi sl st).thenS fun s st => forL s.keep g p fg s.items (wipeD sl fg) st := rfl
@[simp] theorem e_app : mApp a b sl st = (a sl st).bind fun o st => if isLst st o = true then (b sl st).bind fun d st => fApp o d st else .bad := rfl
@[simp] theorem e_tyes : tYesM sl st = .ok true st := rfl
end
section
variable {α : Type} {sl : Sl} {st : Sto} {ds : List Pv.D} {d : Pv.D} {x : XV}
@[simp] theorem rs_nx {f : Sl → Sto → RS} : (RS.nx sl st).bind f = f sl st := rfl
@[simp] theorem rs_rt {f : Sl → Sto → RS} : (RS.rt d st).bind f = .rt d st := rfl
@[simp] theorem rs_exc {f : Sl → Sto → RS} : (RS.exc x st).bind f = .exc x st := rfl
@[simp] theorem rs_bk {f : Sl → Sto → RS} : (RS.bk sl st).bind f = .bk sl st := rfl
@[simp] theorem rs_ct {f : Sl → Sto → RS} : (RS.ct sl st).bind f = .ct sl st := rfl
@[simp] theorem th_ok {a : α} {f : α → Sto → RS} : (R.ok a st).thenS f = f a st := rfl
@[simp] theorem th_exc {f : α → Sto → RS} : (R.exc x st : R α).thenS f = .exc x st := rfl
@[simp] theorem end_nx : endR (.nx sl st) = .ok .none st := rfl
@[simp] theorem end_rt : endR (.rt d st) = .ok d st := rfl
@[simp] theorem end_exc : endR (.exc x st) = .exc x st := rfl
theorem fin_same {n : Nat} (h : st.length = n) : finR n (.ok d st) = .ok d st := by unfold finR; simp [h]
@[simp] theorem fin_now : finR st.length (.ok d st) = .ok d st := fin_same rfl
theorem fnP_e {n : Nat} {p : MS} : fnP n p ds st = finR st.length (endR (p (startD n ds) st)) := rfl
theorem fnK_e {n : Nat} {p : MS} : fnK n p ds st = endR (p (startD n ds) st) := rfl
@[simp] theorem tru_b {b : Bool} : truD st (.bool b) = some b := rfl
@[simp] theorem tru_n : truD st .none = some false := rfl
@[simp] theorem tru_i {i : Int} : truD st (.int i) = some (i != 0) := rfl
@[simp] theorem tru_l {xs : List Pv.D} : truD st (.list xs) = some (!xs.isEmpty) := rfl
@[simp] theorem tru_t {xs : List Pv.D} : truD st (.tuple xs) = some (!xs.isEmpty) := rfl
@[simp] theorem on1 {g : Pv.D → Option Pv.D} {y : Pv.D} : onD1 g y st = lift (g (deref st y)) st := rfl
@[simp] theorem on2 {g : Pv.D → Pv.D → Option Pv.D} {y z : Pv.D} : onD2 g y z st = lift (g (deref st y) (deref st z)) st := rfl
@[simp] theorem add_tt {xs ys : List Pv.D} : fAdd (.tuple xs) (.tuple ys) st = lift (dAddT xs ys) st := rfl
theorem add_ll {xs ys : List Pv.D} : fAdd (.list xs) (.list ys) st = lift (dAdd (.list xs) (.list ys)) st := rfl
@[simp] theorem add_ii {i j : Int} : fAdd (.int i) (.int j) st = .ok (.int (i + j)) st := rfl
@[simp] theorem ty_n : tyD st .none = some .non := rfl
@[simp] theorem ty_b {b : Bool} : tyD st (.bool b) = some .bool := rfl
@[simp] theorem ty_i {i : Int} : tyD st (.int i) = some .int := rfl
@[simp] theorem ty_s {z : Str} : tyD st (.str z) = some .str := rfl
@[simp] theorem ty_l {xs : List Pv.D} : tyD st (.list xs) = some .list := rfl
@[simp] theorem ty_t {xs : List Pv.D} : tyD st (.tuple xs) = some .tuple := rfl
end
end Pv
set_option Elab.async false
set_option linter.all false
set_option maxRecDepth 100000
set_option maxHeartbeats 4000000
namespace Pv
open PySem PySem.Spec L2
open PyProof.Rows hiding St
mutual
def wt : Pv.D → Nat
  | .none => 8
  | .bool _ => 8
  | .int i => if i.natAbs < 10 ^ 62 then 64 else 2 ^ 30
  | .str z => 10 * z.length + 4
  | .list ds => wtL ds + 4
  | .tuple ds => wtL ds + 4
  | .dict _ => 2 ^ 30
def wtL : List Pv.D → Nat
  | [] => 0
  | d :: ds => wt d + 4 + wtL ds
end
theorem int_len {i : Int} (h : i.natAbs < 10 ^ 62) : (Str.ofString (toString i)).length ≤ 63 := by
  cases i with
  | ofNat n =>
    have : ((Int.ofNat n)) < 10 ^ 62 := by have h' : n < 10 ^ 62 := h; simp only [Int.ofNat_eq_natCast]; omega
    exact Nat.le_succ_of_le (toString_length_le (v := Int.ofNat n) (Int.natCast_nonneg n) (by decide) this)
  | negSucc m =>
    have h' : m + 1 < 10 ^ 62 := h
    have e : toString (Int.negSucc m) = "-" ++ toString ((m + 1 : Nat) : Int) := rfl
    have q : (Str.ofString (toString ((m + 1 : Nat) : Int))).length ≤ 62 := toString_length_le (Int.natCast_nonneg _) (by decide) (by omega)
    rw [e]
    have e2 : (Str.ofString ("-" ++ toString ((m + 1 : Nat) : Int))).length = 1 + (Str.ofString (toString ((m + 1 : Nat) : Int))).length := by
      rw [PyProof.Rows.ofString_length, PyProof.Rows.ofString_length, String.toList_append, List.length_append]
      rfl
    omega
theorem listText_le (ts : List Str) : (listText ts).length ≤ piled ts + 2 := by
  cases ts with
  | nil => exact (by decide : ((listText [])).length ≤ 2)
  | cons t r =>
    have h := textFrom_length_pos r 1 (("[" : Str) ++ (if (0 : Nat) > 0 then ", " else "" : String) ++ t) (Nat.succ_pos 0)
    have e : ((("[" : Str) ++ (if (0 : Nat) > 0 then ", " else "" : String) ++ t)).length = 1 + t.length := by
      rw [strLen_append, strLen_append]; rfl
    unfold listText
    rw [strLen_append]
    show (textFrom 1 (("[" : Str) ++ (if (0 : Nat) > 0 then ", " else "" : String) ++ t) r).length + 1 ≤ _
    rw [h, e, piled_cons]; omega
theorem tupleText_le (ts : List Str) : (tupleText ts).length ≤ piled ts + 4 := by
  unfold tupleText
  rw [strLen_append, strLen_append]
  have e1 : ((("(" : String) : Str)).length = 1 := rfl
  have e3 : (((if ts.length == 1 then ",)" else ")" : String) : Str)).length ≤ 2 := by split <;> decide
  cases ts with
  | nil => rw [e1]; have : (Str.join ", " []).length = 0 := rfl; omega
  | cons t r => have := join_length_add (t :: r) (by simp); omega
mutual
theorem wt_shown : ∀ d : Pv.D, d.canLay0 = true → wt d < 2 ^ 30 → d.showable = true ∧ d.shown.length ≤ wt d
  | .none, _, _ => ⟨rfl, (by decide : (("None" : Str)).length ≤ 8)⟩
  | .bool b, _, _ => ⟨rfl, by cases b <;> exact (by decide)⟩
  | .int i, _, h => by
    unfold wt at h ⊢
    split at h
    · rename_i hi
      rw [if_pos hi]
      refine ⟨?_, Nat.le_succ_of_le (int_len hi)⟩
      simp only [PyData.showable, decide_eq_true_eq]
      by_cases hz : i.natAbs = 0
      · rw [hz]; decide
      · have l1 : i.natAbs.log2 < 207 := (Nat.log2_lt hz).mpr (Nat.lt_of_lt_of_le hi (by decide))
        omega
    · omega
  | .str z, hc, h => by
    refine ⟨rfl, ?_⟩
    have hc' : z.cps.all (· < 0x110000) = true := by simpa only [PyData.canLay0, PyData.strOk] using hc
    have := StrLaws.reprText_len z fun c h => by
      have := Array.all_eq_true'.mp hc' c (by simpa using h)
      simp at this; omega
    unfold wt
    show (reprText z).length ≤ _
    omega
  | .list ds, hc, h => by
    unfold wt at h ⊢
    obtain ⟨a, b⟩ := wtL_shown ds (by simpa [PyData.canLay0] using hc) (by omega)
    refine ⟨by simpa [PyData.showable] using a, ?_⟩
    simp only [PyData.shown]
    have := listText_le (PyData.shownAll ds)
    omega
  | .tuple ds, hc, h => by
    unfold wt at h ⊢
    obtain ⟨a, b⟩ := wtL_shown ds (by simpa [PyData.canLay0] using hc) (by omega)
    refine ⟨by simpa [PyData.showable] using a, ?_⟩
    simp only [PyData.shown]
    have := tupleText_le (PyData.shownAll ds)
    omega
  | .dict _, hc, _ => by simp [PyData.canLay0] at hc
theorem wtL_shown : ∀ ds : List Pv.D, PyData.canLayAll0 ds = true → wtL ds < 2 ^ 30 → PyData.showableAll ds = true ∧ piled (PyData.shownAll ds) ≤ wtL ds
  | [], _, _ => ⟨rfl, Nat.le_refl _⟩
  | d :: ds, hc, h => by
    unfold wtL at h ⊢
    simp only [PyData.canLayAll0, Bool.and_eq_true] at hc
    obtain ⟨a, b⟩ := wt_shown d hc.1 (by omega)
    obtain ⟨a2, b2⟩ := wtL_shown ds hc.2 (by omega)
    refine ⟨by simp [PyData.showableAll, a, a2], ?_⟩
    simp only [PyData.shownAll, piled_cons]
    omega
end
theorem wtL_append (xs ys : List Pv.D) : wtL (xs ++ ys) = wtL xs + wtL ys := by
  induction xs with
  | nil => simp [wtL]
  | cons x xs ih => simp only [List.cons_append, wtL, ih]; omega
theorem wtL_mem {d : Pv.D} : ∀ {ds : List Pv.D}, d ∈ ds → wt d ≤ wtL ds
  | e :: ds, h => by
    unfold wtL
    rcases List.mem_cons.mp h with q | q
    · subst q; omega
    · have := wtL_mem q; omega
theorem wtL_take (n : Nat) (ds : List Pv.D) : wtL (ds.take n) ≤ wtL ds := by
  have h : wtL ds = wtL (ds.take n) + wtL (ds.drop n) := by rw [← wtL_append, List.take_append_drop]
  omega
theorem wtL_drop (n : Nat) (ds : List Pv.D) : wtL (ds.drop n) ≤ wtL ds := by
  have h : wtL ds = wtL (ds.take n) + wtL (ds.drop n) := by rw [← wtL_append, List.take_append_drop]
  omega
theorem layAll_append (xs ys : List Pv.D) : PyData.canLayAll0 (xs ++ ys) = (PyData.canLayAll0 xs && PyData.canLayAll0 ys) := by
  induction xs with
  | nil => simp [PyData.canLayAll0]
  | cons x xs ih => simp [PyData.canLayAll0, ih, Bool.and_assoc]
theorem depthAll_append (xs ys : List Pv.D) : PyData.depthAll (xs ++ ys) = max (PyData.depthAll xs) (PyData.depthAll ys) := by
  induction xs with
  | nil => simp [PyData.depthAll]
  | cons x xs ih => simp [PyData.depthAll, ih, Nat.max_assoc]
theorem layAll_iff (xs : List Pv.D) : PyData.canLayAll0 xs = true ↔ ∀ x ∈ xs, x.canLay0 = true := by
  induction xs with
  | nil => simp [PyData.canLayAll0]
  | cons x xs ih => simp [PyData.canLayAll0, ih]
theorem depthAll_le (xs : List Pv.D) (n : Nat) : PyData.depthAll xs ≤ n ↔ ∀ x ∈ xs, x.depth ≤ n := by
  induction xs with
  | nil => simp [PyData.depthAll]
  | cons x xs ih => simp [PyData.depthAll, ih, Nat.max_le]
/-- data as the laws' papers make them -/
structure Ok (d : Pv.D) (n k : Nat) : Prop where
  lay : d.canLay0 = true
  wt : wt d ≤ n
  dp : d.depth ≤ k
theorem Ok.mono {d : Pv.D} {n k n' k' : Nat} (h : Ok d n k) (hn : n ≤ n') (hk : k ≤ k') : Ok d n' k' := ⟨h.lay, Nat.le_trans h.wt hn, Nat.le_trans h.dp hk⟩
theorem deref_ok {d : Pv.D} (h : d.canLay0 = true) (st : Sto) : deref st d = d := by
  cases d with
  | dict _ => simp [PyData.canLay0] at h
  | _ => rfl
theorem repr_ok {d : Pv.D} {n k : Nat} (h : Ok d n k) (hn : n ≤ 2 ^ 24) (hk : k ≤ 100) (st : Sto) : reprD st d = some (.str d.shown) := by
  obtain ⟨a, b⟩ := wt_shown d h.lay (by have := h.wt; omega)
  unfold reprD
  rw [deref_ok h.lay, if_pos ⟨h.lay, a, Nat.le_trans h.dp hk, by have := h.wt; rw [sizeLine_eq]; omega⟩]
end Pv
set_option Elab.async false
set_option linter.all false
set_option maxRecDepth 100000
set_option maxHeartbeats 4000000
namespace Pv
open PySem PySem.Spec L2
open PyProof.Rows hiding St
theorem char_toNat_inj {a b : Char} (h : a.toNat = b.toNat) : a = b := Char.ext (UInt32.toNat_inj.mp h)
theorem map_toNat_inj : ∀ {a b : List Char}, a.map Char.toNat = b.map Char.toNat → a = b
  | [], [], _ => rfl
  | [], _ :: _, h => by cases h
  | _ :: _, [], h => by cases h
  | x :: xs, y :: ys, h => by
    simp only [List.map_cons, List.cons.injEq] at h
    rw [char_toNat_inj h.1, map_toNat_inj h.2]
@[simp] theorem ofString_eq (a b : String) : (Str.ofString a = Str.ofString b) = (a = b) := by
  apply propext
  constructor
  · intro h
    rw [Str.ofString_eq_toList, Str.ofString_eq_toList] at h
    have h1 : (a.toList.map Char.toNat) = (b.toList.map Char.toNat) := by simpa using h
    exact String.ext (map_toNat_inj h1)
  · intro h; rw [h]
@[simp] theorem ofString_beq (a b : String) : (Str.ofString a == Str.ofString b) = (a == b) := by
  by_cases h : a = b
  · subst h; simp
  · have h2 : ¬ Str.ofString a = Str.ofString b := by rw [ofString_eq]; exact h
    rw [beq_eq_false_iff_ne.mpr h2, beq_eq_false_iff_ne.mpr h]
section
variable {i j : Int} {a b : Str} {xs ys : List Pv.D}
@[simp] theorem cmp_lt_i : dCmp .Lt (.int i) (.int j) = some (.bool (decide (i < j))) := by
  show some (PyData.bool (cmpR .Lt (cmpD (.int i) (.int j)))) = _
  unfold cmpR cmpD
  congr 2
  by_cases h : i < j
  · simp [h]
  · by_cases h2 : i = j <;> simp [h, h2]
@[simp] theorem cmp_le_i : dCmp .LtE (.int i) (.int j) = some (.bool (decide (i ≤ j))) := by
  show some (PyData.bool (cmpR .LtE (cmpD (.int i) (.int j)))) = _
  unfold cmpR cmpD
  congr 2
  by_cases h : i < j
  · have : i ≤ j := by omega
    simp [h, this]
  · by_cases h2 : i = j
    · simp [h2]
    · have : ¬ i ≤ j := by omega
      simp [h, h2, this]
@[simp] theorem cmp_gt_i : dCmp .Gt (.int i) (.int j) = some (.bool (decide (j < i))) := by
  show some (PyData.bool (cmpR .Gt (cmpD (.int i) (.int j)))) = _
  unfold cmpR cmpD
  congr 2
  by_cases h : i < j
  · have : ¬ j < i := by omega
    simp [h, this]
  · by_cases h2 : i = j
    · simp [h2]
    · have : j < i := by omega
      simp [h, h2, this]
@[simp] theorem cmp_ge_i : dCmp .GtE (.int i) (.int j) = some (.bool (decide (j ≤ i))) := by
  show some (PyData.bool (cmpR .GtE (cmpD (.int i) (.int j)))) = _
  unfold cmpR cmpD
  congr 2
  by_cases h : i < j
  · have : ¬ j ≤ i := by omega
    simp [h, this]
  · have : j ≤ i := by omega
    by_cases h2 : i = j <;> simp [h, h2, this]
@[simp] theorem cmp_eq_i : dCmp .Eq (.int i) (.int j) = some (.bool (decide (i = j))) := by
  show some (PyData.bool (i == j)) = _
  rfl
@[simp] theorem cmp_ne_i : dCmp .NotEq (.int i) (.int j) = some (.bool (!decide (i = j))) := by
  show some (PyData.bool (!(i == j))) = _
  rfl
@[simp] theorem cmp_eq_s : dCmp .Eq (.str a) (.str b) = some (.bool (a == b)) := rfl
@[simp] theorem cmp_ne_s : dCmp .NotEq (.str a) (.str b) = some (.bool (!(a == b))) := rfl
theorem eqB_of {x y : Pv.D} (h : layOk x y = true) : dEqB x y = some (PyData.eqv x y) := by
  unfold dEqB
  split
  · rfl
  · rw [if_pos h]
theorem cmp_eq {x y : Pv.D} (h : layOk x y = true) : dCmp .Eq x y = some (.bool (PyData.eqv x y)) := by
  show obD (dEqB x y) = _
  rw [eqB_of h]; rfl
theorem cmp_ne {x y : Pv.D} (h : layOk x y = true) : dCmp .NotEq x y = some (.bool (!PyData.eqv x y)) := by
  show obD ((dEqB x y).map (!·)) = _
  rw [eqB_of h]; rfl
@[simp] theorem eqv_nil_l (xs : List Pv.D) : PyData.eqv (.list xs) (.list []) = xs.isEmpty := by cases xs <;> rfl
@[simp] theorem eqv_nil_t (xs : List Pv.D) : PyData.eqv (.tuple xs) (.tuple []) = xs.isEmpty := by cases xs <;> rfl
theorem lay_nil {y : Pv.D} (hy : y.canLay0 = true) : layOk y (.list []) = true ∧ layOk y (.tuple []) = true := by
  unfold layOk
  rw [hy]
  have h : min y.depth 1 ≤ 64 := by omega
  exact ⟨decide_eq_true h, decide_eq_true h⟩
theorem cmp_eq_nilL (h : PyData.canLayAll0 xs = true) : dCmp .Eq (.list xs) (.list []) = some (.bool xs.isEmpty) := by
  rw [cmp_eq (lay_nil (y := .list xs) h).1, eqv_nil_l]
theorem cmp_ne_nilL (h : PyData.canLayAll0 xs = true) : dCmp .NotEq (.list xs) (.list []) = some (.bool (!xs.isEmpty)) := by
  rw [cmp_ne (lay_nil (y := .list xs) h).1, eqv_nil_l]
@[simp] theorem cmp_ne_nn : dCmp .NotEq (.list []) (.list []) = some (.bool false) := cmp_ne_nilL rfl
@[simp] theorem cmp_eq_nn : dCmp .Eq (.list []) (.list []) = some (.bool true) := cmp_eq_nilL rfl
end
@[simp] theorem fin_cons {d : Pv.D} {a : MO} {st : Sto} : finR (st.length + 1) (.ok d (a :: st)) = .ok d (a :: st) := fin_same rfl
def fd (cs : List Pv.D) (sp lf dr : Int) : MO := .dct [(.inr "cells", .list cs), (.inr "spot", .int sp), (.inr "left", .int lf), (.inr "drawn", .int dr)]
def IntsD (cs : List Pv.D) : Prop := ∀ c ∈ cs, ∃ i, c = .int i
section
variable {cs : List Pv.D} {sp lf dr v : Int} {st : Sto}
theorem ints_lay {cs : List Pv.D} (h : IntsD cs) : PyData.canLayAll0 cs = true := (layAll_iff cs).mpr fun x hx => by obtain ⟨i, e⟩ := h x hx; subst e; rfl
theorem fd_cells : fIx (Rf 0) (.str "cells") (fd cs sp lf dr :: st) = .ok (.list cs) (fd cs sp lf dr :: st) := by
  unfold fIx dlook fd; simp [keyOf, lookD]
theorem fd_spot : fIx (Rf 0) (.str "spot") (fd cs sp lf dr :: st) = .ok (.int sp) (fd cs sp lf dr :: st) := by
  unfold fIx dlook fd; simp [keyOf, lookD]
theorem fd_left : fIx (Rf 0) (.str "left") (fd cs sp lf dr :: st) = .ok (.int lf) (fd cs sp lf dr :: st) := by
  unfold fIx dlook fd; simp [keyOf, lookD]
theorem fd_drawn : fIx (Rf 0) (.str "drawn") (fd cs sp lf dr :: st) = .ok (.int dr) (fd cs sp lf dr :: st) := by
  unfold fIx dlook fd; simp [keyOf, lookD]
theorem set_spot : setO (fd cs sp lf dr :: st) (Rf 0) (.str "spot") (.int v) = some (fd cs v lf dr :: st) := by
  unfold setO fd; simp [keyOf, putD, sizeLine_eq]
theorem set_left : setO (fd cs sp lf dr :: st) (Rf 0) (.str "left") (.int v) = some (fd cs sp v dr :: st) := by
  unfold setO fd; simp [keyOf, putD, sizeLine_eq]
theorem set_drawn : setO (fd cs sp lf dr :: st) (Rf 0) (.str "drawn") (.int v) = some (fd cs sp lf v :: st) := by
  unfold setO fd; simp [keyOf, putD, sizeLine_eq]
/-- a cell at any place -/
theorem at_mod {j : Int} (h : IntsD cs) (hne : cs ≠ []) : ∃ c, fIx (.list cs) (.int (j % (cs.length : Int))) st = .ok (.int c) st := by
  have hp : 0 < (cs.length : Int) := by
    have : cs.length ≠ 0 := fun z => hne (List.length_eq_zero_iff.mp z)
    omega
  have h0 := Int.emod_nonneg j (by omega : (cs.length : Int) ≠ 0)
  have h1 := Int.emod_lt_of_pos j hp
  obtain ⟨k, hk⟩ : ∃ k : Nat, j % (cs.length : Int) = (k : Int) := ⟨_, (Int.toNat_of_nonneg h0).symm⟩
  rw [hk] at h1 ⊢
  have hlt : k < cs.length := by omega
  obtain ⟨c, hc⟩ := h cs[k] (List.getElem_mem hlt)
  refine ⟨c, ?_⟩
  have e : dIx (.list cs) (.int (k : Int)) = some (.int c) := by
    show atI cs (k : Int) = _
    unfold atI ixN
    rw [if_pos (by omega), if_pos (by omega)]
    simp [hlt, hc]
  unfold fIx dlook
  simp [e]
end
theorem lcL_map {keep : Sto → Prop} [DecidablePred keep] {t : CT} {tt : MT} {te : M} {sl : Sl} {st : Sto} (f : Pv.D → Pv.D) (p : Pv.D → Bool) (hk : keep st) : ∀ {ds : List Pv.D},
    (∀ d ∈ ds, ∃ sl2, ctSet t d sl = some sl2 ∧ tt sl2 st = .ok (p d) st ∧ (p d = true → te sl2 st = .ok (f d) st)) → lcL keep t tt te sl ds st = .ok ((ds.filter p).map f) st
  | [], _ => by unfold lcL; rw [if_pos hk]; rfl
  | d :: ds, h => by
    obtain ⟨sl2, h1, h2, h3⟩ := h d List.mem_cons_self
    have ih := lcL_map f p hk (ds := ds) fun x hx => h x (List.mem_cons_of_mem _ hx)
    unfold lcL
    rw [if_pos hk, h1]
    simp only [h2]
    cases hp : p d with
    | true => simp only [h3 hp, ih, List.filter_cons, hp, if_true, List.map_cons]
    | false => simp [ih, List.filter_cons, hp]
theorem mLc_map {mi : MI} {t : CT} {tt : MT} {te : M} {vs : List Nat} {sl : Sl} {st : Sto} {ds : List Pv.D} {keep : Sto → Prop} [DecidablePred keep] (f : Pv.D → Pv.D) (p : Pv.D → Bool) (hi : mi sl st = .ok ⟨ds, keep⟩ st) (hk : keep st) (hz : ds.length ≤ sizeLine)
    (h : ∀ d ∈ ds, ∃ sl2, ctSet t d (wipeD sl vs) = some sl2 ∧ tt sl2 st = .ok (p d) st ∧ (p d = true → te sl2 st = .ok (f d) st)) : mLc mi t tt te vs sl st = .ok (.list ((ds.filter p).map f)) st := by
  unfold mLc lcR
  rw [hi]
  simp only [R.bind_ok, lcL_map f p hk h]
  rw [if_pos]
  · rfl
  · rw [List.length_map]; exact Nat.le_trans (List.length_filter_le _ _) hz
theorem mLc_all {mi : MI} {t : CT} {te : M} {vs : List Nat} {sl : Sl} {st : Sto} {ds : List Pv.D} {keep : Sto → Prop} [DecidablePred keep] (f : Pv.D → Pv.D) (hi : mi sl st = .ok ⟨ds, keep⟩ st) (hk : keep st) (hz : ds.length ≤ sizeLine)
    (h : ∀ d ∈ ds, ∃ sl2, ctSet t d (wipeD sl vs) = some sl2 ∧ te sl2 st = .ok (f d) st) : mLc mi t tYesM te vs sl st = .ok (.list (ds.map f)) st := by
  have := mLc_map (tt := tYesM) f (fun _ => true) hi hk hz fun d hd => let ⟨a, b, c⟩ := h d hd; ⟨a, b, rfl, fun _ => c⟩
  rw [this]
  congr 2
  rw [List.filter_eq_self.mpr fun _ _ => rfl]
theorem boolsOf_map {α : Type} (g : α → Bool) : ∀ l : List α, boolsOf (l.map fun d => PyData.bool (g d)) = some (l.map g)
  | [] => rfl
  | a :: l => by
    show (boolsOf (l.map fun d => PyData.bool (g d))).map (g a :: ·) = _
    rw [boolsOf_map g l]; rfl
theorem all_map {α : Type} (g : α → Bool) (l : List α) : dAll (.list (l.map fun d => PyData.bool (g d))) = some (.bool (l.all g)) := by
  show (boolsOf (l.map fun d => PyData.bool (g d))).map _ = _
  rw [boolsOf_map]
  simp [List.all_map]
theorem Ok.str_len {z : Str} {k : Nat} (h : Ok (.str z) (2 ^ 24) k) : z.length ≤ sizeLine := by
  have := h.wt
  unfold Pv.wt at this
  rw [sizeLine_eq]; omega
theorem Ok.nodict {n k : Nat} {kv : List (Pv.D × Pv.D)} (h : Ok (.dict kv) n k) : False := by
  have := h.lay; simp [PyData.canLay0] at this
@[simp] theorem is_none_n : isNone .none = true := rfl
@[simp] theorem is_none_i {i : Int} : isNone (.int i) = false := rfl
@[simp] theorem is_none_b {b : Bool} : isNone (.bool b) = false := rfl
@[simp] theorem is_none_s {z : Str} : isNone (.str z) = false := rfl
@[simp] theorem is_none_l {xs : List Pv.D} : isNone (.list xs) = false := rfl
@[simp] theorem is_none_t {xs : List Pv.D} : isNone (.tuple xs) = false := rfl
@[simp] theorem len_t {xs : List Pv.D} : dLen (.tuple xs) = some (.int xs.length) := rfl
@[simp] theorem len_l {xs : List Pv.D} : dLen (.list xs) = some (.int xs.length) := rfl
theorem len_s {z : Str} (h : z.length ≤ sizeLine) : dLen (.str z) = some (.int z.length) := by show (if z.length ≤ sizeLine then some (PyData.int z.length) else none) = _; rw [if_pos h]
theorem ix_t {ds : List Pv.D} {j : Nat} {d : Pv.D} {st : Sto} (h : ds[j]? = some d) : fIx (.tuple ds) (.int (j : Int)) st = .ok d st := by
  have hlt := (List.getElem?_eq_some_iff.mp h).1
  have e : dIx (.tuple ds) (.int (j : Int)) = some d := by
    show atI ds (j : Int) = _
    unfold atI ixN
    rw [if_pos (by omega), if_pos (by omega)]
    simpa using h
  unfold fIx dlook
  simp [e]
theorem ix_l {ds : List Pv.D} {j : Nat} {d : Pv.D} {st : Sto} (h : ds[j]? = some d) : fIx (.list ds) (.int (j : Int)) st = .ok d st := by
  have hlt := (List.getElem?_eq_some_iff.mp h).1
  have e : dIx (.list ds) (.int (j : Int)) = some d := by
    show atI ds (j : Int) = _
    unfold atI ixN
    rw [if_pos (by omega), if_pos (by omega)]
    simpa using h
  unfold fIx dlook
  simp [e]
@[simp] theorem ix_t0 {a : Pv.D} {ds : List Pv.D} {st : Sto} : fIx (.tuple (a :: ds)) (.int 0) st = .ok a st := ix_t (j := 0) rfl
@[simp] theorem ix_t1 {a b : Pv.D} {ds : List Pv.D} {st : Sto} : fIx (.tuple (a :: b :: ds)) (.int 1) st = .ok b st := ix_t (j := 1) rfl
@[simp] theorem ix_t2 {a b c : Pv.D} {ds : List Pv.D} {st : Sto} : fIx (.tuple (a :: b :: c :: ds)) (.int 2) st = .ok c st := ix_t (j := 2) rfl
@[simp] theorem ix_t3 {a b c d : Pv.D} {ds : List Pv.D} {st : Sto} : fIx (.tuple (a :: b :: c :: d :: ds)) (.int 3) st = .ok d st := ix_t (j := 3) rfl
@[simp] theorem ix_t4 {a b c d e : Pv.D} {ds : List Pv.D} {st : Sto} : fIx (.tuple (a :: b :: c :: d :: e :: ds)) (.int 4) st = .ok e st := ix_t (j := 4) rfl
@[simp] theorem src_t {ds : List Pv.D} {st : Sto} : srcOf (.tuple ds) st = .ok ⟨ds, always⟩ st := rfl
@[simp] theorem src_l {ds : List Pv.D} {st : Sto} : srcOf (.list ds) st = .ok ⟨ds, always⟩ st := rfl
@[simp] theorem src_s {z : Str} {st : Sto} : srcOf (.str z) st = .ok ⟨signs z, always⟩ st := rfl
def ltS (a b : Str) : Bool := cmpR .Lt (cmpD (.str a) (.str b))
@[simp] theorem cmp_lt_s {a b : Str} : dCmp .Lt (.str a) (.str b) = some (.bool (ltS a b)) := rfl
@[simp] theorem cmp_ge_s {a b : Str} : dCmp .GtE (.str a) (.str b) = some (.bool (!ltS a b)) := by
  show some (PyData.bool (cmpR .GtE (cmpD (.str a) (.str b)))) = _
  unfold ltS cmpR
  cases cmpD (.str a) (.str b) <;> rfl
end Pv
set_option Elab.async false
set_option linter.all false
set_option maxRecDepth 100000
set_option maxHeartbeats 4000000
namespace Pv
open PySem PySem.Spec L2
open PyProof.Rows hiding St signs cutD
mutual
def mx : Pv.D → Nat
  | .int i => i.natAbs
  | .list ds => mxL ds
  | .tuple ds => mxL ds
  | _ => 0
def mxL : List Pv.D → Nat
  | [] => 0
  | d :: ds => max (mx d) (mxL ds)
end
theorem mxL_append (xs ys : List Pv.D) : mxL (xs ++ ys) = max (mxL xs) (mxL ys) := by
  induction xs with
  | nil => simp [mxL]
  | cons x xs ih => simp only [List.cons_append, mxL, ih, Nat.max_assoc]
theorem mxL_mem {d : Pv.D} : ∀ {ds : List Pv.D}, d ∈ ds → mx d ≤ mxL ds
  | e :: ds, h => by
    unfold mxL
    rcases List.mem_cons.mp h with q | q
    · subst q; exact Nat.le_max_left _ _
    · exact Nat.le_trans (mxL_mem q) (Nat.le_max_right _ _)
theorem mxL_le {ds : List Pv.D} {n : Nat} : mxL ds ≤ n ↔ ∀ d ∈ ds, mx d ≤ n := by
  induction ds with
  | nil => simp [mxL]
  | cons d ds ih => simp [mxL, Nat.max_le, ih]
/-- bounded data: weight, depth, numbers -/
structure Bd (d : Pv.D) (n k b : Nat) : Prop where
  lay : d.canLay0 = true
  wt : wt d ≤ n
  dp : d.depth ≤ k
  mx : mx d ≤ b
theorem Bd.ok {d : Pv.D} {n k b : Nat} (h : Bd d n k b) : Ok d n k := ⟨h.lay, h.wt, h.dp⟩
theorem Bd.mono {d : Pv.D} {n k b n' k' b' : Nat} (h : Bd d n k b) (hn : n ≤ n') (hk : k ≤ k') (hb : b ≤ b') : Bd d n' k' b' := ⟨h.lay, Nat.le_trans h.wt hn, Nat.le_trans h.dp hk, Nat.le_trans h.mx hb⟩
/-- a list of bounded data -/
structure BdL (ds : List Pv.D) (n k b : Nat) : Prop where
  lay : PyData.canLayAll0 ds = true
  wt : wtL ds ≤ n
  dp : PyData.depthAll ds ≤ k
  mx : mxL ds ≤ b
theorem Bd.tup {ds : List Pv.D} {n k b : Nat} (h : BdL ds n k b) : Bd (.tuple ds) (n + 4) (k + 1) b := ⟨h.lay, by unfold Pv.wt; have := h.wt; omega, by show PyData.depthAll ds + 1 ≤ k + 1; have := h.dp; omega, h.mx⟩
theorem Bd.lst {ds : List Pv.D} {n k b : Nat} (h : BdL ds n k b) : Bd (.list ds) (n + 4) (k + 1) b := ⟨h.lay, by unfold Pv.wt; have := h.wt; omega, by show PyData.depthAll ds + 1 ≤ k + 1; have := h.dp; omega, h.mx⟩
theorem BdL.nil {k b : Nat} : BdL [] 0 k b := ⟨rfl, Nat.le_refl _, Nat.zero_le _, Nat.zero_le _⟩
theorem BdL.cons {d : Pv.D} {ds : List Pv.D} {n m k b : Nat} (h : Bd d n k b) (t : BdL ds m k b) : BdL (d :: ds) (n + 4 + m) k b :=
  ⟨by show (d.canLay0 && PyData.canLayAll0 ds) = true; rw [h.lay, t.lay]; rfl, by unfold wtL; have := h.wt; have := t.wt; omega, Nat.max_le.mpr ⟨h.dp, t.dp⟩, Nat.max_le.mpr ⟨h.mx, t.mx⟩⟩
theorem BdL.append {xs ys : List Pv.D} {n m k b : Nat} (h : BdL xs n k b) (t : BdL ys m k b) : BdL (xs ++ ys) (n + m) k b :=
  ⟨by rw [layAll_append, h.lay, t.lay]; rfl, by rw [wtL_append]; have := h.wt; have := t.wt; omega, by rw [depthAll_append]; exact Nat.max_le.mpr ⟨h.dp, t.dp⟩, by rw [mxL_append]; exact Nat.max_le.mpr ⟨h.mx, t.mx⟩⟩
theorem BdL.mono {ds : List Pv.D} {n k b n' k' b' : Nat} (h : BdL ds n k b) (hn : n ≤ n') (hk : k ≤ k') (hb : b ≤ b') : BdL ds n' k' b' := ⟨h.lay, Nat.le_trans h.wt hn, Nat.le_trans h.dp hk, Nat.le_trans h.mx hb⟩
theorem BdL.mem {d : Pv.D} {ds : List Pv.D} {n k b : Nat} (h : BdL ds n k b) (hd : d ∈ ds) : Bd d n k b :=
  ⟨(layAll_iff ds).mp h.lay d hd, Nat.le_trans (wtL_mem hd) h.wt, (depthAll_le ds k).mp h.dp d hd, Nat.le_trans (mxL_mem hd) h.mx⟩
theorem BdL.take {ds : List Pv.D} {n k b : Nat} (j : Nat) (h : BdL ds n k b) : BdL (ds.take j) n k b :=
  ⟨(layAll_iff _).mpr fun d hd => (layAll_iff ds).mp h.lay d (List.mem_of_mem_take hd), Nat.le_trans (wtL_take j ds) h.wt, (depthAll_le _ k).mpr fun d hd => (depthAll_le ds k).mp h.dp d (List.mem_of_mem_take hd), mxL_le.mpr fun d hd => mxL_le.mp h.mx d (List.mem_of_mem_take hd)⟩
theorem BdL.drop {ds : List Pv.D} {n k b : Nat} (j : Nat) (h : BdL ds n k b) : BdL (ds.drop j) n k b :=
  ⟨(layAll_iff _).mpr fun d hd => (layAll_iff ds).mp h.lay d (List.mem_of_mem_drop hd), Nat.le_trans (wtL_drop j ds) h.wt, (depthAll_le _ k).mpr fun d hd => (depthAll_le ds k).mp h.dp d (List.mem_of_mem_drop hd), mxL_le.mpr fun d hd => mxL_le.mp h.mx d (List.mem_of_mem_drop hd)⟩
theorem wtL_reverse (ds : List Pv.D) : wtL ds.reverse = wtL ds := by
  induction ds with
  | nil => rfl
  | cons d ds ih => rw [List.reverse_cons, wtL_append, ih]; simp only [wtL]; omega
theorem BdL.reverse {ds : List Pv.D} {n k b : Nat} (h : BdL ds n k b) : BdL ds.reverse n k b :=
  ⟨(layAll_iff _).mpr fun d hd => (layAll_iff ds).mp h.lay d (List.mem_reverse.mp hd), by rw [wtL_reverse]; exact h.wt, (depthAll_le _ k).mpr fun d hd => (depthAll_le ds k).mp h.dp d (List.mem_reverse.mp hd), mxL_le.mpr fun d hd => mxL_le.mp h.mx d (List.mem_reverse.mp hd)⟩
theorem Bd.int {i : Int} {b k : Nat} (h : i.natAbs ≤ b) (hb : b < 10 ^ 62) : Bd (.int i) 64 k b := ⟨rfl, by unfold Pv.wt; rw [if_pos (by omega)]; exact Nat.le_refl _, Nat.zero_le _, h⟩
theorem Bd.str {z : Str} {n b k : Nat} (h : (PyData.str z).canLay0 = true) (hz : 10 * z.length + 4 ≤ n) : Bd (.str z) n k b := ⟨h, by unfold Pv.wt; exact hz, Nat.zero_le _, Nat.zero_le _⟩
mutual
theorem fz_clean {g : Nat → Option Pv.D} : ∀ d : Pv.D, d.canLay0 = true → fz g d = some d
  | .none, _ => rfl
  | .bool _, _ => rfl
  | .int _, _ => rfl
  | .str _, _ => rfl
  | .list ds, h => by show (fzL g ds).map PyData.list = _; rw [fzL_clean ds h]; rfl
  | .tuple ds, h => by show (fzL g ds).map PyData.tuple = _; rw [fzL_clean ds h]; rfl
  | .dict _, h => by simp [PyData.canLay0] at h
theorem fzL_clean {g : Nat → Option Pv.D} : ∀ ds : List Pv.D, PyData.canLayAll0 ds = true → fzL g ds = some ds
  | [], _ => rfl
  | d :: ds, h => by
    have h' : d.canLay0 = true ∧ PyData.canLayAll0 ds = true := by simpa [PyData.canLayAll0] using h
    show (fz g d).bind (fun e => (fzL g ds).map (e :: ·)) = _
    rw [fz_clean d h'.1, fzL_clean ds h'.2]; rfl
end
/-- loops that go to their end -/
theorem forL_inv {keep : Sto → Prop} [DecidablePred keep] {tg : MG} {body : MS} {fg : List Nat} (I : Nat → Sl → Sto → Prop) (N : Nat) (hk : ∀ st, keep st) : ∀ {ds : List Pv.D} {k : Nat} {sl : Sl} {st : Sto}, k + ds.length ≤ N → I k sl st →
    (∀ (d : Pv.D) (k : Nat) (sl : Sl) (st : Sto), d ∈ ds → k < N → I k sl st → ∃ sl' st', (tg d sl st).thenS body = .nx sl' st' ∧ I (k + 1) (wipeD sl' fg) st') → ∃ sl' st', forL keep tg body fg ds sl st = .nx sl' st' ∧ I (k + ds.length) sl' st'
  | [], k, sl, st, hn, h, _ => ⟨sl, st, by unfold forL; rw [if_pos (hk st)], h⟩
  | d :: ds, k, sl, st, hn, h, hs => by
    rw [List.length_cons] at hn
    obtain ⟨sl', st', e, i⟩ := hs d k sl st List.mem_cons_self (by omega) h
    obtain ⟨sl2, st2, e2, i2⟩ := forL_inv I N hk (ds := ds) (by omega) i fun x k sl st hx => hs x k sl st (List.mem_cons_of_mem _ hx)
    refine ⟨sl2, st2, ?_, by rw [List.length_cons, show k + (ds.length + 1) = k + 1 + ds.length by omega]; exact i2⟩
    unfold forL
    rw [if_pos (hk st), e]
    exact e2
end Pv
set_option Elab.async false
set_option linter.all false
set_option maxRecDepth 100000
set_option maxHeartbeats 4000000
namespace Pv
open PySem PySem.Spec L2
open PyProof.Rows hiding St
def intsOfD : List Pv.D → Option (List Int)
  | [] => some []
  | .int i :: ds => (intsOfD ds).map (i :: ·)
  | _ => none
section
variable {K : PySem.W.Frag} {W : Wd} {H : Hp} {st : Sto} {v : V} {d : Pv.D}
def maxI : List Int → Option Int
  | [] => none
  | n :: ns => some (ns.foldl max n)
def minI : List Int → Option Int
  | [] => none
  | n :: ns => some (ns.foldl min n)
end
def dMax1 : Pv.D → Option Pv.D
  | .list ds => (intsOfD ds).bind fun ns => (maxI ns).map .int
  | _ => none
def dMin1 : Pv.D → Option Pv.D
  | .list ds => (intsOfD ds).bind fun ns => (minI ns).map .int
  | _ => none
def dSum1 : Pv.D → Option Pv.D
  | .list ds => (intsOfD ds).map fun ns => .int ns.sum
  | _ => none
def mMax1 : M → M := mOp1 (onD1 dMax1)
def mMin1 : M → M := mOp1 (onD1 dMin1)
def mSum1 : M → M := mOp1 (onD1 dSum1)
def fMaxDf (x y : Pv.D) (st : Sto) : R Pv.D :=
  match deref st x with
  | .list ds => (match intsOfD ds with
    | some ns => (match maxI ns with | some m => .ok (.int m) st | none => .ok y st)
    | none => .bad)
  | _ => .bad
def mMaxDf : M → M → M := mOp2 fMaxDf
end Pv
set_option Elab.async false
set_option linter.all false
set_option maxRecDepth 100000
set_option maxHeartbeats 400000
namespace Pv
open PySem PySem.Spec L2
open PyProof.Rows hiding St
def dLe : Pv.D → Pv.D → Bool := PySem.W.dataLe false id
def sortD (ds : List Pv.D) : List Pv.D := ds.mergeSort dLe
def isTupC : Pv.D → Bool
  | .tuple (_ :: _) => true
  | _ => false
def noTup : Pv.D → Bool
  | .tuple _ => false
  | .none => false
  | _ => true
def srtOk (ds : List Pv.D) : Bool := (ds.all fun d => ds.all fun e => PySem.W.alike d e) && ((ds.all isTupC || ds.all noTup) && (PyData.canLayAll0 ds && (decide (PyData.depthAll ds ≤ 64) && decide (ds.length ≤ sizeLine))))
end Pv
set_option Elab.async false
set_option linter.all false
set_option maxRecDepth 100000
set_option maxHeartbeats 400000
namespace Pv
open PySem PySem.Spec L2
open PyProof.Rows hiding St
def isDct (st : Sto) (o : Pv.D) : Bool :=
  match o with
  | .dict [(.int r, .none)] => (match st[r.toNat]? with | some (.dct _) => true | some (.dctT _) => true | _ => false)
  | _ => false
def fGet (x y z : Pv.D) (st : Sto) : R Pv.D := match dlook st x y with
  | some (some d) => .ok d st
  | some none => .ok z st
  | none => .bad
def mGet1 (a b : M) : M := fun sl st => (a sl st).bind fun o st => if isDct st o = true then (b sl st).bind fun y st => fGet o y .none st else .bad
def mGet2 (a b c : M) : M := fun sl st => (a sl st).bind fun o st => if isDct st o = true then (b sl st).bind fun y st => (c sl st).bind fun z st => fGet o y z st else .bad
section
variable {X : Cx} {Wx : WX} {ea eb ec e : Expr} {ma mb mc : M} {apos pos p : Pos}
def mNewK : M := fun _ st => .ok (Rf st.length) (st ++ [.dct []])
def mNewT : M := fun _ st => .ok (Rf st.length) (st ++ [.dctT []])
end
end Pv
set_option Elab.async false
set_option linter.all false
set_option maxRecDepth 100000
set_option maxHeartbeats 400000
namespace Pv
open PySem PySem.Spec L2
open PyProof.Rows hiding St
def cntD (ds : List Pv.D) (y : Pv.D) : Option Pv.D := if PyData.canLayAll0 ds = true ∧ y.canLay0 = true ∧ min (PyData.depthAll ds) y.depth ≤ 64 then some (.int ((ds.countP fun d => PyData.eqv d y : Nat) : Int)) else none
def fCnt (x y : Pv.D) (st : Sto) : R Pv.D :=
  match deref st x with
  | .list ds => lift (cntD ds (deref st y)) st
  | _ => .bad
def isLstD (st : Sto) (o : Pv.D) : Bool := match deref st o with | .list _ => true | _ => false
def mCnt (a b : M) : M := fun sl st => (a sl st).bind fun o st => if isLstD st o = true then (b sl st).bind fun d st => fCnt o d st else .bad
section
variable {X : Cx} {Wx : WX} {ea eb e : Expr} {ma mb mc : M} {pos p apos : Pos}
def tCntL (K : PySem.W.Frag) (ta tb : TE) : TE := fun σ H Q => ta σ H fun x H1 => ∃ a, x = .ref a ∧ (∃ xs, SqL K H1 a xs) ∧ tb σ H1 fun y H2 => ∃ xs ds d, SqL K H2 a xs ∧ DpAll K H2 xs ds ∧ Dp K H2 y d ∧ PyData.canLayAll0 ds = true ∧ d.canLay0 = true ∧ min (PyData.depthAll ds) d.depth ≤ 64 ∧ Q (.int ((ds.countP fun z => PyData.eqv z d : Nat) : Int)) H2
theorem seq_type {h : Heap} {s : Shared} {a : Addr} {o : Obj} {T : String} (ho : s.heap.get? a = some o) (hc : o.cls = .type T) (hd : o.dict = none) : s.TypeIs (.ref a) T ∧ ∀ b, Value.ref a = .ref b → ∃ ob, s.heap.get? b = some ob ∧ ob.dict = none :=
  ⟨⟨o, ho, hc⟩, fun b e => by cases e; exact ⟨o, ho, hd⟩⟩
theorem pe_cntL {ta tb : TE} (hg : Gd0 X) (ho : PE X ea ta) (he : PE X eb tb) (m : M1 X ea "count" apos eb pos) : PE X (.Call (.Attribute ea "count" apos) [eb] [] pos) (tCntL X.K ta tb) := by
  refine ⟨fun pins s σ H Q I h => ?_⟩
  refine wpAny_Call_method m.base m.few m.line PySem.F.plainAttrs_list PySem.F.slot_list_count PySem.F.type_list_count (thn (ho.run pins s σ H _ I h) fun u s1 ⟨x, H1, I1, rx, a, ex, ⟨xs, d⟩, q1⟩ => ?_)
  subst ex
  obtain rfl : u = Value.ref a := rx
  obtain ⟨its, _, pl, _⟩ := I1.list d
  obtain ⟨o, n, e1, e2, e3, e4⟩ := id pl
  obtain ⟨t1, t2⟩ := seq_type (h := s1.heap) (s := s1) e1 e2 e3
  refine ⟨t1, t2, ?_⟩
  rw [m.trees]
  refine Calls.callWith_builtin rfl (Calls.evalArgs_plain (Calls.spliced_cons (thn (he.run pins s1 σ H1 _ I1 q1) fun iv s2 ⟨y, H2, I2, ry, xs2, ds, d2, g1, g2, g3, g4, g5, g6, g7⟩ => Calls.spliced_nil ?_)))
  obtain ⟨its2, rv2, pl2, _⟩ := I2.list g1
  obtain ⟨as, ra⟩ := Dp.readsAll I2 ds xs2 its2 g2 rv2
  obtain ⟨bs, rb⟩ := Dp.reads I2 d2 y iv g3 ry
  exact PySem.SeqAt.count_list_data pl2.isList ra rb (PyData.plainAll_of_canLay0 _ g4) (PyData.plain_of_canLay0 _ g5) (by have := hg.un; omega) ⟨.int _, H2, I2.tok _, ⟨_, rfl⟩, g7⟩
theorem ge_count (g : Gd0 X) (ha : GE X Wx ea ma) (hb : GE X Wx eb mb) (m : M1 X ea "count" apos eb pos := by exact ⟨rfl, rfl, rfl, rfl⟩) : GE X Wx (.Call (.Attribute ea "count" apos) [eb] [] pos) (mCnt ma mb) := by
  refine PE.imp (pe_cntL g ha hb m) fun sh H Q ⟨W, sl, st, hr, hs, q⟩ => ?_
  refine rd_bind hr hs q fun d1 st1 W1 v1 H1 e1 x1 h1 s1 r1 p1 => ?_
  split at p1
  · rename_i hl
    unfold isLstD at hl
    split at hl
    · rename_i ds0 hds0
      obtain ⟨a, xs0, q1, q2, l0⟩ := rep_dlist h1 r1 hds0
      refine ⟨a, q1, ⟨xs0, .inl (.inl q2)⟩, ?_⟩
      refine rd_bind h1 s1 p1 fun d2 st2 W2 v2 H2 e2 x2 h2 s2 r2 p2 => ?_
      unfold fCnt at p2
      split at p2
      · rename_i ds hds
        unfold cntD lift at p2
        split at p2
        · rename_i dd hdd
          split at hdd
          · rename_i hc
            cases hdd
            obtain ⟨b, xs, g1, g2, l⟩ := rep_dlist h2 (x2.rep r1) hds
            rw [q1] at g1; cases g1
            exact ⟨xs, ds, deref st2 d2, .inl (.inl g2), repL_dp h2.sub ds hc.1 l, rep_dpR h2 r2 rfl hc.2.1, hc.1, hc.2.1, hc.2.2, p2.val h2 rfl⟩
          · cases hdd
        · exact p2.elim
      · exact p2.elim
    · cases hl
  · exact p1.elim
end
end Pv
set_option Elab.async false
set_option linter.all false
set_option maxRecDepth 100000
set_option maxHeartbeats 400000
namespace Pv
open PySem PySem.Spec L2
open PyProof.Rows hiding St
section
variable {K : PySem.W.Frag} {W : Wd} {H : Hp} {st : Sto}
def pairD (d e : Pv.D) : Pv.D := .tuple [d, e]
end
theorem WalkK.mono {K : PySem.W.Frag} {J : It} {W W' : Wd} {s : Src} (h : WalkK K J W s) (f : ∀ b o, W.F b = some o → W'.F b = some o) (r : ∀ (r : Nat) (a : Addr), W.rho[r]? = some a → W'.rho[r]? = some a) : WalkK K J W' s :=
  fun W1 H1 st1 h1 f1 r1 k => h W1 H1 st1 h1 (fun b o e => f1 b o (f b o e)) (fun q a e => r1 q a (r q a e)) k
end Pv
set_option Elab.async false
set_option linter.all false
set_option maxRecDepth 100000
set_option maxHeartbeats 1000000
namespace Pv
open PySem PySem.Spec L2
open PyProof.Rows hiding St
end Pv
set_option Elab.async false
set_option linter.all false
set_option maxRecDepth 100000
set_option maxHeartbeats 1000000
namespace Pv
open PySem PySem.Spec L2
open PyProof.Rows hiding St
section
variable {X : Cx} {Wx : WX} {W : Wd} {H : Hp} {st : Sto} {sh : L2.St} {sl : Sl} {kx vx tg iter : Expr} {ifs : List Expr} {scope : Scope} {pos : Pos} {mi : MI} {t : CT} {tt : MT} {tk tv : M}
theorem Bes.adopt {K : PySem.W.Frag} {W W1 : Wd} {H H1 : Hp} {st : Sto} {Dd : Addr} {m : MO} (b : Bes W H Dd W1 H1) (h : HR K W1 H1 st) (hD : Nn H Dd) (htb : noTb m = true) (hm : repO K ⟨W1.F, W1.rho ++ [Dd]⟩ H1 Dd m) :
    HR K ⟨W1.F, W1.rho ++ [Dd]⟩ H1 (st ++ [m]) ∧ Ext W H ⟨W1.F, W1.rho ++ [Dd]⟩ H1 ∧ rep K ⟨W1.F, W1.rho ++ [Dd]⟩ (.ref Dd) (Rf st.length) := by
  refine ⟨HR.keepM h b.n b.f hm htb, ⟨b.e.fr, ?_, b.e.out, b.e.non, b.e.nf⟩, ⟨st.length, Dd, rfl, rfl, by show (W1.rho ++ [Dd])[st.length]? = some Dd; rw [← h.len]; simp⟩⟩
  obtain ⟨r, e, hm⟩ := b.e.rh
  refine ⟨r ++ [Dd], by show W1.rho ++ [Dd] = _; rw [e, List.append_assoc], fun a ha => ?_⟩
  rcases List.mem_append.mp ha with z | z
  · exact hm a z
  · have : a = Dd := by simpa using z
    rw [this]; exact hD
end
end Pv
set_option Elab.async false
set_option linter.all false
set_option maxRecDepth 100000
set_option maxHeartbeats 1000000
set_option pp.maxSteps 200
namespace Pv
open PySem PySem.Spec L2
open PyProof.Rows hiding St
/-- the context of such an __init__ -/
def iCx (P : Program) (w : World) (K : PySem.W.Frag) (mg : Str → Option Value) (base : Heap) (N : List Str) (qual : Str) (scope : Scope) (f cc : Addr) (cdv : Value) (A : Around) (outer : List Env) (s : Shared) (H : Hp) : Cx where
  prog := P
  w := w
  K := K
  mg := mg
  base := base
  A := A.deeper (PySem.W.ksEnv qual scope s.heap.objs.size f cdv cc)
  N := N
  s_0 := s
  H_0 := H
  env := PySem.W.ksEnv qual scope s.heap.objs.size f cdv cc
  outer := outer
  stack := PySem.W.ksEnv qual scope s.heap.objs.size f cdv cc :: outer
  ex := []
  fn := fun _ => false
  calm := true
  pn := []
  xe := fun _ _ => False
/-- what the written part says of the def -/
structure InitAt (K : PySem.W.Frag) (mg : Str → Option Value) (prog : Program) (N : List Str) (qual : Str) (scope : Scope) (f cc : Addr) (fd : FuncData) (cdv : Value) (C : Addr) : Prop where
  lk : ∃ oc od osl, K.lookup f = some ⟨oc, od, .func fd, osl⟩
  fd_ : ∃ params body dV kV doc pm an ct, fd = PySem.W.ksFn "__init__" qual params body scope dV kV doc pm an cdv ct cc ∧ (∃ ar, (params.posonlyargs ++ params.args).head? = some ar ∧ some ar.arg = N[0]?)
  code : PySem.W.codeIn K cdv qual = true
  cda : ∃ cda ccl cdd vs ccs file tf, cdv = .ref cda ∧ K.lookup cda = some ⟨ccl, cdd, .fields vs, ccs⟩ ∧ vs[2]? = some (.str file tf) ∧ ((prog.main.file : Str) == file) = true
  cell : ∃ cl cld csl, K.lookup cc = some ⟨cl, cld, .cell (some (.ref C)), csl⟩
  nsuper : mg "super" = none
  kind : scope.kind = .function
  co : scope.isCoroutine = false
  gen : scope.isGenerator = false
  loc : ∀ x ∈ N, scope.names.lookup x = some .local
  nocell : ∀ y ∈ scope.names, y.2 ≠ .cell
  free : ∀ y ∈ scope.names, y.2 = .free → y.1 = "__class__"
  ks : scope.names.lookup ("super" : Str) = some .globalImplicit
  kc : scope.names.lookup ("__class__" : Str) = some .free
  nd : N.Nodup
  top : (prog.main.scope.names.lookup ("super" : Str)).isSome = false
theorem lookup_nodup {α β : Type} [BEq α] [LawfulBEq α] : ∀ {l : List (α × β)} {x : α} {y : β}, (l.map (·.1)).Nodup → (x, y) ∈ l → l.lookup x = some y
  | [], _, _, _, h => by cases h
  | (a, b) :: l, x, y, nd, h => by
    simp only [List.map_cons, List.nodup_cons] at nd
    rcases List.mem_cons.mp h with e | e
    · cases e; simp [List.lookup]
    · have : ¬ x = a := fun z => nd.1 (z ▸ List.mem_map.mpr ⟨(x, y), e, rfl⟩)
      have hb : (x == a) = false := beq_eq_false_iff_ne.mpr this
      simp only [List.lookup, hb]
      exact lookup_nodup nd.2 e
section
variable {P : Program} {w : World} {K : PySem.W.Frag} {mg : Str → Option Value} {base : Heap} {N : List Str} {qual : Str} {scope : Scope} {f cc C : Addr} {fd : FuncData} {cdv : Value}
theorem i_start {A : Around} {outer : List Env} {s : Shared} {H : Hp} {us : List Value} {vs : List V} {h₁ : Heap} {tk : Nat} (D : InitAt K mg P N qual scope f cc fd cdv C) (hd : A.handled = none) (e0 : Env0 P w K mg base A outer s H) (hl : vs.length = N.length) (r : Vals vs us)
    (hns : h₁.Ns s.heap.objs.size fun y => (N.zip us).reverse.lookup y) (kp : ∀ b o, s.heap.get? b = some o → h₁.get? b = some o) :
    Inv (iCx P w K mg base N qual scope f cc cdv A outer s H) [] (L2.start N vs) H { s with heap := h₁, toks := tk } := by
  obtain ⟨cl, cld, csl, hcell⟩ := D.cell
  have bcell : base.get? cc = some ⟨cl, cld, .cell (some (.ref C)), csl⟩ := e0.mod.kin _ _ hcell
  have cms : ∀ {y c}, ([("__class__", cc)] : List (Str × Addr)).lookup y = some c → y = "__class__" ∧ c = cc := fun {y c} e => by
    by_cases hy : y = "__class__"
    · subst hy
      rw [show ([("__class__", cc)] : List (Str × Addr)).lookup ("__class__" : Str) = some cc from by simp [List.lookup]] at e
      cases e; exact ⟨rfl, rfl⟩
    · rw [show ([("__class__", cc)] : List (Str × Addr)).lookup y = none from by simp [List.lookup, beq_eq_false_iff_ne.mpr hy]] at e
      cases e
  have noA : ∀ b : Addr, b ∉ (iCx P w K mg base N qual scope f cc cdv A outer s H).ex := fun b z => absurd (show b ∈ ([] : List Addr) from z) (by simp)
  have hus : us.length = N.length := r.length.symm.trans hl
  refine ⟨⟨e0.mod, D.kind, rfl, rfl, Nat.le_refl _, fun y z c e1 e2 => ?_, fun y hy => ?_, fun y c z _ => ?_, fun _ => hd, Around.frames_deeper e0.frames, .inr ⟨rfl, rfl⟩, fun b z => absurd z (noA b), e0.bs, e0.bsz, fun b _ _ => noA b,
      fun b z => absurd z (noA b), e0.funs, e0.frf⟩,
    rfl, e0.bare, Un.kept kp, ⟨_, hns, fun i y v e1 e2 e3 => ?_⟩, fun y c e => ?_, e0.hok.fresh (Nat.le_refl _), fun y c e => ?_, fun q hq => absurd (show q ∈ ([] : List (Addr × Obj)) ++ [] from hq) (by simp), e0.hok.kept kp, ?_⟩
  · exact (cms e1).1.trans (cms e2).1.symm
  · have hy : scope.names.lookup y = some .cell ∨ scope.names.lookup y = some .free := hy
    rcases hy with hy | hy
    · exact absurd rfl (D.nocell _ (PySem.mem_of_lookup hy))
    · have := D.free _ (PySem.mem_of_lookup hy) rfl
      have : y = "__class__" := this
      subst this
      exact ⟨cc, by show ([("__class__", cc)] : List (Str × Addr)).lookup ("__class__" : Str) = some cc; simp [List.lookup]⟩
  · have z : false = true := z
    cases z
  · have e1 : N[i]? = some y := e1
    have hi : i < N.length := (List.getElem?_eq_some_iff.mp e1).1
    have e2' : vs[i]? = some v := by
      unfold L2.start at e2
      rw [List.getElem?_append_left (by rw [List.length_map, hl]; exact hi), List.getElem?_map] at e2
      cases q : vs[i]? with
      | none => rw [q] at e2; cases e2
      | some a => rw [q] at e2; cases e2; rfl
    obtain ⟨u, hu, ru⟩ := r.get e2'
    refine ⟨u, ru, .inl ⟨D.loc y (List.mem_of_getElem? e1), ?_⟩⟩
    show (N.zip us).reverse.lookup y = some u
    have hz : (N.zip us)[i]? = some (y, u) := by rw [List.getElem?_zip_eq_some]; exact ⟨e1, hu⟩
    have nd : ((N.zip us).map (·.1)).Nodup := by
      rw [List.map_fst_zip (by omega)]; exact D.nd
    exact lookup_nodup (by rw [List.map_reverse]; exact List.pairwise_reverse.mpr (nd.imp fun h => Ne.symm h)) (List.mem_reverse.mpr (List.mem_of_getElem? hz))
  · obtain ⟨_, e⟩ := cms e
    rw [e]
    exact ⟨_, _, kp _ _ (e0.bs _ _ bcell).1, rfl⟩
  · obtain ⟨_, e⟩ := cms e
    rw [e]
    exact (e0.bs _ _ bcell).2
  · show (L2.start N vs).length = N.length
    unfold L2.start; simp [hl]
/-- super().__init__(e, ..) at the beginning, then what the rest asks -/
theorem i_run {A : Around} {outer : List Env} {s : Shared} {H : Hp} {args : Args} {us : List Value} {vs : List V} {CXg : CXT} {Q : VK} {E : XK} {k : Nat} {a : Addr} {ws : List V} {es : List Expr} {e : Expr} {rest : List Stmt} {p0 p1 p2 p3 p4 : Pos} {t : TS} (D : InitAt K mg P N qual scope f cc fd cdv C) (T : OexC K C)
    (hB : ∃ params dV kV doc pm an ct, fd = PySem.W.ksFn "__init__" qual params (.Expr (.Call (.Attribute (.Call (.Name "super" p0) [] [] p1) "__init__" p2) (e :: es) [] p3) p4 :: rest) scope dV kV doc pm an cdv ct cc ∧ (∃ ar, (params.posonlyargs ++ params.args).head? = some ar ∧ some ar.arg = N[0]?))
    (hopq : PySem.W.nsIn K PySem.cStatics "thirdparty.any" = some none) (hsup : PySem.W.ks_superIn K C C "__init__" = some (some (.builtin "ValueError.__init__"))) (hsub : PySem.W.subIn K (.ref C) (.type "ValueError") = some true) (hmro : PySem.W.mroIn K C (.ref C) = some true) (hcls : ∃ cd, PySem.W.clsIn K C = some cd)
    (hr : Room k A) (e0 : Env0 P w K mg base A outer s H) (hbn : BindsTo s fd args (N.zip us)) (rv : Vals vs us) (hl : vs.length = N.length) (ev : vs = .ref a :: ws) (ha : H a = some (exo a C none))
    (hargs : ∀ (s2 : Shared) (Q2 : List Value → Shared → Prop) (E2 : Value → Shared → Prop), L2.Inv (iCx P w K mg base N qual scope f cc cdv A outer s H) [] (L2.start N vs) H s2 → (∀ ws, ws.length ≤ sizeLine → Q2 ws s2) →
      wpAny (model P w) (A.deeper (PySem.W.ksEnv qual scope s.heap.objs.size f cdv cc)) (spliced (backTo p3 (starEach (e :: es) (PySem.W.ksEnv qual scope s.heap.objs.size f cdv cc)))) Q2 E2 s2)
    (hrest : ∀ X : Cx, X = iCx P w K mg base N qual scope f cc cdv A outer s H → PSs X rest t) (ht : t { nx := fun _ H' => Q .non H', rt := Q } (L2.start N vs) H) (hse : ∀ env : Env, swapsWith (.Call (.Attribute (.Call (.Name "super" p0) [] [] p1) "__init__" p2) (e :: es) [] p3) none p4.line env = pure false)
    (pl : Env → Sem Bool) (hcE : ∀ env : Env, eval (.Call (.Attribute (.Call (.Name "super" p0) [] [] p1) "__init__" p2) (e :: es) [] p3) env = (do
      let ov ← attributeBase (.Call (.Name "super" p0) [] [] p1) "__init__" env (eval (.Call (.Name "super" p0) [] [] p1) env)
      standAt p2.atName
      let (f, first) ← holding [ov] (getMethod ov "__init__" (pl env))
      callWith p3 f first (backTo p3 (starEach (e :: es) env)) []))
    (heE : ∀ env : Env, starEach (e :: es) env = (false, eval e env) :: starEach es env) (hpE : ∀ env : Env, (backTo p3 (starEach es env)).any (·.1) = false) :
    codeAny (model P w) A (.call (.ref f) args) (CR CXg outer P w H s Q E) s := by
  obtain ⟨oc, od, osl, lk⟩ := D.lk
  obtain ⟨params, dV, kV, doc, pm, an, ct, rfl, ar, har, hN0⟩ := hB
  have kin := e0.mod.kin.keeps fun b o e => (e0.bs b o e).1
  have nolim := e0.mod.nolimit.keeps fun b o e => (e0.bs b o e).1
  have hus : us.length = N.length := rv.length.symm.trans hl
  refine PySem.ks_codeAny_call_defAt hr.depth (kin _ _ lk) rfl nolim (PySem.W.codeRec_of kin D.code) rfl hbn (fun y hy => D.nocell y hy) (fun y hy => D.loc _ (List.of_mem_zip hy).1) (fun h₁ hns kp => ?_) D.co D.gen D.kind
  have I := i_start (tk := s.toks + (N.zip us).length) D hr.hd e0 hl rv hns kp
  generalize hs1 : ({ s with heap := h₁, toks := s.toks + (N.zip us).length } : Shared) = s1 at I ⊢
  generalize hX : iCx P w K mg base N qual scope f cc cdv A outer s H = X at I hrest hargs
  have eA : X.A = A.deeper (PySem.W.ksEnv qual scope s.heap.objs.size f cdv cc) := by rw [← hX]; rfl
  have eE : X.env = PySem.W.ksEnv qual scope s.heap.objs.size f cdv cc := by rw [← hX]; rfl
  have eP : X.prog = P := by rw [← hX]; rfl
  have eW : X.w = w := by rw [← hX]; rfl
  have eK : X.K = K := by rw [← hX]; rfl
  have exe : X.xe = fun _ _ => False := by rw [← hX]; rfl
  show _root_.PySem.wpAt (model P w) (A.deeper (PySem.W.ksEnv qual scope s.heap.objs.size f cdv cc)) (.func _ (PySem.W.ksEnv qual scope s.heap.objs.size f cdv cc)) (execs _ (PySem.W.ksEnv qual scope s.heap.objs.size f cdv cc)) _ _ s1
  -- the rest, once the first statement is through
  have fin : ∀ s2, Inv X [] (L2.start N vs) H s2 → _root_.PySem.wpAt (model P w) (A.deeper (PySem.W.ksEnv qual scope s.heap.objs.size f cdv cc)) (.func (.Expr (.Call (.Attribute (.Call (.Name "super" p0) [] [] p1) "__init__" p2) (e :: es) [] p3) p4 :: rest) (PySem.W.ksEnv qual scope s.heap.objs.size f cdv cc)) (execs rest (PySem.W.ksEnv qual scope s.heap.objs.size f cdv cc))
      (fun fl s' => CR CXg outer P w H s Q E (.ok (.ret (match fl with | .ret v => v | _ => .none))) s') (fun e s' => wpAny (model P w) (A.deeper (PySem.W.ksEnv qual scope s.heap.objs.size f cdv cc)) (leaving (PySem.W.ksEnv qual scope s.heap.objs.size f cdv cc) e) (fun _ s'' => CR CXg outer P w H s Q E (.error e) s'') (fun e' s'' => CR CXg outer P w H s Q E (.error e') s'') s') s2 := by
    intro s2 I2
    refine wpAt_of_wpAny ?_
    have J := (hrest X rfl).run [] s2 (L2.start N vs) H { nx := fun _ H' => Q .non H', rt := Q } I2 ht
    rw [eP, eW, eA, eE, exe] at J
    refine wpAny_mono J (fun fl s' z => ?_) fun e s' z => z.elim
    cases fl with
    | ret u => obtain ⟨v, σ', H', I', q1, q2⟩ := z; rw [← hX] at I'; exact ⟨v, H', I'.os, I'.bare, I'.base, I'.hok, q1, q2⟩
    | next => obtain ⟨σ', H', I', q2⟩ := z; rw [← hX] at I'; exact ⟨V.non, H', I'.os, I'.bare, I'.base, I'.hok, rfl, q2⟩
    | brk => obtain ⟨_, _, _, z⟩ := z; exact z.elim
    | cont => obtain ⟨_, _, _, z⟩ := z; exact z.elim
  refine PySem.ks_wpAt_execs_cons ?_
  refine PySem.ks_wpAt_Expr_any ?_ (by unfold interactive; simp [PySem.W.envX, D.kind]) (hse _)
  refine PySem.ks_wpAt_MethodCall ?_ (hcE _)
  obtain ⟨cda, ccl, cdd, cvs, ccs, file, tf, rfl, hcode, hvs, hfile⟩ := D.cda
  obtain ⟨cl, cld, csl, hcell⟩ := D.cell
  obtain ⟨cd, hcd⟩ := hcls
  have kin1 : K.In s1.heap := by have := I.kIn; rw [eK] at this; exact this
  obtain ⟨oD, hD1, hD2⟩ : ∃ oD, s1.heap.get? C = some oD ∧ oD.data = .cls cd := by
    unfold PySem.W.clsIn at hcd
    split at hcd
    · rename_i c d cd' sl ho
      cases hcd
      exact ⟨_, kin1 _ _ ho, rfl⟩
    · cases hcd
  obtain ⟨mb, hb1, hb2⟩ := e0.mod.blt
  have bk : ∀ b o, base.get? b = some o → s1.heap.get? b = some o := by
    have := I.bk
    rw [show X.base = base from by rw [← hX]; rfl] at this
    exact this
  have hN0' : N[0]? = some ar.arg := hN0.symm
  have hself : (N.zip us).reverse.lookup ar.arg = some (.ref a) := by
    have hu0 : us[0]? = some (.ref a) := by
      subst ev
      cases us with
      | nil => cases rv
      | cons u us => cases rv with | cons r1 r2 => cases r1; rfl
    have hz : (N.zip us)[0]? = some (ar.arg, .ref a) := by rw [List.getElem?_zip_eq_some]; exact ⟨hN0', hu0⟩
    have nd : ((N.zip us).map (·.1)).Nodup := by rw [List.map_fst_zip (by omega)]; exact D.nd
    exact lookup_nodup (by rw [List.map_reverse]; exact List.pairwise_reverse.mpr (nd.imp fun h => Ne.symm h)) (List.mem_reverse.mpr (List.mem_of_getElem? hz))
  obtain ⟨t1, het⟩ := exo_at I.hok ha
  have inst : PySem.W.InstAt s1.heap a ({ cls := .ref C, dict := none, data := .fields #[.ref t1, .none, .none, .none, .bool false, .none] } : Obj) C none := ⟨het, rfl, rfl, trivial⟩
  have hns1 : s1.heap.Ns s.heap.objs.size fun x => (N.zip us).reverse.lookup x := by rw [← hs1]; exact hns
  refine PySem.ks_wpAt_super_base (env := PySem.W.ksEnv qual scope s.heap.objs.size f (.ref cda) cc) D.ks D.kc (by decide +kernel) rfl (kin1 _ _ lk) rfl har rfl (kin1 _ _ hcode) rfl hvs hfile D.top ?_
  refine PySem.W.ks_loadName_global D.kind D.ks (PySem.Calls.loadGlobal_builtin (env := PySem.W.ksEnv qual scope s.heap.objs.size f (.ref cda) cc) (e0.mod.glob.keeps bk) D.nsuper (hb1.keeps bk) (hb2 _ (by decide +kernel)) ⟨rfl, ?_⟩)
  refine PySem.wpAny_loadName_free D.kind D.kc (by simp [PySem.W.envX, List.lookup]) ⟨_, kin1 _ _ hcell, rfl⟩ ?_
  refine wpAny_loadName_local D.kind (D.loc _ (List.mem_of_getElem? hN0')) hns1 hself ?_
  obtain ⟨hh, gg, dd, tt, oo⟩ := s1
  refine PySem.ks_wpAny_isType_cls hD1 hD2 ⟨rfl, ?_⟩
  refine PySem.ks_wpAny_call_super hD1 hD2 het rfl (fun c e => by cases e) (PySem.W.looks_mroIn kin1 hmro) (fun h2 hso k2 => ?_)
  have I2 : L2.Inv X [] (L2.start N vs) H ⟨h2, gg, dd, tt, oo⟩ := I.kept (t' := tt) k2
  have kin2 : K.In h2 := kin1.keeps k2
  have inst2 : PySem.W.InstAt h2 a ({ cls := .ref C, dict := none, data := .fields #[.ref t1, .none, .none, .none, .bool false, .none] } : Obj) C none := ⟨k2 _ _ het, rfl, rfl, trivial⟩
  have hxC : a ≠ C := fun z => by
    subst z
    rw [het] at hD1
    cases hD1
    cases hD2
  refine PySem.W.kxs_getMethod PySem.W.kxs_ValueError (l₀ := cd.mro) hso (PySem.W.looks_opaque kin2 hopq) (fun A Q E s k q => wpAny_bind ((PySem.W.looks_clsIn kin2 hcd) A _ E s k (wpAny_pure q))) rfl kin2 (by unfold PySem.W.ks_superIn at hsup; rw [hcd] at hsup; exact hsup) (inst2.type.andThen (PySem.W.looks_subIn kin2 hsub)) hxC (by decide +kernel) ?_
  -- the bound __init__, the arguments
  have k3 : ∀ b o, h2.get? b = some o → (h2.push (PySem.W.kxs_mw "ValueError.__init__" a)).get? b = some o := fun b o e => Heap.get?_push_of_some _ e
  have I3 : L2.Inv X [] (L2.start N vs) H ⟨h2.push (PySem.W.kxs_mw "ValueError.__init__" a), gg, dd, tt + 1, oo⟩ := I2.kept (t' := tt + 1) k3
  have hmw : (h2.push (PySem.W.kxs_mw "ValueError.__init__" a)).get? h2.objs.size = some (PySem.W.kxs_mw "ValueError.__init__" a) := Heap.get?_push_at rfl rfl
  refine PySem.W.kxs_callWith (i := "ValueError.__init__") (x := a) (by rw [heE]; show (false || (backTo p3 (starEach es _)).any (·.1)) = false; rw [hpE]; rfl) ?_
  rw [heE]
  refine PySem.Calls.evalArgs_plain ?_
  have J := hargs _ (fun ws s3 => PySem.W.KxsAt "ValueError.__init__" h2.objs.size a s3.heap ∧ wpAny (model P w) (A.deeper (PySem.W.ksEnv qual scope s.heap.objs.size f (.ref cda) cc)) (call (.ref h2.objs.size) ([] ++ ws) []) (fun _ s4 => _root_.PySem.wpAt (model P w) (A.deeper (PySem.W.ksEnv qual scope s.heap.objs.size f (.ref cda) cc)) (.func (.Expr (.Call (.Attribute (.Call (.Name "super" p0) [] [] p1) "__init__" p2) (e :: es) [] p3) p4 :: rest) (PySem.W.ksEnv qual scope s.heap.objs.size f (.ref cda) cc)) (execs rest (PySem.W.ksEnv qual scope s.heap.objs.size f (.ref cda) cc))
      (fun fl s' => CR CXg outer P w H s Q E (.ok (.ret (match fl with | .ret v => v | _ => .none))) s') (fun e s' => wpAny (model P w) (A.deeper (PySem.W.ksEnv qual scope s.heap.objs.size f (.ref cda) cc)) (leaving (PySem.W.ksEnv qual scope s.heap.objs.size f (.ref cda) cc) e) (fun _ s'' => CR CXg outer P w H s Q E (.error e) s'') (fun e' s'' => CR CXg outer P w H s Q E (.error e') s'') s') s4) (fun e s' => wpAny (model P w) (A.deeper (PySem.W.ksEnv qual scope s.heap.objs.size f (.ref cda) cc)) (leaving (PySem.W.ksEnv qual scope s.heap.objs.size f (.ref cda) cc) e) (fun _ s'' => CR CXg outer P w H s Q E (.error e) s'') (fun e' s'' => CR CXg outer P w H s Q E (.error e') s'') s') s3) (fun e s' => wpAny (model P w) (A.deeper (PySem.W.ksEnv qual scope s.heap.objs.size f (.ref cda) cc)) (leaving (PySem.W.ksEnv qual scope s.heap.objs.size f (.ref cda) cc) e) (fun _ s'' => CR CXg outer P w H s Q E (.error e) s'') (fun e' s'' => CR CXg outer P w H s Q E (.error e') s'') s') I3 fun ws hz => ⟨hmw, ?_⟩
  · rw [heE] at J; exact J
  -- ValueError.__init__
  obtain ⟨nm, q, Nn, bs, bm, sn, sub, ab, col, cdd', k0, k1, k2', k3', k5, hC, hbm⟩ := T.cls
  have hC3 : (h2.push (PySem.W.kxs_mw "ValueError.__init__" a)).get? C = some (excClassObj nm q C Nn bs bm true sn sub ab col cdd' k0 k1 k2' k3' k5 "ValueError.__new__") := k3 _ _ (kin2 _ _ hC)
  have het3 := k3 _ _ (k2 _ _ het)
  refine wpAny_call (codeAny_of_tree ?_)
  show wpAny _ (A.deeper (PySem.W.ksEnv qual scope s.heap.objs.size f (.ref cda) cc)).in1 (callAny (.ref h2.objs.size) ⟨[] ++ ws, []⟩) _ _ _
  simp only [callAny, List.nil_append]
  refine wpAny_bind (wpAny_load hmw ?_)
  simp only [PySem.W.kxs_mw, show (Value.type "method-wrapper" == Value.type "method" || Value.type "method-wrapper" == Value.type "builtin_function_or_method" || Value.type "method-wrapper" == Value.type "method-wrapper") = true by decide, if_true]
  refine PySem.W.KFB.if_so (by decide) ?_
  refine wpAny_bind (PySem.W.check_bound_init F.excBase_ValueError.toExcCallFacts hC3 het3 rfl ?_)
  refine wpAny_bind (wpAny_pure (wpAny_pure ?_))
  refine ⟨plainId_quiet F.excBase_ValueError.init.plain _, codeAny_builtin F.excBase_ValueError.initEntry ?_⟩
  refine PySem.W.exc_init_tree (cls := .ref C) (t0 := t1) (dv := none) (c2 := .none) (c3 := .none) (b4 := .bool false) het3 hz fun h4 k4 e4 t4 => fin _ ?_
  have I4 := I3.write (t' := tt + 1) (x := a) (e := a) (o := exo a C none) (by rw [ha]; exact True.intro) (.inl rfl) k4 ⟨_, e4⟩ (exo_ok e4)
  have eu : upd H a (exo a C none) = H := by
    funext b
    by_cases hb : b = a
    · rw [hb, upd_same, ha]
    · rw [upd_ne hb]
  rw [eu] at I4
  exact I4
end
end Pv
set_option Elab.async false
set_option linter.all false
set_option maxRecDepth 100000
set_option maxHeartbeats 1000000
set_option pp.maxSteps 400
namespace Pv
open PySem PySem.Spec L2
open PyProof.Rows hiding St
/-- what the written part says of an own exception class whose __init__ hands its parameters on and keeps them -/
structure ExcAt (K : PySem.W.Frag) (mg : Str → Option Value) (prog : Program) (x : Str) (C : Addr) : Prop where
  mg : mg x = some (.ref C)
  T : OexC K C
  opq : PySem.W.nsIn K PySem.cStatics "thirdparty.any" = some none
  sup : PySem.W.ks_superIn K C C "__init__" = some (some (.builtin "ValueError.__init__"))
  sub : PySem.W.subIn K (.ref C) (.type "ValueError") = some true
  mro : PySem.W.mroIn K C (.ref C) = some true
  cls : ∃ cd, PySem.W.clsIn K C = some cd
/-- the heap behind an exception's making -/
def sp1 (C : Addr) (f1 : Str) : Sp := fun vs H Q _ => ∃ a v1, vs = [.ref a, v1] ∧ H a = some (exo a C none) ∧ ∀ dx, H dx = none → dx ≠ a → Q .non (upd (upd H dx (exd dx [(f1, v1)])) a (exo a C (some dx)))
def sp2 (C : Addr) (f1 f2 : Str) : Sp := fun vs H Q _ => ∃ a v1 v2, vs = [.ref a, v1, v2] ∧ H a = some (exo a C none) ∧ ∀ dx, H dx = none → dx ≠ a → Q .non (upd (upd (upd H dx (exd dx [(f1, v1)])) a (exo a C (some dx))) dx (exd dx [(f2, v2), (f1, v1)]))
section
variable {P : Program} {w : World} {K : PySem.W.Frag} {mg : Str → Option Value} {base : Heap} {qual : Str} {scope : Scope} {f cc C : Addr} {fd : FuncData} {cdv : Value} {x f1 f2 x1 x2 : Str} {N : List Str}
/-- the parameters' values, in turn -/
theorem i_names {A : Around} {outer : List Env} {s : Shared} {H : Hp} {vs : List V} {s2 : Shared} {E2 : Value → Shared → Prop} (D : InitAt K mg P N qual scope f cc fd cdv C) (I : L2.Inv (iCx P w K mg base N qual scope f cc cdv A outer s H) [] (L2.start N vs) H s2) (hl : vs.length = N.length)
    {y : Str} {i : Nat} {q : Pos} {Q2 : Value → Shared → Prop} (hy : N[i]? = some y) (hd : (y == ("__debug__" : Str)) = false) (h : ∀ u, Q2 u s2) : wpAny (model P w) (A.deeper (PySem.W.ksEnv qual scope s.heap.objs.size f cdv cc)) (eval (.Name y q) (PySem.W.ksEnv qual scope s.heap.objs.size f cdv cc)) Q2 E2 s2 := by
  obtain ⟨m, hn, hl2⟩ := I.loc
  have hlt : i < N.length := (List.getElem?_eq_some_iff.mp hy).1
  obtain ⟨v, hv⟩ : ∃ v, vs[i]? = some v := ⟨_, List.getElem?_eq_getElem (by omega)⟩
  have hs : (L2.start N vs)[i]? = some (some v) := by
    unfold L2.start
    rw [List.getElem?_append_left (by rw [List.length_map]; omega), List.getElem?_map, hv]; rfl
  have loc := D.loc y (List.mem_of_getElem? hy)
  obtain ⟨u, _, lk⟩ := hl2 i y v hy hs (.inl loc)
  have hm : m y = some u := by
    rcases lk with ⟨_, e⟩ | ⟨k, _⟩
    · exact e
    · rcases k with k | k <;> (have k' : scope.names.lookup y = _ := k; rw [loc] at k'; cases k')
  exact wpAny_Name (wpAny_loadName_local D.kind loc hn hm (h u)) hd
theorem fn_init2 {CXg : CXT} {params : Arguments} {dV kV doc pm ct : Value} {an : Option Addr} {p0 p1 p2 p3 p4 q1 q2 a1 a2 b1 b2 c1 c2 d1 d2 : Pos} (D : InitAt K mg P ["self", x1, x2] qual scope f cc fd cdv C) (X : ExcAt K mg P x C)
    (hB : fd = PySem.W.ksFn "__init__" qual params [.Expr (.Call (.Attribute (.Call (.Name "super" p0) [] [] p1) "__init__" p2) [.Name x1 q1, .Name x2 q2] [] p3) p4, .Assign [.Attribute (.Name "self" a1) f1 b1] (.Name x1 c1) d1, .Assign [.Attribute (.Name "self" a2) f2 b2] (.Name x2 c2) d2] scope dV kV doc pm an cdv ct cc)
    (hse : ∀ env : Env, swapsWith (.Call (.Attribute (.Call (.Name "super" p0) [] [] p1) "__init__" p2) [.Name x1 q1, .Name x2 q2] [] p3) none p4.line env = pure false)
    (pl : Env → Sem Bool) (hcE : ∀ env : Env, eval (.Call (.Attribute (.Call (.Name "super" p0) [] [] p1) "__init__" p2) [.Name x1 q1, .Name x2 q2] [] p3) env = (do
      let ov ← attributeBase (.Call (.Name "super" p0) [] [] p1) "__init__" env (eval (.Call (.Name "super" p0) [] [] p1) env)
      standAt p2.atName
      let (f, first) ← holding [ov] (getMethod ov "__init__" (pl env))
      callWith p3 f first (backTo p3 (starEach [.Name x1 q1, .Name x2 q2] env)) []))
    (har : ∃ ar, (params.posonlyargs ++ params.args).head? = some ar ∧ ar.arg = "self") (hf1 : PySem.W.findIn K (.ref C) f1 = some none) (hf2 : PySem.W.findIn K (.ref C) f2 = some none) (hx1 : (x1 == ("__debug__" : Str)) = false ∧ (x1 == ("__classdict__" : Str)) = false) (hx2 : (x2 == ("__debug__" : Str)) = false ∧ (x2 == ("__classdict__" : Str)) = false) :
    FnOk P w K mg base CXg 1 f fd ["self", x1, x2] (sp2 C f1 f2) := by
  refine ⟨fun vs H Q E ⟨a, v1, v2, e, _⟩ => by rw [e]; rfl, fun A outer s H args us vs Q E hr e0 hbn rv hsp => ?_⟩
  obtain ⟨a, v1, v2, ev, ha, hq⟩ := hsp
  obtain ⟨ar, har1, har2⟩ := har
  refine i_run (N := ["self", x1, x2]) (a := a) (ws := [v1, v2]) (pl := pl) D X.T ⟨params, dV, kV, doc, pm, an, ct, hB, ar, har1, by rw [har2]; rfl⟩ X.opq X.sup X.sub X.mro X.cls hr e0 hbn rv (by rw [ev]; rfl) ev ha (fun s2 Q2 E2 I h => ?args) (t := ?t) (fun Y hY => ?rest) ?q hse (hcE := hcE) (fun env => rfl) (fun env => rfl)
  case args =>
    have hl : vs.length = (["self", x1, x2] : List Str).length := by rw [ev]; rfl
    refine Calls.spliced_cons (i_names D I hl (i := 1) rfl hx1.1 fun u1 => ?_)
    refine Calls.spliced_cons (i_names D I hl (i := 2) rfl hx2.1 fun u2 => ?_)
    exact Calls.spliced_nil (h _ (by show 2 ≤ sizeLine; decide))
  case rest =>
    subst hY
    exact pss_cons (ps_ost (pe_var (x := "self") (i := 0) rfl (.inl (D.loc "self" (by simp))) (by decide +kernel) (by decide +kernel)) (pe_var (x := x1) (i := 1) rfl (.inl (D.loc x1 (by simp))) hx1.1 hx1.2))
      (pss_one (ps_ost (pe_var (x := "self") (i := 0) rfl (.inl (D.loc "self" (by simp))) (by decide +kernel) (by decide +kernel)) (pe_var (x := x2) (i := 2) rfl (.inl (show (iCx P w K mg base ["self", x1, x2] qual scope f cc cdv A outer s H).env.scope.names.lookup x2 = some .local from D.loc x2 (by simp))) hx2.1 hx2.2)))
  case q =>
    subst ev
    refine ⟨v1, rfl, .ref a, rfl, a, C, rfl, X.T, hf1, .inl ⟨ha, fun dx hd hne => ?_⟩⟩
    refine ⟨v2, rfl, .ref a, rfl, a, C, rfl, X.T, hf2, .inr ⟨dx, _, upd_same, ?_, by simp, hq dx hd hne⟩⟩
    rw [upd_ne hne]; exact upd_same
end
def excOf (cls : Str) (fs : List Str) (ds : List Pv.D) (st : Sto) : RS := if ds.length = fs.length ∧ ds.length ≤ 2 then .exc (cls, (fs.zip ds).reverse) st else .bad
def sRaise (cls : Str) (fs : List Str) (ms : Ms) : MS := fun sl st => (ms sl st).thenS fun ds st => excOf cls fs ds st
section
variable {X : Cx} {Wx : WX} {C : Addr} {x f1 f2 : Str} {fI : Addr} {fd : FuncData} {k : Nat} {e1 e2 : Expr} {ms : Ms} {p pos rpos : Pos} {ps : List Str} {W : Wd} {H : Hp} {st : Sto} {sh : L2.St} {sl : Sl}
/-- a class whose __init__ has been told -/
structure ExcDf (X : Cx) (x : Str) (C fI : Addr) (fd : FuncData) (ps : List Str) (sp : Sp) : Prop where
  at_ : ExcAt X.K X.mg X.prog x C
  ini : PySem.W.findIn X.K (.ref C) "__init__" = some (some (.ref fI))
  ty : PySem.W.typeIn X.K (.ref fI) = some (.type "function")
  fn : FnOk X.prog X.w X.K X.mg X.base C8.CX0 1 fI fd ps sp
  bd : Binds X.K fd ps []
theorem passes0 {Y : Cx} : Passes C8.CX0 Y fun _ _ _ => False := fun pins sg H s e s' I h => (show False from h).elim
theorem gs_raise2 (D : ExcDf X x C fI fd ps (sp2 C f1 f2)) (g : Gd X) (hr : Room 2 X.A) (tk : Takes X Wx) (ha : GA X Wx [e1, e2] ms) (hg : Gl X x := by rfl) (hdb : (x == ("__debug__" : Str)) = false := by decide +kernel)
    (he : starEach [e1, e2] X.env = (false, eval e1 X.env) :: starEach [e2] X.env := by rfl) (hpl : (backTo pos (starEach [e2] X.env)).any (·.1) = false := by rfl) : GS X Wx (.Raise (some (.Call (.Name x p) [e1, e2] [] pos)) none rpos) (sRaise x [f1, f2] ms) := by
  have M := pmk_oex (CX := C8.CX0) (x := x) (p := p) (pos := pos) (dvs := []) D.at_.T D.ini D.ty D.fn hr D.bd .nil passes0 hg D.at_.mg ha hdb he hpl
  refine PS.imp (ps_raise g.calm tk M) fun D' sh H ⟨W, sl, st, hr', hs, q⟩ => ?_
  refine rdL_bindS hr' hs q fun ds st1 W1 vs H1 e1' x1' h1 s1 l1 p1 => ?_
  unfold excOf at p1
  split at p1
  · rename_i hl
    obtain ⟨hl1, hl2⟩ := hl
    match ds, vs, hl1, l1 with
    | [d1, d2], vs, _, ⟨v1, us, q1, r1, v2, us2, q2, r2, q3⟩ =>
      subst q1; subst q2; subst q3
      refine ⟨by simp, fun a ha => ⟨a, v1, v2, by simp, upd_same, fun dx hd hne => ⟨rfl, dx, [(f2, v2), (f1, v1)], ?_, upd_same, ?_, ?_⟩⟩⟩
      · rw [upd_ne (Ne.symm hne)]; exact upd_same
      · rw [upd_ne hne] at hd; exact hd
      · have hd1 : H1 dx = none := by rw [upd_ne hne] at hd; exact hd
        have eH : upd (del (upd (upd (upd (upd H1 a (exo a C none)) dx (exd dx [(f1, v1)])) a (exo a C (some dx))) dx (exd dx [(f2, v2), (f1, v1)])) a) dx (.xd [(f2, v2), (f1, v1)]) = upd H1 dx (.xd [(f2, v2), (f1, v1)]) := by
          funext b
          by_cases hb : b = dx
          · subst hb; rw [upd_same, upd_same]
          · rw [upd_ne hb, upd_ne hb]
            by_cases hba : b = a
            · subst hba; rw [del_same, ha]
            · rw [del_ne hba, upd_ne hb, upd_ne hba, upd_ne hb, upd_ne hba]
        rw [eH]
        obtain ⟨h2, x2⟩ := h1.new (o := .xd [(f2, v2), (f1, v1)]) hd1
        exact p1 _ sh (.ref C) (some dx) _ rfl x2 h2 ⟨C, D.at_.mg, rfl, dx, _, rfl, upd_same, .cons ⟨rfl, x2.rep r2⟩ (.cons ⟨rfl, x2.rep r1⟩ .nil)⟩
  · exact p1.elim
end
end Pv
set_option Elab.async false
set_option linter.all false
set_option maxRecDepth 100000
set_option maxHeartbeats 1000000
set_option pp.maxSteps 400
namespace Pv
open PySem PySem.Spec L2 LamX
open PyProof.Rows hiding St
section
variable {X : Cx} {pins : List (Addr × Obj)} {σ : L2.St} {H : Hp} {s : Shared}
/-- what a lambda needs of its making: where it stands -/
structure LamAt (X : Cx) (σ : L2.St) (H : Hp) (s : Shared) (params : Arguments) (body : Expr) (scope : Scope) (f c' : Addr) : Prop where
  obj : ∃ pm ctv : Value, s.heap.get? f = some (PySem.W.kla_obj "<lambda>" (X.env.qual ++ "<lambda>") params body scope (cloFrom X.env.cells scope.names []) pm c' ctv) ∧ bindArgs (PySem.W.kla_fn "<lambda>" (X.env.qual ++ "<lambda>") params body scope (cloFrom X.env.cells scope.names []) pm (.ref c') ctv) ⟨[], []⟩ = pure []
  free : H f = none
  nofr : f ∉ frs X.stack
/-- the frame of the def that got the lambda -/
abbrev EnvG (qg : Str) (sg : Scope) (s : Shared) (g : Addr) (cdg : Value) : Env := envOfC qg sg s.heap.objs.size g cdg
abbrev CxG (CXg : CXT) (X : Cx) (Ng : List Str) (qg : Str) (sg : Scope) (g : Addr) (cdg : Value) (s : Shared) (H : Hp) (Eg : XK) : Cx := cxOf CXg X.prog X.w X.K X.mg X.base Ng qg sg g cdg X.A X.stack s H Eg
theorem ask_run {CXg : CXT} {Eg : XK} {Ng : List Str} {qg : Str} {sg : Scope} {g f c' : Addr} {cdg : Value} {params : Arguments} {body : Expr} {scope : Scope} {k i : Nat} {a : Str} {pn : List (Addr × Obj)} {xe : Value → Shared → Prop} {Wz : WX} {E : XK} {tb : TE} {p1 p2 : Pos}
    (I : Inv X pins σ H s) (L : LamS X.env.scope scope) (at_ : LamAt X σ H s params body scope f c') (tk : Takes ((CxG CXg X Ng qg sg g cdg s H Eg).tr pn xe) Wz) (le : ∀ cls d σ' H', E cls d H' → Wz cls d σ' H') (room : Room (k + 1) (X.A.deeper (EnvG qg sg s g cdg)))
    (hbody : ∀ (s' : Shared) (H' : Hp), Room k ((X.A.deeper (EnvG qg sg s g cdg)).deeper (lamEnv X scope s'.heap.objs.size f c')) → PE (lamCx X (X.A.deeper (EnvG qg sg s g cdg)) (EnvG qg sg s g cdg :: X.stack) s' H' E scope f c') body tb)
    (hN : Ng[i]? = some a) (hv : Vis sg a) (hd : (a == ("__debug__" : Str)) = false) (hcd : (a == ("__classdict__" : Str)) = false) :
    PE ((CxG CXg X Ng qg sg g cdg s H Eg).tr pn xe) (.Call (.Name a p1) [] [] p2) (fun σz Hz Q => σz[i]? = some (some (.ref f)) ∧ Hz c' = some (CodeO c' (X.env.qual ++ "<lambda>")) ∧ tb σ Hz Q) := by
  obtain ⟨⟨pm, ctv, hob, hbind⟩, hfree, hnofr⟩ := at_
  constructor
  rintro pz sz σz Hz Q Iz ⟨hslot, hcode, hread⟩
  have slot := (pe_var (pos := p1) (i := i) hN hv hd hcd).run pz sz σz Hz (fun v H1 => v = .ref f ∧ H1 = Hz) Iz ⟨.ref f, hslot, rfl, rfl⟩
  apply wpAny_Call_Name_kw
  refine thn slot fun u s1 ⟨v, H1, I1, r1, e1, e2⟩ => ?_
  subst e1
  rw [e2] at I1
  cases (show u = Value.ref f from r1)
  have keepF := I1.base.keep f _ hob hfree hnofr (fun z => nomatch (show f ∈ ([] : List Addr) from z))
  apply PySem.W.callWith_F0 ⟨_, _, _, _, keepF⟩
  obtain ⟨⟨oc, vs, t, g1, g2, g3⟩, _, _⟩ := I1.hok c' _ hcode
  have deep : codeAny (model X.prog X.w) (X.A.deeper (EnvG qg sg s g cdg)) (.call (.ref f) ⟨[], []⟩) (CR (L2.CX X.prog X.w) (EnvG qg sg s g cdg :: X.stack) X.prog X.w Hz s1 Q E) s1 := by
    apply PySem.W.kla_callFunE room.depth keepF rfl L.co L.gen rfl ⟨c', oc, vs, t, rfl, g1, g2, g3⟩
    rw [hbind]
    apply wpAny_pure
    apply wpAny_newFunctionEnv (fun y hy => (L.own y hy).2) (fun y hy => (List.not_mem_nil hy).elim) (hk := L.kind)
    intro h₁ ns1 same
    refine ⟨I1.nolimit.fresh _ same, ?_⟩
    have old : ∀ b o, s1.heap.get? b = some o → h₁.get? b = some o := fun b o e => same.extBut b o (Nat.ne_of_lt (Heap.lt_size e)) (Heap.get?_push_of_some _ e)
    have J := lam_start2 (E := E) (f := f) (c' := c') (tk := s1.toks + 0) I L I1.env0 room.hd I1.base ns1 old
    apply PySem.W.kla_codeExpr
    refine wpAny_mono ((hbody s1 Hz (room.deeper _)).run [] _ _ Hz Q J hread) ?_ fun _ _ z => z
    rintro v2 s2 ⟨w2, H2, J2, r2, q2⟩
    exact ⟨w2, H2, J2.os, J2.bare, J2.base, J2.hok, r2, q2⟩
  refine wpAny_call (codeAny_mono deep ?_)
  rintro (_ | (_ | _ | _ | _)) s2 z
  all_goals first | exact z.elim | exact passes_call tk le pz σz Hz s1 _ s2 I1 z | exact I1.after z
end
/-- only the exception's name is known at the suite's beginning -/
def slE (n i : Nat) (d : D) : Sl := (List.replicate n none).set i (some d)
def exD (a dd : Nat) (x : XV) : D := Ec a dd x.1 (x.2.map fun p => .str p.1) (x.2.map (·.2))
theorem nmD_map (l : List (Str × D)) : nmD (l.map fun p => .str p.1) = l.map (·.1) := by
  induction l with
  | nil => rfl
  | cons p l ih => simp [nmD, ih]
theorem rep_exD {K : PySem.W.Frag} {W : Wd} {a dd : Addr} {fs : List (Str × V)} {x : XV} (h : W.F dd = some (.xd fs)) (l : repP K W fs x.2) : rep K W (.ref a) (exD a dd x) := by
  have names : ∀ {fs : List (Str × V)} {es : List (Str × D)}, repP K W fs es → es.map (·.1) = fs.map (·.1) ∧ repL K W (fs.map (·.2)) (es.map (·.2)) := by
    intro fs es l
    induction l with
    | nil => exact ⟨rfl, rfl⟩
    | cons h _ ih => exact ⟨by simp [ih.1, h.1], ⟨_, _, rfl, h.2, ih.2⟩⟩
  obtain ⟨n1, n2⟩ := names l
  refine ⟨by simp, fs.map (·.2), ?_, n2⟩
  rw [Int.toNat_natCast, h, nmD_map, n1]
  congr 2
  clear h l n1 n2
  induction fs with
  | nil => rfl
  | cons p fs ih => exact congrArg (List.cons p) ih
theorem sr_slE {K : PySem.W.Frag} {W : Wd} {σ : L2.St} {n i : Nat} {a : Addr} {d : D} (hl : σ.length = n) (hi : i < n) (r : rep K W (.ref a) d) : SR K W (σ.set i (some (.ref a))) (slE n i d) := by
  unfold slE
  refine ⟨by simp [hl], fun j e hj => ?_⟩
  by_cases hij : j = i
  · subst hij
    rw [List.getElem?_set_self (by simpa using hi)] at hj
    cases hj
    exact ⟨_, List.getElem?_set_self (by rw [hl]; exact hi), r⟩
  · rw [List.getElem?_set_ne (Ne.symm hij), List.getElem?_replicate] at hj
    split at hj <;> cases hj
/-- what a suite does with an exception -/
def handR (n i : Nat) (bh : Nat → Nat → Str → MS) (a dd : Nat) (x : XV) (st : Sto) : R D := finR st.length (endR (bh a dd x.1 (slE n i (exD a dd x)) st))
def saidR (u : Str) (cs : List Str) (n i : Nat) (bh : Nat → Nat → Str → MS) : R D → R D
  | .ok d st => .ok (.tuple [.str u, d]) st
  | .exc x st => if x.1 ∈ cs then handR n i bh 0 0 x st else .bad
  | .bad => .bad
/-- what is known in the suite that holds the exception at a, of class c, its dict at dd -/
structure Su (X : Cx) (a dd : Addr) (c : Str) (oe : Obj) : Prop where
  cls : ∃ C, X.mg c = some (.ref C) ∧ Zc (.ref C) (some dd) oe
  fld : ∃ vs, oe.data = .fields vs
/-- the reading of what the lambda does, told of the state in which it was made -/
def TSaid (N : Nv) (f : R D → R D) : (XK → Hp → VK → Prop) → Hp → VK → Prop := fun tl H Q =>
  ∃ (W : Wd) (st : Sto) (r : R D), HR N.K W H st ∧ (∀ E Q', Post N W H Q' E r → tl E H Q') ∧ Post N W H Q (fun _ _ _ => False) (f r)
theorem end_posts' {N : Nv} {W : Wd} {H : Hp} {Q : VK} {n i : Nat} {r : RS} (p : Post N W H Q (fun _ _ _ => False) (endR r)) :
    PostS N n (fun _ _ _ _ => False) W H { nx := fun σ' H' => ({ nx := fun _ H' => Q .non H', rt := Q } : Ends).nx (σ'.set i none) H', rt := Q, bk := fun σ' H' => ({ nx := fun _ H' => Q .non H', rt := Q } : Ends).bk (σ'.set i none) H', ct := fun σ' H' => ({ nx := fun _ H' => Q .non H', rt := Q } : Ends).ct (σ'.set i none) H' } r := by
  cases r with
  | nx sl st => exact fun W1 sh H1 l x h s => p W1 .non H1 x h rfl
  | rt d st => exact fun W1 v H1 x h r => p W1 v H1 x h r
  | exc x st => exact fun W1 sh c dd H1 l e h r => p W1 c dd H1 e h r
  | bk _ _ => exact p.elim
  | ct _ _ => exact p.elim
  | bad => exact p.elim
theorem said_gives {X : Cx} {Ng : List Str} {x a C n q u : Str} {sg : Scope} {g CS : Addr} {cdg : Value} {i j k1 : Nat} {cs : List Str} {bh : Nat → Nat → Str → MS} {b₀ : Stmt} {suite : List Stmt} {p1 p2 p3 p4 p5 p6 p7 p8 : Pos}
    (hge : sg.names.lookup C = some .globalImplicit) (hme : X.mg C = some (.ref CS)) (hde : (C == ("__debug__" : Str)) = false) (nd : Ng.Nodup) (hi : Ng[i]? = some n) (hln : sg.names.lookup n = some .local) (h0 : ∀ f : Addr, (L2.start Ng [V.ref f])[0]? = some (some (V.ref f))) (hN : 1 ≤ Ng.length)
    (hcs : ∀ c ∈ cs, ∀ D, X.mg c = some (.ref D) → PySem.W.exmOne X.K (.ref D) (.ref CS) = some true)
    (ind : ∀ a dd (x : XV) st, x.1 ∈ cs → handR Ng.length i bh a dd x st = handR Ng.length i bh 0 0 x st)
    (hsu : ∀ (s : Shared) (H : Hp) (b dd : Addr) (c : Str) (oe : Obj) (pn : List (Addr × Obj)), c ∈ cs → Su (CxG C8.CX0 X Ng x sg g cdg s H C8.E0) b dd c oe →
      GSs ((CxG C8.CX0 X Ng x sg g cdg s H C8.E0).nox.suite b ((b, oe) :: pn)) (fun _ _ _ _ => False) (b₀ :: suite) (bh b dd c)) :
    GivesTo X Ng x sg g cdg [.Try [.Return (some (.Tuple [.Constant (.str u) j p1, .Call (.Name a p2) [] [] p3] k1 p4)) p5] [.ExceptHandler (some (.Name C p6)) (some n) (b₀ :: suite) p7] [] [] p8] a q (TSaid (nv X) (saidR u cs Ng.length i bh)) := by
  intro f c' s H Q tl act hc ⟨W, st, r, hr, htl, hp⟩
  have hgl : Gl (CxG C8.CX0 X Ng x sg g cdg s H C8.E0).nox C := hge
  have ilt : i < Ng.length := (List.getElem?_eq_some_iff.mp hi).1
  let ts : Addr → Value → Option Addr → TS := fun b cls d D σ H => σ.length = Ng.length → ∃ dd c E, d = some dd ∧ cls = .ref E ∧ X.mg c = some (.ref E) ∧ c ∈ cs ∧ rdS (nv X) (fun _ _ _ _ => False) (bh b dd c) D σ H
  have body := ps_try_as (X := (CxG C8.CX0 X Ng x sg g cdg s H C8.E0).nox) (c := .ref CS) (np := p6) (pos := p8) (pos' := p7) (i := i) (n := n) (x := C) (b₀ := b₀) (suite := suite) (ts := ts) (body := [.Return (some (.Tuple [.Constant (.str u) j p1, .Call (.Name a p2) [] [] p3] k1 p4)) p5])
      (tb := fun Wt D σ H => ∃ Ech : XK, (∀ cls d σ' H', Ech cls d H' → Wt cls d σ' H') ∧ σ[0]? = some (some (.ref f)) ∧ H c' = some (CodeO c' q) ∧ tl Ech H fun v H2 => [V.str u, v].length ≤ sizeLine ∧ ∀ b, H2 b = none → D.rt (.ref b) (upd H2 b (.tup [.str u, v])))
      rfl rfl nd hi hln ⟨hgl, hde, .inl hme⟩ LamX.takes0 (fun Wt pn xe tk _ => ?_) fun b oe cls d pn hz hf => ?_
  · refine ⟨_, pss_one body, ?_⟩
    refine ⟨fun cls d H' => ∃ x st1 W', r = .exc x st1 ∧ Ext W H W' H' ∧ HR (nv X).K W' H' st1 ∧ repX (nv X) W' H' cls d x, fun cls d σ' H' ⟨x, st1, W', er, x1, h1, rx⟩ => ?_, h0 f, hc, htl _ _ ?_⟩
    · subst er
      unfold saidR at hp
      simp only at hp
      split at hp
      · rename_i hx
        obtain ⟨E, e1, e2, dd, fs, e3, e4, e5⟩ := rx
        subst e2; subst e3
        refine ⟨true, hcs _ hx _ e1, fun _ b hb hl => ⟨dd, x.1, E, rfl, rfl, e1, hx, W', slE Ng.length i (exD b dd x), st1, h1, sr_slE (by simpa using hl) ilt (rep_exD e4 e5), ?_⟩, fun z => by cases z⟩
        have p1 := Post.ext x1 hp
        rw [← ind b dd x st1 hx] at p1
        have p2 := fin_post h1 p1
        exact end_posts' p2
      · exact hp.elim
    · cases r with
      | bad => exact hp
      | exc x st1 => exact fun W' cls dd H' e1 h1 r1 => ⟨x, st1, W', rfl, e1, h1, r1⟩
      | ok d st1 =>
        intro W' v H' e1 h1 r1
        refine ⟨by show 2 ≤ sizeLine; decide, fun b hb => ?_⟩
        exact (Post.ext e1 hp).tup (xs := [.str u, v]) h1 ⟨_, _, rfl, rfl, _, _, rfl, r1, rfl⟩ b hb
  · refine ⟨fun pins s' σ H' D I ⟨Ech, hW, h1, h2, h3⟩ => ?_⟩
    have hp := act Wt pn xe Ech p2 p3 tk hW
    have hq := pss_one (ps_ret (pos := p5) (pe_tup (x1 := k1) (pos := p4) (pa_cons (pe_str (x := u) (j := j) (pos := p1)) (pa_cons hp pa_nil))))
    refine hq.run pins s' σ H' D I ?_
    exact ⟨h1, h2, h3⟩
  · refine ⟨fun pins s' σ H' D I h => ?_⟩
    obtain ⟨dd, c, E, e1, e2, e3, e4, e5⟩ := h I.len
    subst e1; subst e2
    exact (hsu s H b dd c oe pn e4 ⟨⟨E, e3, hz⟩, hf⟩).run pins s' σ H' D I e5
def tbOk (st : Sto) (P : Addr) (q : Str) : Bool := decide ((P, q) ∈ tbs st) && (tbs st).all fun p => !decide (p.1 = P) || decide (p.2 = q)
theorem tbOk_app {st : Sto} {m : MO} {P : Addr} {q : Str} (h : noTb m = true) : tbOk (st ++ [m]) P q = tbOk st P q := by unfold tbOk; rw [tbs_app st h]
/-- a def of that form, called from anywhere with a lambda -/
def Said (P : Program) (w : World) (K : PySem.W.Frag) (mg : Str → Option Value) (base : Heap) (x : Str) (f : R D → R D) : Prop :=
  ∃ (g : Addr) (a : Str) (Ng : List Str) (st : Stmt) (fd : FuncData), Fun K x x st g fd ∧ mg x = some (.ref g) ∧ Binds K fd [a] [] ∧ FnScope Ng [a] (defScope st) ∧ Ng[0]? = some a ∧ Vis (defScope st) a ∧ (a == ("__debug__" : Str)) = false ∧ (a == ("__classdict__" : Str)) = false ∧ (x == ("__debug__" : Str)) = false ∧
    ∀ (X : Cx) (cdv : Value) (q : Str), X.prog = P → X.w = w → X.K = K → X.mg = mg → X.base = base → Room 2 X.A → X.A.guards = some [] → GivesTo X Ng x (defScope st) g cdv (defBody st) a q (TSaid ⟨K, mg⟩ f)
def okOnly : R D → R D
  | .exc _ _ => .bad
  | r => r
theorem post_okOnly {N : Nv} {W : Wd} {H : Hp} {Q : VK} {E E' : XK} {r : R D} (h : Post N W H Q E (okOnly r)) : Post N W H Q E' r := by
  cases r with
  | exc _ _ => exact h.elim
  | ok d st => exact h
  | bad => exact h
def mSaid (P : Addr) (q : Str) (f : R D → R D) (m : M) : M := fun sl st => if tbOk st P q = true then okOnly (f (m sl st)) else .bad
section
variable {X : Cx} {Wx : WX}
theorem ge_said {x q : Str} {P : Addr} {k : Nat} {f : R D → R D} {mE : M} {params : Arguments} {body : Expr} {scope : Scope} {p lpos pos : Pos} (d : Said X.prog X.w X.K X.mg X.base x f) (room : Room (k + 2) X.A) (g : Gd X) (tb : ∃ c, TabB X.base X.mg c P ∧ X.env.code = .ref c)
    (hE : ∀ (s : Shared) (H : Hp) (E : XK) (A : Around) (outer : List Env) (h c' : Addr), Room k (A.deeper (lamEnv X scope s.heap.objs.size h c')) → Gd (lamCx X A outer s H E scope h c') → Takes (lamCx X A outer s H E scope h c') (Ew E) → GE (lamCx X A outer s H E scope h c') (Ew E) body mE)
    (L : LamS X.env.scope scope) (hg : Gl X x := by rfl) (hq : X.env.qual ++ "<lambda>" = q := by rfl) (hdef : defaultsOf params X.env = ([], []) := by rfl) (hbind : ∀ (q : Str) (cl : List (Str × Addr)) (pm cv ctv : Value), bindArgs (PySem.W.kla_fn "<lambda>" q params body scope cl pm cv ctv) ⟨[], []⟩ = pure [] := by intros; rfl) :
    GE X Wx (.Call (.Name x p) [.Lambda params body scope lpos] [] pos) (mSaid P q f mE) := by
  subst hq
  obtain ⟨gf, a, Ng, st, fd, F, hmg, hbd, S, hN, hv, d1, d2, d3, give⟩ := d
  obtain ⟨oc, od, kV, doc, pm0, an, cdv, ct, osl, efd, lk, hcd⟩ := F.ex
  obtain ⟨c, TB, hcode⟩ := tb
  constructor
  rintro pins s σ H Q I ⟨W, sl, st0, hr, hs, hp⟩
  unfold mSaid at hp
  split at hp
  rotate_left
  · exact hp.elim
  rename_i hok
  unfold tbOk at hok
  rw [Bool.and_eq_true, decide_eq_true_eq, List.all_eq_true] at hok
  obtain ⟨hmem, huniq⟩ := hok
  refine wpAny_Call_Name_kw (ld_glob I hg hmg ?_ d3)
  refine PySem.W.callWith_K (h₀ := X.base) I.ok.mod.kin F.kp ?_ (by rfl) (by rfl)
  show wpAny _ _ (spliced ((false, eval (.Lambda params body scope lpos) X.env) :: backTo pos (starEach [] X.env))) _ _ s
  refine Calls.spliced_cons (lam_make2 I TB hcode hmem (fun p hm hP => ?_) hr.tab hdef (L.has I.ok) fun h c' pm' ctv H1 s' I1 eN T1 hf hfn hfr hco => ?_)
  · have z := huniq p hm
    simpa [hP] using z
  refine Calls.spliced_nil ⟨I1.kIn, ?_⟩
  obtain ⟨hr1, x1⟩ := hr.extN eN T1
  have run : codeAny (model X.prog X.w) X.A (.call (.ref gf) ⟨[.ref h], []⟩) (CR C8.CX0 X.stack X.prog X.w H1 s' Q C8.E0) s' := by
    refine run_ofS (N := Ng) (ps := [a]) (us := [.ref h]) (vs := [.ref h]) (efd ▸ lk) hcd S room I1.env0 ?_ (.cons rfl .nil) rfl fun room' => ?_
    · have b := hbd s' [.ref h] I1.kIn rfl
      rw [efd] at b
      simpa using b
    · have G := give X cdv (X.env.qual ++ "<lambda>") rfl rfl rfl rfl rfl (room.mono (by omega)) g.gu h c' s' H1 Q (fun E H' Q' => rd (nv X) (Ew E) mE σ H' Q') (fun Wz pn xe E p1 p2 tk hW => ?_) hco ⟨W, st0, mE sl st0, hr1, fun E Q' hp' => ⟨W, sl, st0, hr1, hs, hp'⟩, Post.ext x1 (post_okOnly hp)⟩
      · obtain ⟨t', ht', hq'⟩ := G
        exact ⟨t', ht'.nox, hq'⟩
      · refine ask_run (k := k) I1 L ⟨⟨pm', ctv, hf, hbind _ _ _ _ _⟩, hfn, hfr⟩ tk hW room' (fun s2 H2 r2 => ?_) hN hv d1 d2
        refine hE s2 H2 E _ _ h c' r2 ⟨rfl, g.nd, Nat.lt_of_le_of_lt (Nat.add_le_add_right (Nat.le_add_right _ (16 * k)) 200) r2.un, g.gu⟩ (takes_of rfl rfl rfl rfl)
  refine wpAny_call (codeAny_mono run ?_)
  rintro (_ | (_ | _ | _ | _)) s2 z
  all_goals first | exact (show False from z).elim | exact I1.after z
end
end Pv
set_option Elab.async false
set_option linter.all false
set_option maxRecDepth 100000
set_option maxHeartbeats 1000000
set_option pp.maxSteps 400
namespace Pv
open PySem PySem.Spec L2 LamX
open PyProof.Rows hiding St
/-- isinstance's answer for the exception class c and the class y -/
def IsE (K : PySem.W.Frag) (mg : Str → Option Value) (c y : Str) (b : Bool) : Prop := ∃ C Y, mg c = some (.ref C) ∧ mg y = some (.ref Y) ∧ ExcC K C ∧ PySem.W.kitOne K (.ref C) (.ref Y) = some b
def IsEb (K : PySem.W.Frag) (mg : Str → Option Value) (c : Str) (T : String) (b : Bool) : Prop := ∃ C, mg c = some (.ref C) ∧ ExcC K C ∧ PySem.W.kitOne K (.ref C) (.type T) = some b
/-- a field of the exception class c -/
def FldE (K : PySem.W.Frag) (mg : Str → Option Value) (c f : Str) : Prop := ∃ C, mg c = some (.ref C) ∧ XfC K C ∧ PySem.W.findIn K (.ref C) f = some none
def onE (a dd : Nat) (c : Str) (f : List D → List D → Option D) : D → Option D
  | .dict [(.bool true, .tuple [.int a', .int dd', .str c', .tuple ns, .tuple fs])] => if a' = (a : Int) ∧ dd' = (dd : Int) ∧ c' = c then f ns fs else none
  | _ => none
theorem onE_inv {a dd : Nat} {c : Str} {f : List D → List D → Option D} {d e : D} (h : onE a dd c f d = some e) : ∃ ns fs, d = Ec a dd c ns fs ∧ f ns fs = some e := by
  unfold onE at h
  split at h
  · split at h
    · rename_i z
      obtain ⟨z1, z2, z3⟩ := z
      subst z1; subst z2; subst z3
      exact ⟨_, _, rfl, h⟩
    · cases h
  · cases h
def mOnE (a dd : Nat) (c : Str) (f : List D → List D → Option D) (m : M) : M := fun sl st => (m sl st).bind fun d st => lift (onE a dd c f d) st
abbrev mIsE (a dd : Nat) (c : Str) (b : Bool) (m : M) : M := mOnE a dd c (fun _ _ => some (.bool b)) m
abbrev mFld (a dd : Nat) (c f : Str) (m : M) : M := mOnE a dd c (fun ns fs => ((nmD ns).zip fs).lookup f) m
theorem rep_Ec {K : PySem.W.Frag} {W : Wd} {v : V} {a dd : Nat} {c : Str} {ns fs : List D} (h : rep K W v (Ec a dd c ns fs)) : v = .ref a ∧ ∃ xs, W.F dd = some (.xd ((nmD ns).zip xs)) ∧ repL K W xs fs := by
  obtain ⟨h1, xs, h2, h3⟩ := h
  rw [Int.toNat_natCast] at h1 h2
  exact ⟨h1, xs, h2, h3⟩
theorem lookup_zip {K : PySem.W.Frag} {W : Wd} {f : Str} {d : D} : ∀ {ns : List Str} {xs : List V} {fs : List D}, repL K W xs fs → (ns.zip fs).lookup f = some d → ∃ v, (ns.zip xs).lookup f = some v ∧ rep K W v d
  | [], _, _, _, h => by simp at h
  | n :: ns, xs, [], l, h => by simp at h
  | n :: ns, xs, e :: fs, ⟨v, us, q1, q2, q3⟩, h => by
    subst q1
    rw [List.zip_cons_cons, List.lookup_cons] at h ⊢
    split at h
    · rename_i z; cases h; exact ⟨v, rfl, q2⟩
    · exact lookup_zip q3 h
section
variable {X : Cx} {Wx : WX} {a dd : Addr} {c f y : Str} {oe : Obj} {pn : List (Addr × Obj)} {ea : Expr} {ma : M} {p p2 pos : Pos}
theorem call_isX {D : Addr} (C : ExcC X.K D) (hz : Zc (.ref D) (some dd) oe) (hf : ∃ vs, oe.data = .fields vs) : CallR (X.suite a ((a, oe) :: pn)) (.builtin "isinstance")
    (fun xs H Q => ∃ (c : V) (cv : Value) (b : Bool) (fs : List (Str × V)), xs = [.ref a, c] ∧ (∀ u, RelV c u → u = cv) ∧ PySem.W.kitOne X.K (.ref D) cv = some b ∧ H dd = some (.xd fs) ∧ Q (.bl b) H) := by
  rintro pins s σ H xs us Q I r ⟨c, cv, b, fs, rfl, hcv, hk, hx, q⟩
  obtain ⟨u1, us, rfl, r1, r⟩ : ∃ u1 us', us = u1 :: us' ∧ RelV (.ref a) u1 ∧ Vals [c] us' := by cases r with | cons r1 r2 => exact ⟨_, _, rfl, r1, r2⟩
  obtain ⟨u2, rfl, r2⟩ := vals1 r
  cases (show u1 = Value.ref a from r1)
  cases hcv _ r2
  have pin := (I.pin (a, oe) (List.mem_append_left _ List.mem_cons_self)).1
  obtain ⟨vs, hv⟩ := hf
  obtain ⟨mA, hns, hr⟩ := (show ObjOk X.prog X.w H s.heap dd (.xd fs) from I.hok dd _ hx)
  obtain ⟨od, ho, hl⟩ := lookIn_ns hns
  have at_ : PySem.W.InstAt s.heap a oe D (some od) := ⟨pin, hz.1, by unfold PySem.W.notCls; rw [hv] <;> rfl, by rw [hz.2]; exact ho⟩
  obtain ⟨cd, hcd, _⟩ := PySem.W.any_some C.hd
  exact PySem.W.kia_one (PySem.W.kitx_exc (by rw [hcd]; rfl) C.hg C.hk C.hs C.ha C.hn C.ht C.hm) I.kIn at_ hk (fun z => nomatch z) fun tk => ⟨.bl b, H, I.kept (t' := tk) fun _ _ z => z, rfl, q⟩
theorem ge_isE {b : Bool} (u : Su X a dd c oe) (h : IsE X.K X.mg c y b) (hm : X.mg "isinstance" = none) (ha : GE (X.suite a ((a, oe) :: pn)) Wx ea ma) (hg : Gl (X.suite a ((a, oe) :: pn)) "isinstance" := by rfl) (hgy : Gl (X.suite a ((a, oe) :: pn)) y := by rfl) (hd : (y == ("__debug__" : Str)) = false := by decide +kernel)
    (he : starEach [ea, .Name y p2] (X.suite a ((a, oe) :: pn)).env = (false, eval ea (X.suite a ((a, oe) :: pn)).env) :: starEach [.Name y p2] (X.suite a ((a, oe) :: pn)).env := by rfl) (he2 : starEach [.Name y p2] (X.suite a ((a, oe) :: pn)).env = (false, eval (.Name y p2) (X.suite a ((a, oe) :: pn)).env) :: starEach [] (X.suite a ((a, oe) :: pn)).env := by rfl) (hpl : (backTo pos (starEach [.Name y p2] (X.suite a ((a, oe) :: pn)).env)).any (·.1) = false := by rfl) :
    GE (X.suite a ((a, oe) :: pn)) Wx (.Call (.Name "isinstance" p) [ea, .Name y p2] [] pos) (mIsE a dd c b ma) := by
  obtain ⟨C, Y, m1, m2, EC, hk⟩ := h
  obtain ⟨⟨C', m3, hz⟩, hf⟩ := u
  rw [m1] at m3; cases m3
  have hy : PE (X.suite a ((a, oe) :: pn)) (.Name y p2) (tC (.ref Y)) := pe_glob hgy m2 rfl hd
  refine PE.imp (pe_callB (call_isX (pn := pn) EC hz hf) hg hm (by decide +kernel) (pa_cons ha (pa_cons hy pa_nil he2) he) (by decide +kernel) (by decide +kernel) he hpl) fun sh H Q ⟨W, sl, st, hr, hs, q⟩ => ?_
  refine rd_bind hr hs q fun d1 st1 W1 v1 H1 e1 x1 h1 s1 r1 p1 => ?_
  cases ht : onE a dd c (fun _ _ => some (.bool b)) d1 with
  | none => rw [ht] at p1; exact p1.elim
  | some t =>
    rw [ht] at p1
    obtain ⟨ns, fs, e1, e2⟩ := onE_inv ht
    cases e2
    subst e1
    obtain ⟨q1, xs, q2, _⟩ := rep_Ec r1
    subst q1
    exact ⟨.ref Y, .ref Y, b, _, rfl, fun _ z => z, hk, h1.sub _ _ q2, p1.val h1 rfl⟩
theorem ge_isEb {T : String} {b : Bool} (u : Su X a dd c oe) (h : IsEb X.K X.mg c T b) (hm : X.mg "isinstance" = none) (hmy : X.mg y = none) (ha : GE (X.suite a ((a, oe) :: pn)) Wx ea ma) (hv : bootBuiltins y = some (.type T) := by decide +kernel) (hg : Gl (X.suite a ((a, oe) :: pn)) "isinstance" := by rfl) (hgy : Gl (X.suite a ((a, oe) :: pn)) y := by rfl) (hn : y ≠ "__name__" := by decide +kernel) (hd : (y == ("__debug__" : Str)) = false := by decide +kernel)
    (he : starEach [ea, .Name y p2] (X.suite a ((a, oe) :: pn)).env = (false, eval ea (X.suite a ((a, oe) :: pn)).env) :: starEach [.Name y p2] (X.suite a ((a, oe) :: pn)).env := by rfl) (he2 : starEach [.Name y p2] (X.suite a ((a, oe) :: pn)).env = (false, eval (.Name y p2) (X.suite a ((a, oe) :: pn)).env) :: starEach [] (X.suite a ((a, oe) :: pn)).env := by rfl) (hpl : (backTo pos (starEach [.Name y p2] (X.suite a ((a, oe) :: pn)).env)).any (·.1) = false := by rfl) :
    GE (X.suite a ((a, oe) :: pn)) Wx (.Call (.Name "isinstance" p) [ea, .Name y p2] [] pos) (mIsE a dd c b ma) := by
  obtain ⟨C, m1, EC, hk⟩ := h
  obtain ⟨⟨C', m3, hz⟩, hf⟩ := u
  rw [m1] at m3; cases m3
  have hy : PE (X.suite a ((a, oe) :: pn)) (.Name y p2) (tC (.ty T)) := pe_bltn hgy hmy hv rfl hn hd
  refine PE.imp (pe_callB (call_isX (pn := pn) EC hz hf) hg hm (by decide +kernel) (pa_cons ha (pa_cons hy pa_nil he2) he) (by decide +kernel) (by decide +kernel) he hpl) fun sh H Q ⟨W, sl, st, hr, hs, q⟩ => ?_
  refine rd_bind hr hs q fun d1 st1 W1 v1 H1 e1 x1 h1 s1 r1 p1 => ?_
  cases ht : onE a dd c (fun _ _ => some (.bool b)) d1 with
  | none => rw [ht] at p1; exact p1.elim
  | some t =>
    rw [ht] at p1
    obtain ⟨ns, fs, e1, e2⟩ := onE_inv ht
    cases e2
    subst e1
    obtain ⟨q1, xs, q2, _⟩ := rep_Ec r1
    subst q1
    exact ⟨.ty T, .type T, b, _, rfl, fun _ z => z, hk, h1.sub _ _ q2, p1.val h1 rfl⟩
/-- e.f -/
theorem ge_fld (u : Su X a dd c oe) (h : FldE X.K X.mg c f) (ha : GE (X.suite a ((a, oe) :: pn)) Wx ea ma) (hb : attributeBase ea f X.env (eval ea X.env) = eval ea X.env := by rfl) : GE (X.suite a ((a, oe) :: pn)) Wx (.Attribute ea f pos) (mFld a dd c f ma) := by
  obtain ⟨C, m1, T, hno⟩ := h
  obtain ⟨⟨C', m3, hz⟩, hf⟩ := u
  rw [m1] at m3; cases m3
  refine PE.imp (pe_xf (pn := pn) T hno hz hf ha hb) fun sh H Q ⟨W, sl, st, hr, hs, q⟩ => ?_
  refine rd_bind hr hs q fun d1 st1 W1 v1 H1 e1 x1 h1 s1 r1 p1 => ?_
  cases ht : onE a dd c (fun ns fs => ((nmD ns).zip fs).lookup f) d1 with
  | none => rw [ht] at p1; exact p1.elim
  | some t =>
    rw [ht] at p1
    obtain ⟨ns, fs, e1, e2⟩ := onE_inv ht
    subst e1
    obtain ⟨q1, xs, q2, q3⟩ := rep_Ec r1
    obtain ⟨v, l1, l2⟩ := lookup_zip q3 e2
    exact ⟨q1, rfl, dd, _, v, rfl, h1.sub _ _ q2, l1, p1.val h1 l2⟩
end
/-- the def: try: return (u, a()) / except C as n: suite -/
theorem said_of {P : Program} {w : World} {K : PySem.W.Frag} {mg : Str → Option Value} {base : Heap} {x a C n u : Str} {st : Stmt} {g CS : Addr} {fd : FuncData} {Ng : List Str} {i j k1 : Nat} {cs : List Str} {bh : Nat → Nat → Str → MS} {b₀ : Stmt} {suite : List Stmt} {p1 p2 p3 p4 p5 p6 p7 p8 : Pos}
    (F : Fun K x x st g fd) (hm : mg x = some (.ref g)) (hb : Binds K fd [a] []) (S : FnScope Ng [a] (defScope st))
    (hbody : defBody st = [.Try [.Return (some (.Tuple [.Constant (.str u) j p1, .Call (.Name a p2) [] [] p3] k1 p4)) p5] [.ExceptHandler (some (.Name C p6)) (some n) (b₀ :: suite) p7] [] [] p8])
    (hme : mg C = some (.ref CS)) (hcs : ∀ c ∈ cs, ∀ D, mg c = some (.ref D) → PySem.W.exmOne K (.ref D) (.ref CS) = some true)
    (ind : ∀ a dd (x : XV) st, x.1 ∈ cs → handR Ng.length i bh a dd x st = handR Ng.length i bh 0 0 x st)
    (hsu : ∀ (cdv : Value) (A : Around) (outer : List Env) (s : Shared) (H : Hp) (b dd : Addr) (c : Str) (oe : Obj) (pn : List (Addr × Obj)), c ∈ cs → Su (cxOf C8.CX0 P w K mg base Ng x (defScope st) g cdv A outer s H C8.E0).nox b dd c oe → Gd0 ((cxOf C8.CX0 P w K mg base Ng x (defScope st) g cdv A outer s H C8.E0).nox.suite b ((b, oe) :: pn)) →
      GSs ((cxOf C8.CX0 P w K mg base Ng x (defScope st) g cdv A outer s H C8.E0).nox.suite b ((b, oe) :: pn)) (fun _ _ _ _ => False) (b₀ :: suite) (bh b dd c))
    (hge : (defScope st).names.lookup C = some .globalImplicit := by rfl) (hi : Ng[i]? = some n := by rfl) (hln : (defScope st).names.lookup n = some .local := by rfl) (h0 : ∀ f : Addr, (L2.start Ng [V.ref f])[0]? = some (some (V.ref f)) := by intro _; rfl)
    (hN0 : Ng[0]? = some a := by rfl) (hva : (defScope st).names.lookup a = some .local := by rfl) (d1 : (a == ("__debug__" : Str)) = false := by decide +kernel) (d2 : (a == ("__classdict__" : Str)) = false := by decide +kernel) (d3 : (x == ("__debug__" : Str)) = false := by decide +kernel) (hde : (C == ("__debug__" : Str)) = false := by decide +kernel) :
    Said P w K mg base x (saidR u cs Ng.length i bh) := by
  refine ⟨g, a, Ng, st, fd, F, hm, hb, S, hN0, .inl hva, d1, d2, d3, fun X cdv q e1 e2 e3 e4 e5 hun hgu => ?_⟩
  subst e1; subst e2; subst e3; subst e4; subst e5
  rw [hbody]
  refine said_gives hge hme hde S.nd hi hln h0 (by have := (List.getElem?_eq_some_iff.mp hN0).1; omega) hcs ind fun s H b dd c oe pn hc hu => hsu cdv X.A X.stack s H b dd c oe pn hc ⟨hu.cls, hu.fld⟩ ⟨S.nd, ?_, hgu⟩
  show X.A.units + 3 + 200 < cLine
  have := hun.un; omega
end Pv
set_option Elab.async false
set_option linter.all false
set_option maxRecDepth 100000
set_option maxHeartbeats 1000000
set_option pp.maxSteps 400
namespace Pv
open PySem PySem.Spec L2 LamX
open PyProof.Rows hiding St
theorem cd_of {K : PySem.W.Frag} {x : Str} {st : Stmt} {f : Addr} {oc : Value} {od an : Option Addr} {osl : Array (Option Value)} {kV doc pm cdv ct : Value} (l : K.lookup f = some ⟨oc, od, .func (PySem.W.fnOf x x (defArgs st) (defBody st) (defScope st) .none kV doc pm an cdv ct), osl⟩) (c : PySem.W.codeIn K cdv x = true) :
    FunCd K x x st f (PySem.W.fnOf x x (defArgs st) (defBody st) (defScope st) .none kV doc pm an cdv ct) cdv := ⟨oc, od, kV, doc, pm, an, ct, osl, rfl, l, c⟩
/-- one def's table: its code object, the table, the name of its lambdas -/
abbrev Tb3 := Addr × Addr × Str
def tabSto (cs : List Tb3) : Sto := cs.map fun p => .tb p.2.1 p.2.2
theorem tbs_tabSto : ∀ cs : List Tb3, tbs (tabSto cs) = cs.map (·.2)
  | [] => rfl
  | p :: cs => by show (p.2.1, p.2.2) :: tbs (tabSto cs) = p.2 :: cs.map (·.2); rw [tbs_tabSto cs]
section
variable {P : Program} {w : World} {K : PySem.W.Frag} {mg mb : Str → Option Value} {k : Nat} {fa a : Addr} {fd : FuncData} {x : Str} {F : Fn} {s₁ : Shared} {vs : List Value} {ns : List Int} {cs : List Tb3}
theorem repL_nums {W : Wd} : ∀ ns : List Int, repL K W (ns.map V.int) (ns.map .int)
  | [] => rfl
  | n :: ns => ⟨_, _, rfl, rfl, repL_nums ns⟩
/-- the store at the law's beginning: its tables -/
theorem hr_tabs {H : Hp} (nd : (cs.map (·.2.1)).Nodup) (hH : ∀ p ∈ cs, H p.2.1 = some (.tbl #[])) (only : ∀ b ps, H b = some (.tbl ps) → b ∈ cs.map (·.2.1)) :
    HR K ⟨fun b => if b ∈ cs.map (·.2.1) then none else H b, cs.map (·.2.1)⟩ H (tabSto cs) := by
  have notF : ∀ {b o}, (if b ∈ cs.map (·.2.1) then none else H b) = some o → b ∉ cs.map (·.2.1) ∧ H b = some o := fun {b o} e => by
    by_cases hb : b ∈ cs.map (·.2.1)
    · rw [if_pos hb] at e; cases e
    · rw [if_neg hb] at e; exact ⟨hb, e⟩
  refine ⟨by simp [tabSto], nd, fun b o e => (notF e).2, fun r b m e1 e2 => ?_, fun p hp => ?_, fun b ps e => ?_⟩
  · have hb : b ∈ cs.map (·.2.1) := List.mem_of_getElem? e1
    refine ⟨if_pos hb, ?_⟩
    unfold tabSto at e2
    have e1' : (cs.map (·.2.1))[r]? = some b := e1
    rw [List.getElem?_map] at e1' e2
    obtain ⟨p, q1, q2⟩ := Option.map_eq_some_iff.mp e1'
    rw [q1] at e2
    cases e2
    exact ⟨q2.symm, #[], by rw [← q2]; exact hH p (List.mem_of_getElem? q1)⟩
  · rw [tbs_tabSto] at hp
    obtain ⟨q, hq, e⟩ := List.mem_map.mp hp
    subst e
    exact TabS.nil (hH q hq)
  · obtain ⟨h1, h2⟩ := notF e
    exact h1 (only b ps h2)
theorem head_GT (KX : K.In s₁.heap) (hns : s₁.heap.Ns mainGlobals mg) (hb : s₁.heap.Ns builtinsNs mb) (hbb : ∀ x : Str, x ≠ "__name__" → mb x = bootBuiltins x) (hlim : s₁.heap.NoLimit) (hg : s₁.gens = #[])
    (hT : ∀ p ∈ cs, s₁.heap.get? p.2.1 = some (PySem.W.tabObj #[])) (nT : ∀ p ∈ cs, K.lookup p.2.1 = none) (C : ∀ p ∈ cs, PySem.W.CodeHd s₁.heap p.1 p.2.1) (nd : (cs.map (·.2.1)).Nodup)
    (hbm : ∃ (bm : Addr) (ob : Obj), mg "__builtins__" = some (.ref bm) ∧ bm ≠ builtinsNs ∧ s₁.heap.get? bm = some ob ∧ ob.cls = .type "module" ∧ ob.dict = some builtinsNs ∧ ob.data = .plain)
    (ha : s₁.heap.get? a = some { cls := .type "list", data := .seq vs.toArray }) (hi : IntsAre vs ns) (hl : ns.length ≤ sizeLine) (hr : Room k callerA)
    (hF : ∀ base : Heap, K.In base → base.Ns mainGlobals mg → (∀ p ∈ cs, TabB base mg p.1 p.2.1) → FnG P w K mg base k fa fd [x] F) (hbind : ∀ (s : Shared) (u : Value), BindsTo s fd ⟨[u], []⟩ [(x, u)])
    (law : ∃ st, F [Gs (ns.map .int)] (tabSto cs) = .ok (.bool true) st) :
    codeAny (model P w) callerA (.call (.ref fa) ⟨[.ref a], []⟩) (fun r s' => r = .ok (.ret (.bool true)) ∧ OldK s₁.heap s'.heap ∧ s'.os = s₁.os ∧ AllBare s'.gens) s₁ := by
  have lenV := hi.length
  have rels := vals_ints hi
  let ts := cs.map (·.2.1)
  have tabAt : ∀ b ∈ ts, s₁.heap.get? b = some (PySem.W.tabObj #[]) := fun b q => by
    obtain ⟨p, hp, e⟩ := List.mem_map.mp q
    subst e; exact hT p hp
  have notA : a ∉ ts := fun q => by
    have z := tabAt a q
    rw [ha] at z
    exact nomatch (show Data.seq vs.toArray _ = Data.fields #[] from congrArg Obj.data (Option.some.inj z))
  have isT : ∀ p ∈ cs, p.2.1 ∈ ts := fun p hp => List.mem_map.mpr ⟨p, hp, rfl⟩
  have go : ∀ H : Hp, (∀ p ∈ cs, H p.2.1 = some (.tbl #[])) → (∀ b, H b = none ∨ b ∈ ts ∨ ∃ o xs, H b = some (.frz o (.lst xs))) → SqL K H a (ns.map V.int) → HOk P w H s₁.heap → (∀ b, H b ≠ none → b = a ∨ b ∈ ts) → (H a ≠ none → K.lookup a = none) →
      codeAny (model P w) callerA (.call (.ref fa) ⟨[.ref a], []⟩) (fun r s' => r = .ok (.ret (.bool true)) ∧ OldK s₁.heap s'.heap ∧ s'.os = s₁.os ∧ AllBare s'.gens) s₁ := by
    intro H hH only sq ok one free
    have bare : ∀ {b : Addr} {o : Obj}, s₁.heap.get? b = some o → (∀ us n, o.data ≠ .seq us n) → o.data ≠ .fields #[] → H b = none := by
      intro b o e n1 n2
      cases hb : H b with
      | none => rfl
      | some u =>
        rcases one b (by rw [hb]; exact fun z => nomatch z) with q | q
        · subst q; rw [ha] at e; cases e; exact absurd rfl (n1 _ _)
        · rw [tabAt b q] at e; cases e; exact absurd rfl n2
    have nodict : ∀ {b : Addr} {o : Obj} {es : Array DictEntry} {ep : Nat}, s₁.heap.get? b = some o → o.data = .dict es ep → H b = none := fun e q =>
      bare e (fun us n z => by rw [q] at z; cases z) fun z => by rw [q] at z; cases z
    have nsB : ∀ {b : Addr} {m : Str → Option Value}, s₁.heap.Ns b m → (hidT s₁.heap H).Ns b m := by
      intro b m ⟨o, es, ep, e, q, r⟩
      exact ⟨o, es, ep, hidT_get e (nodict e q), q, r⟩
    have kB : K.In (hidT s₁.heap H) := by
      intro b o e
      refine hidT_get (KX b o e) ?_
      cases hb : H b with
      | none => rfl
      | some u =>
        rcases one b (by rw [hb]; exact fun z => nomatch z) with q | q
        · subst q
          rw [free (by rw [hb]; exact fun z => nomatch z)] at e
          cases e
        · obtain ⟨p, hp, ep⟩ := List.mem_map.mp q
          subst ep
          rw [nT p hp] at e
          cases e
    have limB : (hidT s₁.heap H).NoLimit := by
      obtain ⟨mc, h1, h2⟩ := hlim
      exact ⟨mc, nsB h1, h2⟩
    have tabsB : ∀ p ∈ cs, TabB (hidT s₁.heap H) mg p.1 p.2.1 := by
      intro p hp
      refine ⟨?_, ?_, ?_⟩
      · obtain ⟨o, us, file, tf, flags, tg, inF, text, tt, g1, r1, r2, r3, more⟩ := C p hp
        refine ⟨o, us, file, tf, flags, tg, inF, text, tt, hidT_get g1 (bare g1 (fun us' n z => ?_) fun z => ?_), r1, r2, r3, more⟩
        · rw [r2] at z; cases z
        · rw [r2] at z; cases z; simp at r3
      · obtain ⟨bm, ob, b1, b2, b3, b4, b5, b6⟩ := hbm
        refine ⟨bm, ob, b1, b2, fun q => ?_, fun q => ?_, hidT_get b3 (bare b3 (fun us' n z => ?_) fun z => ?_), b4, b5, b6⟩
        · obtain ⟨o, es, ep, e, hd, _⟩ := hns
          rw [q, e] at b3; cases b3; rw [hd] at b6; cases b6
        · rw [q, hT p hp] at b3; cases b3; cases b6
        · rw [b6] at z; cases z
        · rw [b6] at z; cases z
      · intro q
        obtain ⟨o, es, ep, e, hd, _⟩ := hns
        rw [q, hT p hp] at e; cases e; cases hd
    have env : Env0 P w K mg (hidT s₁.heap H) callerA [] s₁ H :=
      { frames := rfl, mod := ⟨kB, nsB hns, ⟨mb, nsB hb, hbb⟩, limB⟩, bs := fun b o e => of_hidT e, bsz := Nat.le_of_eq (hidT_size _ _), funs := trivial, frf := fun b hb => (absurd (show b ∈ ([] : List Addr) from hb) (by simp)), hok := ok, bare := .of_eq hg }
    obtain ⟨st, hlaw⟩ := law
    have base := hr_tabs (K := K) nd hH fun b ps e => by
      rcases only b with z | z | ⟨o, xs, z⟩
      · rw [e] at z; cases z
      · exact z
      · rw [e] at z; cases z
    have sq' : SqL K (fun b => if b ∈ ts then none else H b) a (ns.map V.int) := by
      rcases sq with (z | ⟨o, z⟩) | z
      · exact .inl (.inl ((if_neg notA).trans z))
      · exact .inl (.inr ⟨o, (if_neg notA).trans z⟩)
      · exact .inr z
    have prom : spF ⟨K, mg⟩ 1 F [.ref a] H (fun v _ => v = .bl true) fun _ _ _ => False :=
      ⟨_, [Gs (ns.map .int)], tabSto cs, base, ⟨_, _, rfl, ⟨a, _, rfl, sq', repL_nums ns⟩, rfl⟩, rfl, by rw [hlaw]; exact fun W' v H' _ _ r => r⟩
    refine codeAny_mono ((hF _ kB (nsB hns) tabsB).run callerA [] s₁ H ⟨[.ref a], []⟩ [.ref a] [.ref a] _ _ hr rfl env (hbind s₁ (.ref a)) (.cons rfl .nil) prom) ?_
    intro r s' z
    cases r with
    | error e => obtain ⟨_, _, _, _, _, _, _, _, _, _, _, _, q⟩ := z; exact q.elim
    | ok fl => cases fl with
      | ret u =>
        obtain ⟨v, H', os, bareG, un, ok', rv, q⟩ := z
        cases (show v = .bl true from q)
        cases (show u = Value.bool true from rv)
        have same : ∀ b o, b ∉ ts → s₁.heap.get? b = some o → s'.heap.get? b = some o := by
          intro b o nb e
          cases hb : H b with
          | none => exact un.keep b o e hb (fun z => nomatch z) (fun z => nomatch z)
          | some u =>
            rcases only b with z | z | ⟨ob, xs, z⟩
            · rw [hb] at z; cases z
            · exact absurd z nb
            · obtain ⟨e1, _⟩ := ok b _ z
              obtain ⟨e2, _⟩ := ok' b _ (un.frzs b ob _ z)
              rw [e] at e1
              cases e1
              exact e2
        have more : ∀ p ∈ cs, ∃ l : Array Value, s'.heap.get? p.2.1 = some { cls := .none, data := .fields l } := by
          intro p hp
          obtain ⟨l, z⟩ := un.tbls p.2.1 #[] (hH p hp)
          exact ⟨_, ok' p.2.1 _ z⟩
        refine ⟨rfl, ⟨fun b o e => ?_, fun b o e => ?_⟩, os, bareG⟩
        · by_cases nb : b ∈ ts
          · obtain ⟨p, hp, ep⟩ := List.mem_map.mp nb
            subst ep
            obtain ⟨l, hl2⟩ := more p hp
            have e0 := e
            rw [hT p hp] at e0
            cases e0
            exact .inr (.inl ⟨((C p hp).tab (hT p hp)).isCodeTable, rfl, #[], l, rfl, by simpa using hl2⟩)
          · exact .inl (same b o nb e)
        · by_cases nb : b ∈ ts
          · obtain ⟨p, hp, ep⟩ := List.mem_map.mp nb
            subst ep
            obtain ⟨l, hl2⟩ := more p hp
            exact ⟨_, hl2⟩
          · exact ⟨o, same b o nb e⟩
      | next => exact z.elim
      | brk => exact z.elim
      | cont => exact z.elim
  have iff_ts : ∀ {b : Addr} {u v : Option HO}, b ∈ ts → (if b ∈ ts then u else v) = u := fun h => if_pos h
  cases hk : K.lookup a with
  | some o =>
    have e := KX a o hk
    rw [ha] at e
    cases e
    refine go (fun b => if b ∈ ts then some (.tbl #[]) else none) (fun p hp => if_pos (isT p hp)) (fun b => ?_) (Or.inr ⟨_, vs.toArray, _, hk, rfl, rfl, rfl, ?_, ?_⟩) (fun b u z => ?_) (fun b z => ?_) (fun z => absurd (if_neg notA) z)
    · by_cases q : b ∈ ts
      · exact .inr (.inl q)
      · exact .inl (if_neg q)
    · rw [List.size_toArray, lenV]; exact hl
    · simpa using rels
    · by_cases q : b ∈ ts
      · have z2 := (if_pos q).symm.trans z
        cases z2; exact tabAt b q
      · have z2 := (if_neg q).symm.trans z
        cases z2
    · by_cases q : b ∈ ts
      · exact .inr q
      · exact absurd (if_neg q) z
  | none =>
    refine go (fun b => if b = a then some (.frz { cls := .type "list", data := .seq vs.toArray } (.lst (ns.map V.int))) else if b ∈ ts then some (.tbl #[]) else none) (fun p hp => ?_) (fun b => ?_) (Or.inl (Or.inr ⟨_, if_pos rfl⟩)) (fun b u z => ?_) (fun b z => ?_) (fun _ => hk)
    · have : p.2.1 ≠ a := fun z => notA (z ▸ isT p hp)
      exact (if_neg this).trans (if_pos (isT p hp))
    · by_cases q : b = a
      · exact Or.inr (.inr ⟨_, _, if_pos q⟩)
      · by_cases q2 : b ∈ ts
        · exact .inr (.inl q2)
        · exact Or.inl ((if_neg q).trans (if_neg q2))
    · by_cases q : b = a
      · have z2 := (if_pos q).symm.trans z
        cases z2
        subst q
        exact ⟨ha, by rw [List.length_map]; exact hl, vs, _, rels, ha⟩
      · have z2 := (if_neg q).symm.trans z
        by_cases q2 : b ∈ ts
        · have z3 := (if_pos q2).symm.trans z2
          cases z3; exact tabAt b q2
        · have z3 := (if_neg q2).symm.trans z2
          cases z3
    · by_cases q : b = a
      · exact .inl q
      · by_cases q2 : b ∈ ts
        · exact .inr q2
        · exact absurd ((if_neg q).trans (if_neg q2)) z
end
/-- the end theorem's walk, with tables -/
theorem walk_GT {l : PySem.W.OpenLaw} {n k : Nat} {q : Program} {loose : List Str} {XP : (Str → Option Value) → Heap → Prop} {YP : World → Heap → Prop} {d : DefRec} {K : Params → PySem.W.Frag} {x : Str} {F : Fn} (cs : List Tb3)
    (hn : l.most = some n) (hn2 : n ≤ sizeLine) (hdf : d.params.defaults = []) (hr : Room k callerA) (hY : ∀ (w : World) (h : Heap), YP w h → (K w.params).In h) (nd : (cs.map (·.2.1)).Nodup)
    (hC : ∀ (w : World) (h : Heap), YP w h → (∀ p ∈ cs, h.get? p.2.1 = some (PySem.W.tabObj #[])) ∧ (∀ p ∈ cs, (K w.params).lookup p.2.1 = none) ∧ ∀ p ∈ cs, PySem.W.codeHdIn (K w.params) p.1 p.2.1 = true)
    (hF : ∀ (w : World) (mg : Str → Option Value) (fa : Addr) (h : Heap), (K w.params).In h → h.Ns mainGlobals mg → mg d.name = some (.ref fa) →
      ∃ fd : FuncData, (∀ (s : Shared) (u : Value), BindsTo s fd ⟨[u], []⟩ [(x, u)]) ∧ ∀ base : Heap, (K w.params).In base → base.Ns mainGlobals mg → (∀ p ∈ cs, TabB base mg p.1 p.2.1) → FnG l.prog w (K w.params) mg base k fa fd [x] F)
    (law : ∀ ns : List Int, ns.length ≤ n → ∃ st, F [Gs (ns.map .int)] (tabSto cs) = .ok (.bool true) st) : PySem.W.WalkO q loose XP YP l.row.toRowW d [] (fun f vs => PySem.call f vs) := by
  refine Att.attach_call hn hdf ?_
  intro w s₀ s₁ mg mb fa o pm cd doc a vs ns G Y ho hd hcd hmg hobj hints hlen hg
  have KX := hY w _ Y
  obtain ⟨fd, b, f⟩ := hF w mg fa _ KX G.T.g hmg
  obtain ⟨c1, c2, c3⟩ := hC w _ Y
  exact head_GT KX G.T.g G.T.b G.T.builtins G.T.nolimit hg c1 c2 (fun p hp => PySem.W.codeHd_of_K KX (c3 p hp)) nd G.T.bmain hobj hints (Nat.le_trans hlen hn2) hr f b (law ns hlen)
end Pv
set_option Elab.async false
set_option linter.all false
set_option maxRecDepth 100000
set_option maxHeartbeats 1000000
set_option pp.maxSteps 400
namespace Pv
open PySem PySem.Spec L2 LamX
open PyProof.Rows hiding St
def classBody : Stmt → List Stmt
  | .ClassDef _ _ _ body _ _ _ _ _ _ _ => body
  | _ => []
/-- the class's first def -/
def initOf (st : Stmt) : Stmt := ((classBody st).find? fun s => match s with | .FunctionDef .. => true | _ => false).getD (.Pass ⟨0, 0, 0, 0⟩)
/-- the raw facts: each by k_is -/
structure XRaw (K : PySem.W.Frag) (C : Addr) : Prop where
  xL : ∃ nm q N bs bm sn sub ab col dd k0 k1 k2 k3 k5, K.lookup C = some (excClassObj nm q C N bs bm true sn sub ab col dd k0 k1 k2 k3 k5 "ValueError.__new__") ∧ PySem.HandSPX.refsVE bm = true
  sa : PySem.W.findIn K (.ref C) "__setattr__" = some (some (.builtin "object.__setattr__"))
  ga : PySem.W.findIn K (.ref C) "__getattribute__" = some (some (.builtin "BaseException.__getattribute__"))
  gg : PySem.W.findIn K (.ref C) "__getattr__" = some none
  cl : PySem.W.findIn K (.ref C) "__class__" = some (some (.builtin "object.__class__"))
  eC : PySem.W.subIn K (.ref C) (.type "BaseException") = some true
  vC : PySem.W.subIn K (.ref C) (.type "ValueError") = some true
  tC : PySem.W.typeIn K (.ref C) = some (.type "type")
  kC : PySem.W.keepIn K (.ref C) = true
  hC : PySem.W.hasDictIn K C = true
  mC : PySem.W.mroIn K C (.ref C) = some true
  mO : PySem.W.mroIn K C (.type "object") = some true
  sup : PySem.W.ks_superIn K C C "__init__" = some (some (.builtin "ValueError.__init__"))
/-- facts of no class -/
structure XTop (K : PySem.W.Frag) : Prop where
  sg : PySem.W.specialIn K (.builtin "object.__class__") "__get__" = some (some (.builtin "getset_descriptor.__get__"))
  tk : PySem.W.takesIn K (.builtin "object.__class__") = some true
  any : PySem.W.nsIn K PySem.cStatics "thirdparty.any" = some none
theorem XRaw.oex {K : PySem.W.Frag} {C : Addr} (h : XRaw K C) : OexC K C := ⟨h.xL, h.sa, h.eC, h.tC, h.kC⟩
theorem XRaw.exc {K : PySem.W.Frag} {C : Addr} (h : XRaw K C) (t : XTop K) : ExcC K C := ⟨h.ga, h.gg, h.eC, h.hC, h.cl, t.sg, t.tk, h.mO⟩
theorem XRaw.xf {K : PySem.W.Frag} {C : Addr} (h : XRaw K C) : XfC K C := ⟨h.ga, h.gg, h.eC, h.hC⟩
theorem XRaw.at_ {K : PySem.W.Frag} {mg : Str → Option Value} {prog : Program} {x : Str} {C : Addr} (h : XRaw K C) (t : XTop K) (m : mg x = some (.ref C)) : ExcAt K mg prog x C :=
  ⟨m, h.oex, t.any, h.sup, h.vC, h.mC, let ⟨cd, hc, _⟩ := PySem.W.any_some h.hC; ⟨cd, hc⟩⟩
/-- a class of the program, plainer -/
structure YRaw (K : PySem.W.Frag) (Y : Addr) : Prop where
  eC : PySem.W.subIn K (.ref Y) (.type "BaseException") = some true
  tC : PySem.W.typeIn K (.ref Y) = some (.type "type")
  iC : PySem.W.isClsIn K Y = true
theorem YRaw.kit {K : PySem.W.Frag} {C Y : Addr} {b : Bool} (h : YRaw K Y) (s : PySem.W.subIn K (.ref C) (.ref Y) = some b) (hb : C = Y → b = true) : PySem.W.kitOne K (.ref C) (.ref Y) = some b := by
  have h2 : (PySem.W.clsIn K Y).isSome = true := h.iC
  unfold PySem.W.kitOne
  split
  · rename_i e
    have e' : C = Y := Value.ref.inj (beq_iff_eq.mp e)
    rw [hb e']
  · show (if _ then _ else _) = _
    rw [if_pos (by rw [h2, h.tC]; rfl)]; exact s
theorem YRaw.exm {K : PySem.W.Frag} {C Y : Addr} {b : Bool} (h : YRaw K Y) (s : PySem.W.subIn K (.ref C) (.ref Y) = some b) : PySem.W.exmOne K (.ref C) (.ref Y) = some b := by
  have h2 : (PySem.W.clsIn K Y).isSome = true := h.iC
  unfold PySem.W.exmOne
  rw [if_pos (by rw [h.eC]; rfl)]
  show (if _ then _ else _) = _
  rw [if_pos (by rw [h2, h.tC]; rfl)]; exact s
theorem kit_T {K : PySem.W.Frag} {C : Addr} {T : String} {b : Bool} (m : PySem.W.kitMeta T = true) (s : PySem.W.subIn K (.ref C) (.type T) = some b) : PySem.W.kitOne K (.ref C) (.type T) = some b := by
  unfold PySem.W.kitOne
  rw [if_neg (by intro z; cases (beq_iff_eq.mp z))]
  show (if _ then _ else _) = _
  rw [if_pos m]; exact s
def Exc2 (P : Program) (w : World) (K : PySem.W.Frag) (mg : Str → Option Value) (x f1 f2 : Str) : Prop :=
  ∃ C fI fd ps, ∀ X : Cx, X.prog = P → X.w = w → X.K = K → X.mg = mg → ExcDf X x C fI fd ps (sp2 C f1 f2)
section
variable {P : Program} {w : World} {K : PySem.W.Frag} {mg : Str → Option Value} {x f1 f2 x1 x2 qual : Str} {C fI cc cda : Addr} {is : Stmt} {oc dc pm ct cl ccl : Value} {od an cld cdd : Option Addr} {osl csl ccs : Array (Option Value)} {vs : Array Value} {file : Str} {tf : Tok}
theorem exc2_mk (R : XRaw K C) (t : XTop K) (m : mg x = some (.ref C)) (ini : PySem.W.findIn K (.ref C) "__init__" = some (some (.ref fI))) (ty : PySem.W.typeIn K (.ref fI) = some (.type "function"))
    (lk : K.lookup fI = some ⟨oc, od, .func (PySem.W.ksFn "__init__" qual (defArgs is) (defBody is) (defScope is) .none .none dc pm an (.ref cda) ct cc), osl⟩) (code : PySem.W.codeIn K (.ref cda) qual = true)
    (lc : K.lookup cda = some ⟨ccl, cdd, .fields vs, ccs⟩) (hv : vs[2]? = some (.str file tf)) (hfile : ((P.main.file : Str) == file) = true) (cell : K.lookup cc = some ⟨cl, cld, .cell (some (.ref C)), csl⟩) (ns : mg "super" = none)
    (n1 : PySem.W.findIn K (.ref C) f1 = some none) (n2 : PySem.W.findIn K (.ref C) f2 = some none) (top : (P.main.scope.names.lookup ("super" : Str)).isSome = false)
    {p0 p1 p2 p3 p4 q1 q2 a1 a2 b1 b2 c1 c2 d1 d2 : Pos}
    (hB : defBody is = [.Expr (.Call (.Attribute (.Call (.Name "super" p0) [] [] p1) "__init__" p2) [.Name x1 q1, .Name x2 q2] [] p3) p4, .Assign [.Attribute (.Name "self" a1) f1 b1] (.Name x1 c1) d1, .Assign [.Attribute (.Name "self" a2) f2 b2] (.Name x2 c2) d2])
    (hse : ∀ env : Env, swapsWith (.Call (.Attribute (.Call (.Name "super" p0) [] [] p1) "__init__" p2) [.Name x1 q1, .Name x2 q2] [] p3) none p4.line env = pure false)
    (pl : Env → Sem Bool) (hcE : ∀ env : Env, eval (.Call (.Attribute (.Call (.Name "super" p0) [] [] p1) "__init__" p2) [.Name x1 q1, .Name x2 q2] [] p3) env = (do
      let ov ← attributeBase (.Call (.Name "super" p0) [] [] p1) "__init__" env (eval (.Call (.Name "super" p0) [] [] p1) env)
      standAt p2.atName
      let (f, first) ← holding [ov] (getMethod ov "__init__" (pl env))
      callWith p3 f first (backTo p3 (starEach [.Name x1 q1, .Name x2 q2] env)) []))
    (har : ∃ ar, ((defArgs is).posonlyargs ++ (defArgs is).args).head? = some ar ∧ ar.arg = "self")
    (bind : ∀ us : List Value, us.length = 3 → bindArgs (PySem.W.ksFn "__init__" qual (defArgs is) (defBody is) (defScope is) .none .none dc pm an (.ref cda) ct cc) ⟨us, []⟩ = pure ((["self", x1, x2] : List Str).zip us))
    (kind : (defScope is).kind = .function) (co : (defScope is).isCoroutine = false) (gen : (defScope is).isGenerator = false) (loc : ∀ y ∈ (["self", x1, x2] : List Str), (defScope is).names.lookup y = some .local) (nocell : ∀ y ∈ (defScope is).names, y.2 ≠ .cell) (free : ∀ y ∈ (defScope is).names, y.2 = .free → y.1 = "__class__")
    (ks : (defScope is).names.lookup ("super" : Str) = some .globalImplicit) (kc : (defScope is).names.lookup ("__class__" : Str) = some .free) (nd : (["self", x1, x2] : List Str).Nodup)
    (hx1 : (x1 == ("__debug__" : Str)) = false ∧ (x1 == ("__classdict__" : Str)) = false) (hx2 : (x2 == ("__debug__" : Str)) = false ∧ (x2 == ("__classdict__" : Str)) = false) : Exc2 P w K mg x f1 f2 := by
  refine ⟨C, fI, PySem.W.ksFn "__init__" qual (defArgs is) (defBody is) (defScope is) .none .none dc pm an (.ref cda) ct cc, ["self", x1, x2], fun X e1 e2 e3 e4 => ?_⟩
  subst e1; subst e2; subst e3; subst e4
  have D : InitAt X.K X.mg X.prog ["self", x1, x2] qual (defScope is) fI cc (PySem.W.ksFn "__init__" qual (defArgs is) (defBody is) (defScope is) .none .none dc pm an (.ref cda) ct cc) (.ref cda) C := by
    obtain ⟨ar, h1, h2⟩ := har
    exact ⟨⟨_, _, _, lk⟩, ⟨_, _, _, _, _, _, _, _, rfl, ar, h1, by rw [h2]; rfl⟩, code, ⟨cda, _, _, vs, _, file, tf, rfl, lc, hv, hfile⟩, ⟨_, _, _, cell⟩, ns, kind, co, gen, loc, nocell, free, ks, kc, nd, top⟩
  refine ⟨R.at_ t m, ini, ty, ?_, .all fun us h => bind us h⟩
  exact fn_init2 D (R.at_ t m) (by rw [hB]) hse pl hcE har n1 n2 hx1 hx2
end
end Pv
set_option Elab.async false
set_option linter.all false
set_option maxRecDepth 100000
set_option maxHeartbeats 1000000
set_option pp.maxSteps 400
namespace Pv
open PySem PySem.Spec L2 LamX
open PyProof.Rows hiding St
def perm (ix : List Nat) {α : Type} (l : List α) : List α := ix.filterMap fun i => l[i]?
theorem perm_len {α : Type} {n : Nat} (l : List α) (h : l.length = n) : ∀ ix : List Nat, (∀ i ∈ ix, i < n) → (perm ix l).length = ix.length
  | [], _ => rfl
  | i :: ix, hi => by
    have h1 : i < l.length := by rw [h]; exact hi i List.mem_cons_self
    have : perm (i :: ix) l = l[i] :: perm ix l := by unfold perm; rw [List.filterMap_cons, List.getElem?_eq_getElem h1]
    rw [this, List.length_cons, List.length_cons, perm_len l h ix fun j hj => hi j (List.mem_cons_of_mem _ hj)]
theorem perm_rep {K : PySem.W.Frag} {W : Wd} {vs : List V} {ds : List D} {n : Nat} (l : repL K W vs ds) (hl : vs.length = n) : ∀ ix : List Nat, (∀ i ∈ ix, i < n) → repL K W (perm ix vs) (perm ix ds)
  | [], _ => rfl
  | i :: ix, hi => by
    have h1 : i < vs.length := by rw [hl]; exact hi i List.mem_cons_self
    have h2 : i < ds.length := by rw [← repL_length l]; exact h1
    obtain ⟨v, a, b⟩ := repL_get i l (List.getElem?_eq_getElem h2)
    have e1 : perm (i :: ix) vs = v :: perm ix vs := by unfold perm; rw [List.filterMap_cons, a]
    have e2 : perm (i :: ix) ds = ds[i] :: perm ix ds := by unfold perm; rw [List.filterMap_cons, List.getElem?_eq_getElem h2]
    rw [e1, e2]
    exact ⟨v, _, rfl, b, perm_rep l hl ix fun j hj => hi j (List.mem_cons_of_mem _ hj)⟩
theorem vals_get : ∀ {vs : List V} {us : List Value} (i : Nat), Vals vs us → i < vs.length → ∃ v u, vs[i]? = some v ∧ us[i]? = some u ∧ RelV v u
  | _, _, i, .nil, h => by simp at h
  | _, _, 0, .cons r _, _ => ⟨_, _, rfl, rfl, r⟩
  | _, _, i + 1, .cons _ r, h => by
    obtain ⟨v, u, a, b, c⟩ := vals_get i r (by simpa using h)
    exact ⟨v, u, by simpa using a, by simpa using b, c⟩
theorem perm_rel {vs : List V} {us : List Value} {n : Nat} (r : Vals vs us) (hl : vs.length = n) : ∀ ix : List Nat, (∀ i ∈ ix, i < n) → Vals (perm ix vs) (perm ix us)
  | [], _ => .nil
  | i :: ix, hi => by
    obtain ⟨v, u, a, b, c⟩ := vals_get i r (by rw [hl]; exact hi i List.mem_cons_self)
    have e1 : perm (i :: ix) vs = v :: perm ix vs := by unfold perm; rw [List.filterMap_cons, a]
    have e2 : perm (i :: ix) us = u :: perm ix us := by unfold perm; rw [List.filterMap_cons, b]
    rw [e1, e2]
    exact .cons c (perm_rel r hl ix fun j hj => hi j (List.mem_cons_of_mem _ hj))
theorem bk_perm {K : PySem.W.Frag} {x qual : Str} {st : Stmt} {f : Addr} {fd : FuncData} {ps ks : List Str} (ix : List Nat) (F : Fun K x qual st f fd) (hp : ps.length = ix.length) (hi : ∀ i ∈ ix, i < ks.length)
    (h : ∀ (kV doc pm : Value) (an : Option Addr) (cdv ct : Value) (ws : List Value), ws.length = ks.length → bindArgs (PySem.W.fnOf x qual (defArgs st) (defBody st) (defScope st) .none kV doc pm an cdv ct) ⟨[], ks.zip ws⟩ = pure (ps.zip (perm ix ws))) : BindsK K fd ps ks (perm ix) := by
  obtain ⟨oc, od, kV, doc, pm, an, cdv, ct, osl, rfl, lk, hcd⟩ := F.ex
  exact ⟨fun s ws _ hl => .of_eq (h kV doc pm an cdv ct ws hl), fun l hl => perm_rep l hl ix hi, fun r hl => perm_rel r hl ix hi, fun l => (perm_len _ l ix hi).trans hp.symm⟩
/-- what an except clause of the class C takes -/
def ExmAt (K : PySem.W.Frag) (mg : Str → Option Value) (C : Str) (cs : List Str) : Prop := ∃ CS, mg C = some (.ref CS) ∧ ∀ c ∈ cs, ∀ D, mg c = some (.ref D) → PySem.W.exmOne K (.ref D) (.ref CS) = some true
theorem isE_mk {K : PySem.W.Frag} {mg : Str → Option Value} {c y : Str} {C Y : Addr} {b : Bool} (R : XRaw K C) (t : XTop K) (m : mg c = some (.ref C)) (m2 : mg y = some (.ref Y)) (h : YRaw K Y) (s : PySem.W.subIn K (.ref C) (.ref Y) = some b) (self : PySem.W.subIn K (.ref C) (.ref C) = some true) : IsE K mg c y b :=
  ⟨C, Y, m, m2, R.exc t, h.kit s fun e => by subst e; rw [self] at s; exact (Option.some.inj s).symm⟩
theorem isEb_mk {K : PySem.W.Frag} {mg : Str → Option Value} {c : Str} {T : String} {C : Addr} {b : Bool} (R : XRaw K C) (t : XTop K) (m : mg c = some (.ref C)) (k : PySem.W.kitMeta T = true) (s : PySem.W.subIn K (.ref C) (.type T) = some b) : IsEb K mg c T b := ⟨C, m, R.exc t, kit_T k s⟩
theorem fldE_mk {K : PySem.W.Frag} {mg : Str → Option Value} {c f : Str} {C : Addr} (R : XRaw K C) (m : mg c = some (.ref C)) (n : PySem.W.findIn K (.ref C) f = some none) : FldE K mg c f := ⟨C, m, R.xf, n⟩
end Pv
namespace Pv
open PySem PySem.Spec L2 LamX
open PyProof.Rows hiding St
def DefB (K : PySem.W.Frag) (mg : Str → Option Value) (x : Str) (st : Stmt) (ps : List Str) (B : FuncData → Prop) : Prop := ∃ f fd, Fun K x x st f fd ∧ mg x = some (.ref f) ∧ Binds K fd ps [] ∧ B fd
def DefC (K : PySem.W.Frag) (mg : Str → Option Value) (x : Str) (st : Stmt) (ps : List Str) (c : Addr) (B : FuncData → Prop) : Prop := ∃ f fd, FunCd K x x st f fd (.ref c) ∧ PySem.W.keepIn K (.ref f) = true ∧ mg x = some (.ref f) ∧ Binds K fd ps [] ∧ B fd
def HasB (P : Program) (w : World) (K : PySem.W.Frag) (mg : Str → Option Value) (base : Heap) (k : Nat) (x : Str) (ps : List Str) (F : Fn) (B : FuncData → Prop) : Prop := ∃ f fd, Df P w K mg base k x f fd ps F ∧ B fd
def tbL (l : List Addr) (j : Nat) : Addr := l.getD j 0
end Pv
set_option Elab.async false
set_option linter.all false
set_option maxRecDepth 100000
set_option maxHeartbeats 1000000
set_option pp.maxSteps 400
namespace Pv
open PySem PySem.Spec L2 LamX
open PyProof.Rows hiding St
section
variable {sl : Sl} {st : Sto} {d x y : Pv.D} {i : Nat} {a b c : M} {t u : MT} {ms : Ms}
@[simp] theorem e_onE {p q : Nat} {z : Str} {f : List D → List D → Option D} : mOnE p q z f a sl st = (a sl st).bind fun d st => lift (onE p q z f d) st := rfl
@[simp] theorem e_cnt : mCnt a b sl st = (a sl st).bind fun o st => if isLstD st o = true then (b sl st).bind fun d st => fCnt o d st else .bad := rfl
@[simp] theorem e_max1 : mMax1 a sl st = (a sl st).bind fun x st => onD1 dMax1 x st := rfl
@[simp] theorem e_min1 : mMin1 a sl st = (a sl st).bind fun x st => onD1 dMin1 x st := rfl
@[simp] theorem e_sum1 : mSum1 a sl st = (a sl st).bind fun x st => onD1 dSum1 x st := rfl
@[simp] theorem e_maxDf : mMaxDf a b sl st = (a sl st).bind fun x st => (b sl st).bind fun y st => fMaxDf x y st := rfl
@[simp] theorem e_get1 : mGet1 a b sl st = (a sl st).bind fun o st => if isDct st o = true then (b sl st).bind fun y st => fGet o y .none st else .bad := rfl
@[simp] theorem e_get2 : mGet2 a b c sl st = (a sl st).bind fun o st => if isDct st o = true then (b sl st).bind fun y st => (c sl st).bind fun z st => fGet o y z st else .bad := rfl
@[simp] theorem e_newK : mNewK sl st = .ok (Rf st.length) (st ++ [.dct []]) := rfl
@[simp] theorem e_newT : mNewT sl st = .ok (Rf st.length) (st ++ [.dctT []]) := rfl
@[simp] theorem e_said {P : Addr} {q : Str} {f : R D → R D} : mSaid P q f a sl st = if tbOk st P q = true then okOnly (f (a sl st)) else .bad := rfl
@[simp] theorem e_raise {z : Str} {fs : List Str} : sRaise z fs ms sl st = (ms sl st).thenS fun ds st => excOf z fs ds st := rfl
@[simp] theorem okOnly_ok : okOnly (.ok d st) = .ok d st := rfl
@[simp] theorem onE_Ec {p q : Nat} {z : Str} {f : List D → List D → Option D} {ns fs : List D} : onE p q z f (Ec p q z ns fs) = f ns fs := by simp [onE, Ec]
end
theorem sz_le {n : Nat} (h : n ≤ 1000) : n ≤ sizeLine := Nat.le_trans h (by decide)
theorem sz_lt {n : Nat} (h : n ≤ 1000) : n < sizeLine := Nat.lt_of_le_of_lt h (by decide)
def StC (st : Sto) : Prop := ∀ g, fzS g st = some st
theorem StC.nil : StC [] := fun _ => rfl
theorem StC.cons {m : MO} {st : Sto} (h : ∀ g, fzO g m = some m) (t : StC st) : StC (m :: st) := fun g => by
  show (fzO g m).bind (fun e => (fzS g st).map (e :: ·)) = _
  rw [h g, t g]; rfl
theorem StC.tb {P : Addr} {q : Str} {st : Sto} (t : StC st) : StC (.tb P q :: st) := t.cons fun _ => rfl
theorem fin_app {st more : Sto} {d : Pv.D} (h : StC st) (hd : d.canLay0 = true) : finR st.length (.ok d (st ++ more)) = .ok d st := by
  unfold finR
  by_cases hm : (st ++ more).length = st.length
  · have : more = [] := by
      rw [List.length_append] at hm
      exact List.length_eq_zero_iff.mp (by omega)
    subst this
    simp
  · simp only [if_neg hm]
    rw [fz_clean d hd, List.take_append_of_le_length (Nat.le_refl _), List.take_length, h]
end Pv
set_option Elab.async false
set_option linter.all false
set_option maxRecDepth 100000
set_option maxHeartbeats 1000000
set_option pp.maxSteps 400
namespace Pv
open PySem PySem.Spec L2 LamX
open PyProof.Rows hiding St signs cutD
theorem fzP_clean {κ : Type} {g : Nat → Option D} : ∀ kvs : List (κ × D), (∀ p ∈ kvs, p.2.canLay0 = true) → fzP g kvs = some kvs
  | [], _ => rfl
  | p :: ps, h => by
    unfold fzP
    rw [fz_clean p.2 (h p List.mem_cons_self), fzP_clean ps fun q hq => h q (List.mem_cons_of_mem _ hq)]; rfl
theorem fzS_app {g : Nat → Option D} : ∀ {st : Sto} {m : MO}, fzS g st = some st → fzO g m = some m → fzS g (st ++ [m]) = some (st ++ [m])
  | [], m, _, h => by show (fzO g m).bind (fun e => (fzS g []).map (e :: ·)) = _; rw [h]; rfl
  | a :: st, m, hs, h => by
    have hs' : (fzO g a).bind (fun e => (fzS g st).map (e :: ·)) = some (a :: st) := hs
    obtain ⟨e, h1, h2⟩ := Option.bind_eq_some_iff.mp hs'
    obtain ⟨es, h3, h4⟩ := Option.map_eq_some_iff.mp h2
    cases h4
    show (fzO g a).bind (fun e => (fzS g (st ++ [m])).map (e :: ·)) = _
    rw [h1, fzS_app h3 h]; rfl
theorem StC.app {st : Sto} {m : MO} (t : StC st) (h : ∀ g, fzO g m = some m) : StC (st ++ [m]) := fun g => fzS_app (t g) (h g)
theorem StC.dct {st : Sto} {kvs : List (Key × D)} (t : StC st) (h : ∀ p ∈ kvs, p.2.canLay0 = true) : StC (st ++ [.dct kvs]) := t.app fun g => by
  show (fzP g kvs).map MO.dct = _
  rw [fzP_clean kvs h]; rfl
theorem StC.dctT {st : Sto} {kvs : List (List Key × D)} (t : StC st) (h : ∀ p ∈ kvs, p.2.canLay0 = true) : StC (st ++ [.dctT kvs]) := t.app fun g => by
  show (fzP g kvs).map MO.dctT = _
  rw [fzP_clean kvs h]; rfl
theorem StC.lst {st : Sto} {ds : List D} (t : StC st) (h : PyData.canLayAll0 ds = true) : StC (st ++ [.lst ds]) := t.app fun g => by
  show (fzL g ds).map MO.lst = _
  rw [fzL_clean ds h]; rfl
theorem fin_exc {st more : Sto} {x : XV} (h : StC st) (hd : ∀ p ∈ x.2, p.2.canLay0 = true) : finR st.length (.exc x (st ++ more)) = .exc x st := by
  unfold finR
  by_cases hm : (st ++ more).length = st.length
  · have : more = [] := by
      rw [List.length_append] at hm
      exact List.length_eq_zero_iff.mp (by omega)
    subst this
    simp
  · simp only [if_neg hm]
    rw [fzP_clean x.2 hd, List.take_append_of_le_length (Nat.le_refl _), List.take_length, h]
theorem cut_to {ds : List D} {j : Nat} : cutD ds none (some (j : Int)) = ds.take j := by
  unfold cutD
  rw [HT.sIx_none, HT.sIx_nat, List.drop_zero, Nat.sub_zero]
  by_cases h : j ≤ ds.length
  · rw [Nat.min_eq_left h]
  · rw [Nat.min_eq_right (by omega), List.take_length, List.take_of_length_le (by omega)]
theorem cut_from {ds : List D} {j : Nat} : cutD ds (some (j : Int)) none = ds.drop j := by
  unfold cutD
  rw [HT.sIx_none, HT.sIx_nat]
  by_cases h : j ≤ ds.length
  · rw [Nat.min_eq_left h, List.take_of_length_le (by rw [List.length_drop]; omega)]
  · rw [Nat.min_eq_right (by omega), Nat.sub_self, List.take_zero, List.drop_of_length_le (by omega)]
theorem cut_mid {ds : List D} {i j : Nat} (h : i ≤ ds.length) : cutD ds (some (i : Int)) (some (j : Int)) = (ds.drop i).take (j - i) := by
  unfold cutD
  rw [HT.sIx_nat, HT.sIx_nat, Nat.min_eq_left h]
  by_cases h2 : j ≤ ds.length
  · rw [Nat.min_eq_left h2]
  · rw [Nat.min_eq_right (by omega), List.take_of_length_le (by rw [List.length_drop]; omega), List.take_of_length_le (by rw [List.length_drop]; omega)]
end Pv
set_option Elab.async false
set_option linter.all false
set_option maxRecDepth 100000
set_option maxHeartbeats 1000000
set_option pp.maxSteps 400
namespace Pv
open PySem PySem.Spec L2 LamX
open PyProof.Rows hiding St signs
structure Host where
  n : Str
  s : Int
  f : Int
  r : Int
deriving DecidableEq
structure Net where
  hosts : List Host
  roads : List (Str × Str × Int)
  most : Option Int
  rule : Str
structure Ev where
  h : Str
  t : Int
  r : Int
  l : Option Nat
deriving DecidableEq
abbrev Stamp := Int × Int
def dHost (x : Host) : D := .tuple [.str x.n, .int x.s, .int x.f, .int x.r]
def dRoad (x : Str × Str × Int) : D := .tuple [.str x.1, .str x.2.1, .int x.2.2]
def dOpt : Option Int → D
  | none => .none
  | some i => .int i
def dNet (n : Net) : D := .tuple [.tuple (n.hosts.map dHost), .tuple (n.roads.map dRoad), dOpt n.most, .str n.rule]
def dLet : Option Nat → D
  | none => .none
  | some l => .int (l : Int)
def dEv (e : Ev) : D := .tuple [.str e.h, .int e.t, .int e.r, dLet e.l]
def dStamp (s : Stamp) : D := .tuple [.int s.1, .int s.2]
def hasH (n : Net) (h : Str) : Bool := n.hosts.any fun x => x.n == h
/-- an event of the cluster, read -/
def evOf (n : Net) : D → Option Ev
  | .tuple [.str h, .int t, .int r, l] => if hasH n h = true then (match l with
    | .none => some ⟨h, t, r, none⟩
    | .int i => if 0 ≤ i then some ⟨h, t, r, some i.toNat⟩ else none
    | _ => none) else none
  | _ => none
def clk (n : Net) (h : Str) : Option Host := n.hosts.reverse.find? fun x => x.n == h
def leastOf (n : Net) (a b : Str) : Option Int := (n.roads.reverse.find? fun x => x.1 == a && x.2.1 == b).map (·.2.2)
def pl (n : Net) (run : List Ev) (e : Ev) (l : Nat) : Bool := match run[l]? with
  | none => false
  | some p => match leastOf n p.h e.h with
    | none => false
    | some k => decide (k ≤ e.t - p.t)
def late (run : List Ev) (e : Ev) : Bool := match run.getLast? with
  | some p => decide (e.t < p.t)
  | none => false
def same2 (e : Ev) (p : Ev) : Bool := p.h == e.h && decide (p.t = e.t)
/-- what is wrong with the next event -/
def ff (n : Net) (run : List Ev) (d : D) : Option Str := match evOf n d with
  | none => some "event"
  | some e => match clk n e.h with
    | none => some "event"
    | some c =>
      if late run e = true then some "order"
      else if c.r ≤ ((run.filter (same2 e)).length : Int) then some "rate"
      else if ¬ (e.t - c.s ≤ e.r ∧ e.r ≤ e.t + c.f) then some "reading"
      else match e.l with
        | none => none
        | some l => if pl n run e l = true then none else some "letter"
def mark (ks : List Stamp) (rd : Int) : Int := (maxI (ks.map (·.1))).getD (rd - 1)
def known (last heard : Option Stamp) : List Stamp := last.toList ++ heard.toList
/-- the next stamp -/
def nst (n : Net) (last heard : Option Stamp) (rd : Int) : Option Stamp :=
  let ks := known last heard
  let m := mark ks rd
  if m < rd then some (rd, 0) else
    let c := 1 + (maxI ((ks.filter fun s => decide (s.1 = m)).map (·.2))).getD 0
    if (match n.most with | none => true | some k => decide (c ≤ k)) = true then some (m, c) else if n.rule == "more" then some (m + 1, 0) else none
/-- the first thing wrong with a run -/
def rfL (n : Net) : List D → List Ev → (Str → Option Stamp) → List Stamp → Option (Str × Nat)
  | [], _, _, _ => none
  | d :: ds, run, lat, sts => match ff n run d, evOf n d with
    | some w, _ => some (w, run.length)
    | none, none => some ("event", run.length)
    | none, some e => match nst n (lat e.h) (e.l.bind fun l => sts[l]?) e.r with
      | none => some ("full", run.length)
      | some s => rfL n ds (run ++ [e]) (fun x => if x = e.h then some s else lat x) (sts ++ [s])
def rf (n : Net) (ds : List D) : Option (Str × Nat) := rfL n ds [] (fun _ => none) []
structure NetOk (n : Net) : Prop where
  hl : n.hosts.length ≤ 1000
  rl : n.roads.length ≤ 1000
  hn : ∀ x ∈ n.hosts, x.n.length ≤ 1000 ∧ (PyData.str x.n).canLay0 = true
  rn : ∀ x ∈ n.roads, (PyData.str x.1).canLay0 = true ∧ (PyData.str x.2.1).canLay0 = true
end Pv
set_option Elab.async false
set_option linter.all false
set_option maxRecDepth 100000
set_option maxHeartbeats 1000000
set_option pp.maxSteps 1500
namespace Pv
open PySem PySem.Spec L2
open PyProof.Rows hiding St signs cutD
section
variable {st : Sto}
theorem deref_last (st : Sto) (xs : List Pv.D) : deref (st ++ [.lst xs]) (Rf st.length) = .list xs := by
  rw [deref_ref]; simp
theorem isLst_last (st : Sto) (xs : List Pv.D) : isLst (st ++ [.lst xs]) (Rf st.length) = true := by
  unfold isLst; simp
theorem app_last (st : Sto) (xs : List Pv.D) (d : Pv.D) (h : xs.length ≤ 1000) : fApp (Rf st.length) d (st ++ [.lst xs]) = .ok .none (st ++ [.lst (xs ++ [d])]) := by
  unfold fApp
  simp only [Int.toNat_natCast]
  rw [List.getElem?_append_right (Nat.le_refl _)]
  simp only [Nat.sub_self, List.getElem?_cons_zero]
  rw [if_pos (sz_lt h), List.set_append_right _ _ (Nat.le_refl _)]
  simp
theorem repr_last (st : Sto) (xs : List Pv.D) : reprD (st ++ [.lst xs]) (Rf st.length) = reprD (st ++ [.lst xs]) (.list xs) := by
  unfold reprD; rw [deref_last]; rfl
theorem forL_nil {tg : MG} {body : MS} {fg : List Nat} {sl : Sl} : forL always tg body fg [] sl st = .nx sl st := by unfold forL; rw [if_pos (by trivial)]
theorem forL_cons {tg : MG} {body : MS} {fg : List Nat} {sl : Sl} {d : Pv.D} {ds : List Pv.D} : forL always tg body fg (d :: ds) sl st = (match (tg d sl st).thenS body with
    | .nx sl st => forL always tg body fg ds (wipeD sl fg) st
    | .ct sl st => forL always tg body fg ds (wipeD sl fg) st
    | .bk sl st => .nx (wipeD sl fg) st
    | r => r) := by
  conv => lhs; unfold forL; rw [if_pos (show always st from trivial)]
  try rfl
theorem wtL_le {ds : List Pv.D} {m : Nat} (h : ∀ d ∈ ds, wt d ≤ m) : wtL ds ≤ (m + 4) * ds.length := by
  induction ds with
  | nil => exact Nat.zero_le _
  | cons d ds ih =>
    have h1 := h d List.mem_cons_self
    have h2 := ih fun x hx => h x (List.mem_cons_of_mem _ hx)
    unfold wtL
    rw [List.length_cons, Nat.mul_succ]
    omega
end
section
variable {α : Type} {keep : Sto → Prop} [DecidablePred keep] {t : CT} {tt : MT} {te : M} {mi : MI} {vs : List Nat} {sl : Sl} {st : Sto}
theorem lcL_at (g f : α → Pv.D) (p : α → Bool) (hk : keep st) : ∀ {xs : List α},
    (∀ x ∈ xs, ∃ sl2, ctSet t (g x) sl = some sl2 ∧ tt sl2 st = .ok (p x) st ∧ (p x = true → te sl2 st = .ok (f x) st)) → lcL keep t tt te sl (xs.map g) st = .ok ((xs.filter p).map f) st
  | [], _ => by rw [List.map_nil]; unfold lcL; rw [if_pos hk]; rfl
  | x :: xs, h => by
    obtain ⟨sl2, h1, h2, h3⟩ := h x List.mem_cons_self
    have ih := lcL_at g f p hk (xs := xs) fun y hy => h y (List.mem_cons_of_mem _ hy)
    rw [List.map_cons]
    unfold lcL
    rw [if_pos hk, h1]
    simp only [h2]
    cases hp : p x with
    | true => simp only [h3 hp, ih, List.filter_cons, hp, if_true, List.map_cons]
    | false => simp [ih, List.filter_cons, hp]
end
end Pv
set_option Elab.async false
set_option linter.all false
set_option maxRecDepth 100000
set_option maxHeartbeats 1000000
set_option pp.maxSteps 1500
namespace Pv
open PySem PySem.Spec L2
open PyProof.Rows hiding St signs cutD
section
variable {st : Sto} {n : Net}
abbrev Cl (x : Pv.D) : Prop := Ok x (2 ^ 24) 60
def lsKey : D → List Key | .tuple [.str x, .str y, _] => [.inr x, .inr y] | _ => []
def lsVal : D → D | .tuple [_, _, z] => z | d => d
def lsD (n : Net) : List (List Key × Pv.D) := (n.roads.map dRoad).foldl (fun a d => putD a (lsKey d) (lsVal d)) []
/-- the run's events are the cluster's -/
def Own (n : Net) (run : List Ev) : Prop := ∀ p ∈ run, hasH n p.h = true
/-- the slots while the run is read -/
def sl0 (n : Net) (all : List Pv.D) (st : Sto) : Sl := [some (dNet n), some (.tuple all), some (Rf st.length), some (Rf (st.length + 1)), none, none, none, none, none, none, none, none, none]
structure Inv (n : Net) (run : List Ev) (latF : Str → Option Stamp) (sts : List Stamp) (lat : List (Key × Pv.D)) : Prop where
  own : Own n run
  look : ∀ h, lookD lat (.inr h) = (latF h).map dStamp
  clean : ∀ p ∈ lat, p.2.canLay0 = true
  len : sts.length = run.length
  size : lat.length ≤ run.length
end
end Pv
set_option Elab.async false
set_option linter.all false
set_option maxRecDepth 100000
set_option maxHeartbeats 1000000
set_option pp.maxSteps 1500
namespace Pv
open PySem PySem.Spec L2
open PyProof.Rows hiding St signs cutD
section
variable {st : Sto} {n : Net}
def stL (n : Net) : List Ev → (Str → Option Stamp) → List Stamp → List (Option Stamp)
  | [], _, acc => acc.map some
  | e :: es, lat, acc => match nst n (lat e.h) (e.l.bind fun l => acc[l]?) e.r with
    | none => acc.map some ++ [none]
    | some s => stL n es (fun x => if x = e.h then some s else lat x) (acc ++ [s])
/-- the stamps of a run -/
def stp (n : Net) (run : List Ev) : List (Option Stamp) := stL n run (fun _ => none) []
/-- letters come of former events -/
def letB : Nat → List Ev → Bool
  | _, [] => true
  | k, e :: es => (match e.l with | none => true | some l => decide (l < k)) && letB (k + 1) es
@[simp] theorem fin_excN {x : XV} {st : Sto} : finR st.length (.exc x st) = .exc x st := by unfold finR; simp
theorem cl_int {i : Int} (h : i.natAbs < 10 ^ 62) : Cl (.int i) := ⟨rfl, by unfold Pv.wt; rw [if_pos h]; decide, Nat.zero_le _⟩
end
end Pv
namespace Pv
open PySem PySem.Spec L2
open PyProof.Rows hiding St signs cutD
theorem inR_nat {k : Nat} (h : k ≤ 100000) : inR62 (k : Int) = true := decide_eq_true ⟨by omega, by omega⟩
theorem mrng1_f {a : M} {sl : Sl} {st st1 : Sto} {x : D} (h1 : a sl st = .ok x st1) : mRng1 a sl st = fRng1 x st1 := by unfold mRng1; rw [h1]; rfl
theorem frng1_n {k : Nat} (hk : k ≤ 100000) (st : Sto) : fRng1 (.int (k : Int)) st = .ok ⟨rngD 0 k, always⟩ st := by
  have e := inR_nat hk
  show (if inR62 (k : Int) = true then R.ok (Src.mk (rngD 0 (k : Int).toNat) always) st else .bad) = _
  rw [if_pos e]
  rfl
theorem rng1_eq {a : M} {sl : Sl} {st st' : Sto} {k : Nat} (h : a sl st = .ok (.int (k : Int)) st') (hk : k ≤ 100000) : mRng1 a sl st = .ok ⟨rngD 0 k, always⟩ st' := (mrng1_f h).trans (frng1_n hk st')
end Pv
set_option Elab.async false
set_option linter.all false
set_option maxRecDepth 100000
set_option maxHeartbeats 1000000
set_option pp.maxSteps 1500
namespace Pv
open PySem PySem.Spec L2
open PyProof.Rows hiding St signs cutD pairD
theorem Ok.tup {ds : List D} {m k c : Nat} (h : ∀ d ∈ ds, Ok d m k) (hc : ds.length ≤ c) : Ok (.tuple ds) ((m + 4) * c + 4) (k + 1) := by
  refine ⟨(layAll_iff _).mpr fun d hd => (h d hd).lay, ?_, ?_⟩
  · have h1 : wtL ds ≤ (m + 4) * ds.length := wtL_le fun d hd => (h d hd).wt
    have h2 : (m + 4) * ds.length ≤ (m + 4) * c := Nat.mul_le_mul_left _ hc
    show wtL ds + 4 ≤ _
    omega
  · show PyData.depthAll ds + 1 ≤ k + 1
    have := (depthAll_le ds k).mpr fun d hd => (h d hd).dp
    omega
theorem Ok.lst {ds : List D} {m k c : Nat} (h : ∀ d ∈ ds, Ok d m k) (hc : ds.length ≤ c) : Ok (.list ds) ((m + 4) * c + 4) (k + 1) := by
  refine ⟨(layAll_iff _).mpr fun d hd => (h d hd).lay, ?_, ?_⟩
  · have h1 : wtL ds ≤ (m + 4) * ds.length := wtL_le fun d hd => (h d hd).wt
    have h2 : (m + 4) * ds.length ≤ (m + 4) * c := Nat.mul_le_mul_left _ hc
    show wtL ds + 4 ≤ _
    omega
  · show PyData.depthAll ds + 1 ≤ k + 1
    have := (depthAll_le ds k).mpr fun d hd => (h d hd).dp
    omega
theorem ok_int {i : Int} (h : i.natAbs < 10 ^ 62) : Ok (.int i) 64 0 := ⟨rfl, by unfold Pv.wt; rw [if_pos h]; exact Nat.le_refl _, Nat.le_refl _⟩
theorem ok_str {z : Str} {c : Nat} (h : (PyData.str z).canLay0 = true) (hz : z.length ≤ c) : Ok (.str z) (10 * c + 4) 0 := ⟨h, by show 10 * z.length + 4 ≤ _; omega, Nat.le_refl _⟩
theorem ok_none : Ok .none 64 0 := ⟨rfl, by decide, Nat.le_refl _⟩
structure EvS (e : Ev) : Prop where
  lay : (PyData.str e.h).canLay0 = true
  hl : e.h.length ≤ 20
  t : e.t.natAbs < 10 ^ 60
  r : e.r.natAbs < 10 ^ 60
  l : ∀ l, e.l = some l → l < 10 ^ 60
theorem EvS.ok {e : Ev} (h : EvS e) : Ok (dEv e) 600 1 := by
  have hl : Ok (dLet e.l) 64 0 := by
    cases hq : e.l with
    | none => exact ok_none
    | some l => have := h.l l hq; exact ok_int (by omega)
  have h1 := ok_str h.lay h.hl
  have := Ok.tup (ds := [.str e.h, .int e.t, .int e.r, dLet e.l]) (m := 140 + 64) (k := 0) (c := 4) (fun d hd => by
    simp only [List.mem_cons, List.not_mem_nil, or_false] at hd
    rcases hd with rfl | rfl | rfl | rfl
    · exact h1.mono (by decide) (Nat.le_refl _)
    · exact (ok_int (by have := h.t; omega)).mono (by decide) (Nat.le_refl _)
    · exact (ok_int (by have := h.r; omega)).mono (by decide) (Nat.le_refl _)
    · exact hl.mono (by decide) (Nat.le_refl _)) (Nat.le_refl _)
  refine ⟨this.lay, ?_, this.dp⟩
  show wtL [.str e.h, .int e.t, .int e.r, dLet e.l] + 4 ≤ 600
  have a1 := h1.wt
  have a2 := (ok_int (i := e.t) (by have := h.t; omega)).wt
  have a3 := (ok_int (i := e.r) (by have := h.r; omega)).wt
  have a4 := hl.wt
  simp only [wtL]
  omega
end Pv
set_option Elab.async false
set_option linter.all false
set_option maxRecDepth 100000
set_option maxHeartbeats 1000000
set_option pp.maxSteps 1500
namespace Pv
open PySem PySem.Spec L2
open PyProof.Rows hiding St signs cutD pairD
theorem rngD_eq (k : Nat) : rngD 0 k = (List.range k).map fun (j : Nat) => PyData.int (j : Int) := by
  unfold rngD
  apply List.map_congr_left
  intro j _
  rw [Int.zero_add]
theorem rngD_from (a n : Nat) : rngD (a : Int) n = (List.range' a n).map fun (j : Nat) => PyData.int (j : Int) := by
  unfold rngD
  rw [List.range'_eq_map_range, List.map_map]
  apply List.map_congr_left
  intro j _
  show PyData.int ((a : Int) + (j : Int)) = PyData.int ((a + j : Nat) : Int)
  rw [Int.natCast_add]
theorem mrng2_f {a b : M} {sl : Sl} {st st1 st2 : Sto} {x y : D} (h1 : a sl st = .ok x st1) (h2 : b sl st1 = .ok y st2) : mRng2 a b sl st = fRng2 x y st2 := by
  unfold mRng2; rw [h1]; show (b sl st1).bind _ = _; rw [h2]; rfl
theorem frng2_n {i j : Nat} (hi : i ≤ 100000) (hj : j ≤ 100000) (st : Sto) : fRng2 (.int (i : Int)) (.int (j : Int)) st = .ok ⟨rngD (i : Int) (j - i), always⟩ st := by
  have e1 := inR_nat hi
  have e2 := inR_nat hj
  show (if inR62 (i : Int) = true ∧ inR62 (j : Int) = true then R.ok (Src.mk (rngD (i : Int) ((j : Int) - (i : Int)).toNat) always) st else .bad) = _
  rw [if_pos ⟨e1, e2⟩, show ((j : Int) - (i : Int)).toNat = j - i by omega]
/-- range(a, b), as numbers -/
theorem rng2_at {a b : M} {sl : Sl} {st st1 st2 : Sto} {i j : Nat} (h1 : a sl st = .ok (.int (i : Int)) st1) (h2 : b sl st1 = .ok (.int (j : Int)) st2) (hi : i ≤ 100000) (hj : j ≤ 100000) : mRng2 a b sl st = .ok ⟨(List.range' i (j - i)).map fun (k : Nat) => PyData.int (k : Int), always⟩ st2 := by
  rw [mrng2_f h1 h2, frng2_n hi hj, rngD_from]
theorem rng1_at {a : M} {sl : Sl} {st st' : Sto} {k : Nat} (h : a sl st = .ok (.int (k : Int)) st') (hk : k ≤ 100000) : mRng1 a sl st = .ok ⟨(List.range k).map fun (j : Nat) => PyData.int (j : Int), always⟩ st' := by
  rw [rng1_eq h hk, rngD_eq]
end Pv
namespace Pv
open PySem PySem.Spec L2
open PyProof.Rows hiding St signs cutD pairD
end Pv
set_option Elab.async false
set_option linter.all false
set_option maxRecDepth 100000
set_option maxHeartbeats 1000000
set_option pp.maxSteps 1500
namespace Pv
open PySem PySem.Spec L2
open PyProof.Rows hiding St signs cutD pairD
structure HostD (x : Host) : Prop where
  s0 : 0 ≤ x.s
  s1 : x.s ≤ 60
  f0 : 0 ≤ x.f
  f1 : x.f ≤ 60
  r0 : 1 ≤ x.r
  r1 : x.r ≤ 4
abbrev Road := Str × Str × Int
structure RoadsD (ts : List Str) (k : Nat) (rs : List Road) : Prop where
  mem : ∀ r ∈ rs, r.1 ∈ ts.take k ∧ r.2.1 ∈ ts ∧ r.1 ≠ r.2.1 ∧ 0 ≤ r.2.2 ∧ r.2.2 ≤ 60
  nd : (rs.map fun r => (r.1, r.2.1)).Nodup
  len : rs.length ≤ 4 * k
def PoolOk (p : List Str) : Prop := p.length ≤ 4 ∧ p.Nodup ∧ ∀ x ∈ p, (PyData.str x).canLay0 = true ∧ x.length ≤ 8
structure NetD (n : Net) : Prop where
  ts : ∃ p, PoolOk p ∧ (n.hosts.map (·.n)).Sublist p
  ne : n.hosts ≠ []
  hosts : ∀ x ∈ n.hosts, HostD x
  roads : RoadsD (n.hosts.map (·.n)) n.hosts.length n.roads
  most : ∀ k, n.most = some k → 0 ≤ k ∧ k ≤ 2000
  rule : n.rule = "more" ∨ n.rule = "wait"
  none : n.most = none → n.rule = "wait"
theorem NetD.names {n : Net} (h : NetD n) : (n.hosts.map (·.n)).Nodup ∧ n.hosts.length ≤ 4 ∧ ∀ x ∈ n.hosts, (PyData.str x.n).canLay0 = true ∧ x.n.length ≤ 8 := by
  obtain ⟨p, hp, hs⟩ := h.ts
  obtain ⟨h1, h2, h3⟩ := hp
  refine ⟨h2.sublist hs, ?_, fun x hx => h3 _ (hs.subset (List.mem_map.mpr ⟨x, hx, rfl⟩))⟩
  have := hs.length_le
  rw [List.length_map] at this
  omega
theorem NetD.ok {n : Net} (h : NetD n) : NetOk n := by
  obtain ⟨h1, h2, h3⟩ := h.names
  have hm : ∀ a ∈ n.hosts.map (·.n), (PyData.str a).canLay0 = true := fun a ha => by
    obtain ⟨x, hx, rfl⟩ := List.mem_map.mp ha
    exact (h3 x hx).1
  refine ⟨by omega, by have := h.roads.len; omega, fun x hx => ⟨by have := (h3 x hx).2; omega, (h3 x hx).1⟩, fun r hr => ?_⟩
  obtain ⟨a, b, _⟩ := h.roads.mem r hr
  exact ⟨hm _ (List.mem_of_mem_take a), hm _ b⟩
end Pv
set_option Elab.async false
set_option linter.all false
set_option maxRecDepth 100000
set_option maxHeartbeats 1000000
set_option pp.maxSteps 1500
namespace Pv
open PySem PySem.Spec L2
open PyProof.Rows hiding St signs cutD pairD
def Valid (n : Net) (run : List Ev) : Prop := ∀ (i : Nat) (e : Ev), run[i]? = some e → ff n (run.take i) (dEv e) = none
theorem Valid.nil (n : Net) : Valid n [] := fun i e h => by simp at h
theorem hasH_mem {n : Net} {x : Host} (hx : x ∈ n.hosts) : hasH n x.n = true := List.any_eq_true.mpr ⟨x, hx, by simp⟩
end Pv
namespace Pv
open PySem PySem.Spec L2
open PyProof.Rows hiding St signs cutD pairD
/-- what a law's drawn run is, behind so many laps -/
structure LotI (n : Net) (run : List Ev) (ss : List Stamp) (tick : Int) (k : Nat) : Prop where
  st : stp n run = ss.map some
  len : run.length ≤ k
  let_ : letB 0 run = true
  valid : Valid n run
  tk : -1000 ≤ tick ∧ tick ≤ 1000 + 8 * k
  ev : ∀ e ∈ run, -1000 ≤ e.t ∧ e.t ≤ tick ∧ (∃ x ∈ n.hosts, e.h = x.n ∧ e.t - x.s ≤ e.r ∧ e.r ≤ e.t + x.f) ∧ ∀ l, e.l = some l → l < run.length
theorem LotI.has {n : Net} {run : List Ev} {ss : List Stamp} {tick : Int} {k : Nat} (h : LotI n run ss tick k) : ∀ e ∈ run, hasH n e.h = true := fun e he => by
  obtain ⟨_, _, ⟨x, hx, c, _⟩, _⟩ := h.ev e he
  rw [c]; exact hasH_mem hx
theorem LotI.nil (n : Net) {tick : Int} (h : -1000 ≤ tick ∧ tick ≤ 1000) : LotI n [] [] tick 0 := ⟨rfl, Nat.le_refl _, rfl, Valid.nil n, by omega, fun e he => by cases he⟩
end Pv
namespace Pv
open PySem PySem.Spec L2
open PyProof.Rows hiding St signs cutD pairD
end Pv
set_option Elab.async false
set_option linter.all false
set_option maxRecDepth 100000
set_option maxHeartbeats 1000000
set_option pp.maxSteps 1500
namespace Pv
open PySem PySem.Spec L2
open PyProof.Rows hiding St signs cutD pairD
end Pv
namespace Pv
open PySem PySem.Spec L2
open PyProof.Rows hiding St signs cutD pairD
theorem add_lls {xs ys : List D} (h : xs.length + ys.length ≤ 1000) (st : Sto) : fAdd (.list xs) (.list ys) st = .ok (.list (xs ++ ys)) st := by
  rw [add_ll]
  show lift (if xs.length + ys.length ≤ sizeLine then some (PyData.list (xs ++ ys)) else none) st = _
  rw [if_pos (sz_le h)]; rfl
end Pv
namespace Pv
open PySem PySem.Spec L2
open PyProof.Rows hiding St signs cutD pairD
end Pv
set_option Elab.async false
set_option linter.all false
set_option maxRecDepth 100000
set_option maxHeartbeats 3200000
namespace Pv
open PySem PySem.Spec L2
open PyProof.Rows hiding St signs cutD pairD
end Pv
set_option Elab.async false
set_option linter.all false
set_option maxRecDepth 100000
set_option maxHeartbeats 1000000
namespace Pv
open PySem PySem.Spec L2
open PyProof.Rows hiding St signs cutD pairD
def insU (x : Int) : List Int → List Int
  | [] => [x]
  | y :: l => if x < y then x :: y :: l else if x = y then y :: l else y :: insU x l
def srtU : List Int → List Int
  | [] => []
  | x :: l => insU x (srtU l)
end Pv
namespace Pv
open PySem PySem.Spec L2
open PyProof.Rows hiding St signs cutD pairD
def dSrtSet : Pv.D → Option Pv.D
  | .list ds => (intsOfD ds).bind fun ns => if ns.length ≤ 1000 ∧ (srtU ns).length < 64 then some (.list ((srtU ns).map .int)) else none
  | _ => none
end Pv
set_option Elab.async false
set_option linter.all false
set_option maxRecDepth 100000
set_option maxHeartbeats 1000000
set_option pp.maxSteps 1500
namespace Pv
open PySem PySem.Spec L2
open PyProof.Rows hiding St signs cutD pairD
def ltST (p s : Stamp) : Prop := p.1 < s.1 ∨ (p.1 = s.1 ∧ p.2 < s.2)
theorem ltST.trans {a b c : Stamp} (h : ltST a b) (k : ltST b c) : ltST a c := by
  unfold ltST at *
  omega
end Pv
set_option Elab.async false
set_option linter.all false
set_option maxRecDepth 100000
set_option maxHeartbeats 400000
namespace Pv
open PySem PySem.Spec L2
open PyProof.Rows hiding St
end Pv
set_option Elab.async false
set_option linter.all false
set_option maxRecDepth 100000
set_option maxHeartbeats 400000
namespace Pv
open PySem PySem.Spec L2
open PyProof.Rows hiding St
def fAddM : F2 := fun x y st => match deref st x, deref st y with
  | .list a, .list b => if a.length + b.length ≤ sizeLine then .ok (Rf st.length) (st ++ [.lst (a ++ b)]) else .bad
  | _, _ => .bad
def mAddM : M → M → M := mOp2 fAddM
section
variable {X : Cx} {Wx : WX} {ea eb : Expr} {ma mb : M} {pos : Pos}
@[simp] theorem e_addM {a b : M} {sl : Sl} {st : Sto} : mAddM a b sl st = (a sl st).bind fun x st => (b sl st).bind fun y st => fAddM x y st := rfl
end
end Pv
set_option Elab.async false
set_option linter.all false
set_option maxRecDepth 100000
set_option maxHeartbeats 400000
namespace Pv
open PySem PySem.Spec L2
open PyProof.Rows hiding St signs cutD pairD
end Pv
set_option Elab.async false
set_option linter.all false
set_option maxRecDepth 100000
set_option maxHeartbeats 3200000
namespace Pv
open PySem PySem.Spec L2
open PyProof.Rows hiding St signs cutD pairD
def kofV : Value → L2.Key
  | .int i _ => .inl i
  | .str x _ => .inr x
  | _ => .inl 0
def kofE (e : Int × Value) : L2.Key := kofV e.2
theorem kof_is {k : L2.Key} {v : Value} (h : keyIs k v = true) : kofV v = k := by
  rcases keyIs_shape h with ⟨i, t, rfl, rfl⟩ | ⟨x, t, rfl, rfl⟩ <;> rfl
/-- an element as it is kept: its hash, its value -/
def MemE (w : World) (e : Int × Value) : Prop := keyIs (kofE e) e.2 = true ∧ e.1 = keyH w (kofE e)
/-- the set at a has just the members of L -/
def SetM (w : World) (h : Heap) (a : Addr) (L : List L2.Key) : Prop :=
  ∃ ob rows age tab, h.get? a = some ob ∧ ob.ExactSet ∧ ob.data = .set rows age tab ∧ (∀ e ∈ rows.toList, MemE w e) ∧ (rows.toList.map kofE).Nodup ∧ (∀ k, k ∈ rows.toList.map kofE ↔ k ∈ L) ∧
    rows.size < scanBound ∧ tab.fits rows.size = true ∧ Ris tab.place.toList ∧ (w.params.followText "set-order" = true ∨ tab.led = true)
section
variable {P : Program} {w : World} {A : Around} {E : Value → Shared → Prop} {s : Shared} {a : Addr} {L : List L2.Key} {h h' : Heap}
theorem SetM.at (R : SetM w h a L) (keep : ∀ o, h.get? a = some o → h'.get? a = some o) : SetM w h' a L := by
  obtain ⟨ob, rows, age, tab, g, r⟩ := R
  exact ⟨ob, rows, age, tab, keep ob g, r⟩
theorem mem_is {e : Int × Value} (g : MemE w e) (k : L2.Key) : (mixKind P w).is k e.2 = true ↔ kofE e = k :=
  ⟨fun q => kof_is q, fun q => by subst q; exact g.1⟩
theorem mem_map {l : List (Int × Value)} (g : ∀ e ∈ l, MemE w e) (k : L2.Key) : k ∈ l.map kofE ↔ ∃ e ∈ l, (mixKind P w).is k e.2 = true := by
  constructor
  · intro q
    obtain ⟨e, he, e1⟩ := List.mem_map.mp q
    exact ⟨e, he, (mem_is (g e he) k).mpr e1⟩
  · rintro ⟨e, he, q⟩
    exact List.mem_map.mpr ⟨e, he, (mem_is (g e he) k).mp q⟩
end
end Pv
set_option Elab.async false
set_option linter.all false
set_option maxRecDepth 100000
set_option maxHeartbeats 3200000
namespace Pv
open PySem PySem.Spec L2
open PyProof.Rows hiding St signs cutD pairD
structure SOrd {α : Type} (lt : α → α → Bool) : Prop where
  irr : ∀ x, lt x x = false
  tr : ∀ x y z, lt x y = true → lt y z = true → lt x z = true
  tot : ∀ x y, lt x y = false → lt y x = false → x = y
section
variable {α : Type} (lt : α → α → Bool)
def insO (x : α) : List α → List α
  | [] => [x]
  | y :: l => if lt x y = true then x :: y :: l else if lt y x = true then y :: insO x l else y :: l
def srtO : List α → List α
  | [] => []
  | x :: l => insO lt x (srtO l)
variable {lt}
theorem ascB_nodup (O : SOrd lt) {l : List α} (h : l.Pairwise (lt · · = true)) : l.Nodup := h.imp fun {a b} p e => by subst e; rw [O.irr] at p; cases p
end
/-- the order of texts -/
def ltX (x y : Str) : Bool := decide (x.cps.toList < y.cps.toList)
theorem ltX_ord : SOrd ltX := ⟨fun x => by simp [ltX, str_lt_irrefl], fun x y z p q => by
  simp only [ltX, decide_eq_true_eq] at p q ⊢
  exact List.lt_trans p q, fun x y p q => by
  simp only [ltX, decide_eq_false_iff_not] at p q
  exact Classical.byContradiction fun n => q (str_total p n)⟩
def srtT (xs : List Str) : List Str := srtO ltX xs
end Pv
set_option Elab.async false
set_option linter.all false
set_option maxRecDepth 100000
set_option maxHeartbeats 3200000
namespace Pv
open PySem PySem.Spec L2
open PyProof.Rows hiding St signs cutD pairD
end Pv
set_option Elab.async false
set_option linter.all false
set_option maxRecDepth 100000
set_option maxHeartbeats 1000000
namespace Pv
open PySem PySem.Spec L2
open PyProof.Rows hiding St signs cutD pairD
def strsOfD : List Pv.D → Option (List Str)
  | [] => some []
  | .str x :: ds => (strsOfD ds).map (x :: ·)
  | _ => none
theorem strsOfD_map (xs : List Str) : strsOfD (xs.map .str) = some xs := by
  induction xs with
  | nil => rfl
  | cons x xs ih => simp [strsOfD, ih]
theorem strs_of_D : ∀ {ds : List Pv.D} {xs : List Str}, strsOfD ds = some xs → ds = xs.map .str
  | [], xs, h => by cases h; rfl
  | d :: ds, xs, h => by
    cases d with
    | str i =>
      have h' : (strsOfD ds).map (i :: ·) = some xs := h
      obtain ⟨ms, h1, h2⟩ := Option.map_eq_some_iff.mp h'
      subst h2
      rw [strs_of_D h1]; rfl
    | _ => cases h
theorem repL_strsV {K : PySem.W.Frag} {W : Wd} : ∀ {ns : List Str} {xs : List V}, repL K W xs (ns.map .str) → xs = ns.map V.str
  | [], xs, h => h
  | n :: ns, xs, ⟨v, us, e, r, l⟩ => by
    subst e
    rw [show v = V.str n from r, repL_strsV l]; rfl
theorem repL_strsB {K : PySem.W.Frag} {W : Wd} : ∀ (ns : List Str), repL K W (ns.map V.str) (ns.map .str)
  | [] => rfl
  | n :: ns => ⟨_, _, rfl, rfl, repL_strsB ns⟩
/-- a list of whole numbers, or of texts -/
def dSrtS (d : Pv.D) : Option Pv.D :=
  match dSrtSet d with
  | some e => some e
  | none => match d with
    | .list ds => (strsOfD ds).bind fun xs => if xs.length ≤ 1000 then some (.list ((srtT xs).map .str)) else none
    | _ => none
def mSrtS : M → M := mOp1 (onD1 dSrtS)
@[simp] theorem e_srtS {a : M} {sl : Sl} {st : Sto} : mSrtS a sl st = (a sl st).bind fun x st => lift (dSrtS (deref st x)) st := rfl
end Pv
set_option Elab.async false
set_option linter.all false
set_option maxRecDepth 100000
set_option maxHeartbeats 1000000
namespace Pv
open PySem PySem.Spec L2
open PyProof.Rows hiding St signs cutD pairD
def deepD (st : Sto) (d : Pv.D) : Option Pv.D := fz (lookF 6 0 st) d
section
variable {K : PySem.W.Frag} {W : Wd} {H : Hp} {st : Sto} {v : V} {d e : Pv.D}
theorem look_all (hr : HR K W H st) : ∀ (k : Nat) (r : Nat) (a : Addr) (e : Pv.D), W.rho[r]? = some a → lookF k 0 st r = some e → rep K ⟨H, []⟩ (.ref a) e
  | 0, r, a, e, _, h => by
    unfold lookF at h
    simp at h
  | k + 1, r, a, e, ha, h => by
    unfold lookF at h
    rw [if_neg (Nat.not_lt_zero r)] at h
    simp only at h
    obtain ⟨m, hm, _, ho⟩ := hr.at ha
    rw [hm] at h
    cases m with
    | lst ds =>
      simp only at h
      obtain ⟨es, h1, h2⟩ := Option.map_eq_some_iff.mp h
      subst h2
      obtain ⟨xs, q1, q2⟩ := ho
      have both : ∀ (ds : List Pv.D) (xs : List V) (es : List Pv.D), repL K W xs ds → fzL (lookF k 0 st) ds = some es → repL K ⟨H, []⟩ xs es := by
        intro ds
        induction ds with
        | nil => intro xs es l q; cases q; exact l
        | cons d ds ih =>
          rintro xs es ⟨v, us, e1, r1, l⟩ q
          have q' : (fz (lookF k 0 st) d).bind (fun e => (fzL (lookF k 0 st) ds).map (e :: ·)) = some es := q
          obtain ⟨e, q1, q2⟩ := Option.bind_eq_some_iff.mp q'
          obtain ⟨es', q3, q4⟩ := Option.map_eq_some_iff.mp q2
          subst q4
          exact ⟨v, us, e1, fz_rep (W2 := ⟨H, []⟩) (fun r a e h1 h2 => look_all hr k r a e h1 h2) hr.sub d v e r1 q1, ih us es' l q3⟩
      exact ⟨a, xs, rfl, q1, both ds xs es q2 h1⟩
    | _ => cases h
theorem deep_rep (hr : HR K W H st) (h : rep K W v d) (q : deepD st d = some e) : rep K ⟨H, []⟩ v e :=
  fz_rep (W2 := ⟨H, []⟩) (fun r a e h1 h2 => look_all hr 6 r a e h1 h2) hr.sub d v e h q
end
def reprF (st : Sto) (d : Pv.D) : Option Pv.D := match reprD st d with
  | some r => some r
  | none => (deepD st d).bind fun e => if e.canLay0 = true ∧ e.showable = true ∧ e.depth ≤ 100 ∧ e.shown.length ≤ sizeLine then some (.str e.shown) else none
def mReprF (m : M) : M := fun sl st => (m sl st).bind fun d st => lift (reprF st d) st
@[simp] theorem e_reprF {a : M} {sl : Sl} {st : Sto} : mReprF a sl st = (a sl st).bind fun d st => lift (match reprD st d with
  | some r => some r
  | none => (deepD st d).bind fun e => if e.canLay0 = true ∧ e.showable = true ∧ e.depth ≤ 100 ∧ e.shown.length ≤ sizeLine then some (.str e.shown) else none) st := rfl
section
variable {X : Cx} {Wx : WX} {ea : Expr} {ma : M} {pos p : Pos}
theorem ge_reprF (g : Gd X) (hm : X.mg "repr" = none) (ha : GE X Wx ea ma) (hg : Gl X "repr" := by rfl)
    (he : starEach (ea :: []) X.env = (false, eval ea X.env) :: starEach [] X.env := by rfl) (hpl : (backTo pos (starEach [] X.env)).any (·.1) = false := by rfl) : GE X Wx (.Call (.Name "repr" p) [ea] [] pos) (mReprF ma) := by
  refine PE.imp (pe_callB (call_reprD g) hg hm (by decide +kernel) (pa_cons ha pa_nil he) (by decide +kernel) (by decide +kernel) he hpl) fun sh H Q ⟨W, sl, st, hr, hs, q⟩ => ?_
  refine rd_bind hr hs q fun d1 st1 W1 v1 H1 e1 x1 h1 s1 r1 p1 => ?_
  unfold reprF at p1
  cases hd : reprD st1 d1 with
  | some r =>
    rw [hd] at p1
    simp only at p1
    unfold reprD at hd
    split at hd
    · rename_i hc
      cases hd
      exact ⟨v1, _, rfl, rep_dpR h1 r1 rfl hc.1, hc.1, hc.2.1, hc.2.2.1, hc.2.2.2, p1.val h1 rfl⟩
    · cases hd
  | none =>
    rw [hd] at p1
    simp only at p1
    cases hq : deepD st1 d1 with
    | none => rw [hq] at p1; exact p1.elim
    | some e =>
      rw [hq] at p1
      simp only [Option.bind_some] at p1
      split at p1
      · rename_i hc
        exact ⟨v1, e, rfl, rep_dp (W := ⟨H1, []⟩) (fun _ _ z => z) e hc.1 (deep_rep h1 r1 hq), hc.1, hc.2.1, hc.2.2.1, hc.2.2.2, p1.val h1 rfl⟩
      · exact p1.elim
end
end Pv
set_option Elab.async false
set_option linter.all false
set_option maxRecDepth 100000
set_option maxHeartbeats 1000000
set_option pp.maxSteps 1500
namespace Pv
open PySem PySem.Spec L2
open PyProof.Rows hiding St signs cutD pairD
/-- one to eight lowercase letters -/
def nameB (z : Str) : Bool := decide (1 ≤ z.length) && (decide (z.length ≤ 8) && z.cps.toList.all fun c => decide (97 ≤ c) && decide (c ≤ 122))
abbrev Rd3 := Str × Str × Int
def prS (r : Rd3) : Str × Str := (r.1, r.2.1)
/-- the order of pairs of texts -/
def ltP (p q : Str × Str) : Bool := ltX p.1 q.1 || (p.1 == q.1 && ltX p.2 q.2)
structure NetV (n : Net) : Prop where
  asc : (n.hosts.map (·.n)).Pairwise fun a b => ltX a b = true
  ne : n.hosts ≠ []
  nm : ∀ h ∈ n.hosts, nameB h.n = true
  cl : ∀ h ∈ n.hosts, 0 ≤ h.s ∧ 0 ≤ h.f ∧ 1 ≤ h.r
  rasc : (n.roads.map prS).Pairwise fun a b => ltP a b = true
  rd : ∀ r ∈ n.roads, hasH n r.1 = true ∧ hasH n r.2.1 = true ∧ r.1 ≠ r.2.1 ∧ 0 ≤ r.2.2
  most : ∀ k, n.most = some k → 0 ≤ k
  rule : n.rule = "more" ∨ n.rule = "wait"
  none : n.most = none → n.rule = "wait"
/-- how many hosts, how great its numbers -/
structure NetB (n : Net) (h : Nat) (b : Nat) : Prop where
  hl : n.hosts.length ≤ h
  rl : n.roads.length ≤ h * h
  hb : ∀ x ∈ n.hosts, x.s.natAbs ≤ b ∧ x.f.natAbs ≤ b ∧ x.r.natAbs ≤ b
  rb : ∀ r ∈ n.roads, r.2.2.natAbs ≤ b
  mb : ∀ k, n.most = some k → k.natAbs ≤ b
theorem name_lay {z : Str} (h : nameB z = true) : (PyData.str z).canLay0 = true ∧ z.length ≤ 8 := by
  unfold nameB at h
  simp only [Bool.and_eq_true, decide_eq_true_eq, List.all_eq_true] at h
  refine ⟨?_, h.2.1⟩
  simp only [PyData.canLay0, PyData.strOk, Array.all_eq_true', decide_eq_true_eq, Array.mem_toList_iff]
  intro c hc
  have := h.2.2 c (by simpa using hc)
  omega
theorem bdl_all {m k b : Nat} : ∀ {ds : List Pv.D}, (∀ d ∈ ds, Bd d m k b) → BdL ds ((m + 4) * ds.length) k b
  | [], _ => BdL.nil
  | d :: ds, h => (BdL.cons (h d List.mem_cons_self) (bdl_all fun x hx => h x (List.mem_cons_of_mem _ hx))).mono (by rw [List.length_cons, Nat.mul_succ]; omega) (Nat.le_refl _) (Nat.le_refl _)
theorem bd_name {z : Str} {k b : Nat} (q : nameB z = true) : Bd (.str z) 84 k b := Bd.str (name_lay q).1 (by have := (name_lay q).2; omega)
theorem bd_opt {o : Option Int} {k b : Nat} (h : ∀ i, o = some i → i.natAbs ≤ b) (hb : b < 10 ^ 62) : Bd (dOpt o) 64 k b := by
  cases o with
  | none => exact ⟨rfl, by show 8 ≤ 64; decide, Nat.zero_le _, Nat.zero_le _⟩
  | some i => exact Bd.int (h i rfl) hb
theorem rule_name {z : Str} (h : z = "more" ∨ z = "wait") : nameB z = true := by
  rcases h with rfl | rfl <;> decide +kernel
/-- a cluster's datum -/
theorem NetV.bd {n : Net} (V : NetV n) {h b : Nat} (B : NetB n h b) (hb : b < 10 ^ 62) : Bd (dNet n) (304 * h + 304 * (h * h) + 200) 3 b := by
  have hh : ∀ d ∈ n.hosts.map dHost, Bd d 300 1 b := fun d hd => by
    obtain ⟨x, hx, rfl⟩ := List.mem_map.mp hd
    obtain ⟨b1, b2, b3⟩ := B.hb x hx
    exact (Bd.tup (BdL.cons (bd_name (V.nm x hx)) (BdL.cons (Bd.int b1 hb) (BdL.cons (Bd.int b2 hb) (BdL.cons (Bd.int (k := 0) b3 hb) BdL.nil))))).mono (by decide) (Nat.le_refl _) (Nat.le_refl _)
  have nmOf : ∀ {z : Str}, hasH n z = true → nameB z = true := fun {z} q => by
    unfold hasH at q
    obtain ⟨x, hx, e⟩ := List.any_eq_true.mp q
    rw [← (beq_iff_eq.mp e)]; exact V.nm x hx
  have hr : ∀ d ∈ n.roads.map dRoad, Bd d 300 1 b := fun d hd => by
    obtain ⟨x, hx, rfl⟩ := List.mem_map.mp hd
    obtain ⟨r1, r2, _, _⟩ := V.rd x hx
    exact (Bd.tup (BdL.cons (bd_name (nmOf r1)) (BdL.cons (bd_name (nmOf r2)) (BdL.cons (Bd.int (k := 0) (B.rb x hx) hb) BdL.nil)))).mono (by decide) (Nat.le_refl _) (Nat.le_refl _)
  have l1 := Bd.tup (bdl_all hh)
  have l2 := Bd.tup (bdl_all hr)
  have e1 : 304 * n.hosts.length ≤ 304 * h := Nat.mul_le_mul_left _ B.hl
  have e2 : 304 * n.roads.length ≤ 304 * (h * h) := Nat.mul_le_mul_left _ B.rl
  rw [List.length_map] at l1 l2
  exact (Bd.tup (BdL.cons l1 (BdL.cons l2 (BdL.cons (bd_opt B.mb hb) (BdL.cons (bd_name (rule_name V.rule)) BdL.nil))))).mono (by omega) (Nat.le_refl _) (Nat.le_refl _)
end Pv
set_option Elab.async false
set_option linter.all false
set_option maxRecDepth 100000
set_option maxHeartbeats 1000000
set_option pp.maxSteps 400
namespace Pv
open PySem PySem.Spec L2 LamX
open PyProof.Rows hiding St
end Pv
set_option Elab.async false
set_option linter.all false
set_option maxRecDepth 100000
set_option maxHeartbeats 1000000
set_option pp.maxSteps 400
namespace Pv
open PySem PySem.Spec L2 LamX
open PyProof.Rows hiding St
def seqD (st : Sto) (d : D) : Option (List D) := match deref st d with | .list ds => some ds | .tuple ds => some ds | _ => none
def onO (o : Option (List D)) (f : List D → R (List D)) : R (List D) := match o with | some ds => f ds | none => .bad
def msStar (m : M) (ms : Ms) : Ms := fun sl st => (m sl st).bind fun d st1 => onO (seqD st1 d) fun ds => (ms sl st1).bind fun es st2 => .ok (ds ++ es) st2
@[simp] theorem e_star {m : M} {ms : Ms} {sl : Sl} {st : Sto} : msStar m ms sl st = (m sl st).bind fun d st1 => onO (seqD st1 d) fun ds => (ms sl st1).bind fun es st2 => .ok (ds ++ es) st2 := rfl
@[simp] theorem onO_some {ds : List D} {f : List D → R (List D)} : onO (some ds) f = f ds := rfl
@[simp] theorem seqD_list' {st : Sto} {ds : List D} : seqD st (.list ds) = some ds := rfl
@[simp] theorem seqD_tuple' {st : Sto} {ds : List D} : seqD st (.tuple ds) = some ds := rfl
/-- a def, to be called by BindN -/
structure DfN (P : Program) (w : World) (K : PySem.W.Frag) (mg : Str → Option Value) (base : Heap) (k : Nat) (x : Str) (f : Addr) (fd : FuncData) (ps : List Str) (F : Fn) : Prop where
  fn : FnG P w K mg base k f fd ps F
  mg : mg x = some (.ref f)
  kp : PySem.W.keepIn K (.ref f) = true
theorem DfN.mono {P : Program} {w : World} {K : PySem.W.Frag} {mg : Str → Option Value} {base : Heap} {j k : Nat} {x : Str} {f : Addr} {fd : FuncData} {ps : List Str} {F : Fn} (d : DfN P w K mg base j x f fd ps F) (h : j ≤ k) : DfN P w K mg base k x f fd ps F :=
  ⟨d.fn.mono h, d.mg, d.kp⟩
theorem Df.n {P : Program} {w : World} {K : PySem.W.Frag} {mg : Str → Option Value} {base : Heap} {k : Nat} {x : Str} {f : Addr} {fd : FuncData} {ps : List Str} {F : Fn} (d : Df P w K mg base k x f fd ps F) : DfN P w K mg base k x f fd ps F := ⟨d.fn, d.mg, d.kp⟩
/-- the arrangement -/
def arr (ix : List Nat) (l : List D) : List D := perm ix l
@[simp] theorem arr_nil {l : List D} : arr [] l = [] := rfl
@[simp] theorem arr_cons {i : Nat} {ix : List Nat} {l : List D} : arr (i :: ix) l = (match l[i]? with | some d => d :: arr ix l | none => arr ix l) := by
  unfold arr perm
  rw [List.filterMap_cons]
  cases l[i]? <;> rfl
def mCallN (F : Fn) (ix : List Nat) (cD : List D) (ms mk : Ms) : M := fun sl st => (ms sl st).bind fun ds st1 => (mk sl st1).bind fun es st2 => F (arr ix (ds ++ (es ++ cD))) st2
@[simp] theorem e_callN {F : Fn} {ix : List Nat} {cD : List D} {ms mk : Ms} {sl : Sl} {st : Sto} : mCallN F ix cD ms mk sl st = (ms sl st).bind fun ds st1 => (mk sl st1).bind fun es st2 => F (arr ix (ds ++ (es ++ cD))) st2 := rfl
end Pv
set_option Elab.async false
set_option linter.all false
set_option maxRecDepth 100000
set_option maxHeartbeats 1000000
set_option pp.maxSteps 1500
namespace Pv
open PySem PySem.Spec L2
open PyProof.Rows hiding St signs cutD pairD
theorem NetB.mono {n : Net} {h h' b : Nat} (B : NetB n h b) (hh : h ≤ h') : NetB n h' b :=
  ⟨Nat.le_trans B.hl hh, Nat.le_trans B.rl (Nat.mul_le_mul hh hh), B.hb, B.rb, B.mb⟩
theorem NetV.ok {n : Net} {b : Nat} (V : NetV n) (B : NetB n 12 b) : NetOk n := by
  have nm : ∀ {k : Str}, hasH n k = true → (PyData.str k).canLay0 = true := fun {k} hk => by
    obtain ⟨x, hx, e⟩ := List.any_eq_true.mp hk
    rw [← beq_iff_eq.mp e]
    exact (name_lay (V.nm x hx)).1
  refine ⟨Nat.le_trans B.hl (by decide), Nat.le_trans B.rl (by decide), fun x hx => ?_, fun r hr => ?_⟩
  · obtain ⟨a, c⟩ := name_lay (V.nm x hx)
    exact ⟨Nat.le_trans c (by decide), a⟩
  · obtain ⟨a, c, _⟩ := V.rd r hr
    exact ⟨nm a, nm c⟩
theorem NetV.inj {n : Net} (V : NetV n) {x y : Host} (hx : x ∈ n.hosts) (hy : y ∈ n.hosts) (e : x.n = y.n) : x = y := by
  have nd : (n.hosts.map (·.n)).Nodup := V.asc.imp fun {a b} h => fun q => by subst q; rw [ltX_ord.irr] at h; cases h
  have key : ∀ {l : List Host}, (l.map (·.n)).Nodup → x ∈ l → y ∈ l → x = y := fun {l} => by
    induction l with
    | nil => intro _ h; cases h
    | cons a l ih =>
      intro nd h1 h2
      rw [List.map_cons, List.nodup_cons] at nd
      rcases List.mem_cons.mp h1 with p | p <;> rcases List.mem_cons.mp h2 with q | q
      · rw [p, q]
      · exact absurd (List.mem_map.mpr ⟨y, q, by rw [← p, e]⟩) nd.1
      · exact absurd (List.mem_map.mpr ⟨x, p, by rw [← q, ← e]⟩) nd.1
      · exact ih nd.2 p q
  exact key nd hx hy
theorem NetV.has {n : Net} {y : Host} (hy : y ∈ n.hosts) : hasH n y.n = true := List.any_eq_true.mpr ⟨y, hy, by simp⟩
def handN : List Net := [⟨[⟨"amy", 1, 2, 2⟩, ⟨"bob", 0, 3, 1⟩, ⟨"cid", 2, 0, 2⟩], [("amy", "bob", 0), ("bob", "cid", 0), ("cid", "amy", 2)], some 4, "more"⟩,
  ⟨[⟨"amy", 1, 2, 2⟩], [], none, "wait"⟩,
  ⟨[⟨"amy", 1, 2, 2⟩, ⟨"bob", 0, 3, 1⟩], [], some 0, "wait"⟩,
  ⟨[⟨"amy", 1, 2, 2⟩, ⟨"bob", 0, 3, 1⟩], [("amy", "bob", 1), ("bob", "amy", 0)], some 0, "more"⟩,
  ⟨[⟨"amy", 1, 2, 2⟩, ⟨"bob", 0, 3, 1⟩, ⟨"cid", 2, 0, 2⟩], [("amy", "bob", 9), ("amy", "cid", 1)], none, "wait"⟩,
  ⟨[⟨"a", 70, 0, 9⟩, ⟨"b", 70, 0, 9⟩, ⟨"c", 70, 0, 9⟩, ⟨"d", 70, 0, 9⟩, ⟨"e", 70, 0, 9⟩, ⟨"f", 70, 0, 9⟩, ⟨"g", 70, 0, 9⟩, ⟨"h", 70, 0, 9⟩, ⟨"i", 70, 0, 9⟩], [("a", "b", 0), ("b", "c", 1), ("c", "d", 2), ("d", "e", 3), ("e", "f", 4), ("f", "g", 5), ("g", "h", 6), ("h", "i", 7), ("i", "h", 99)], some 5000, "more"⟩]
theorem hand_ok : ∀ n ∈ handN, NetV n ∧ NetB n 12 (10 ^ 40) := by
  have mk : ∀ n : Net, ((n.hosts.map (·.n)).Pairwise fun a b => ltX a b = true) → n.hosts ≠ [] → (∀ h ∈ n.hosts, nameB h.n = true ∧ 0 ≤ h.s ∧ 0 ≤ h.f ∧ 1 ≤ h.r ∧ h.s.natAbs ≤ 10 ^ 40 ∧ h.f.natAbs ≤ 10 ^ 40 ∧ h.r.natAbs ≤ 10 ^ 40) → ((n.roads.map prS).Pairwise fun a b => ltP a b = true) →
      (∀ r ∈ n.roads, hasH n r.1 = true ∧ hasH n r.2.1 = true ∧ r.1 ≠ r.2.1 ∧ 0 ≤ r.2.2 ∧ r.2.2.natAbs ≤ 10 ^ 40) → (∀ k, n.most = some k → 0 ≤ k ∧ k.natAbs ≤ 10 ^ 40) → (n.rule = "more" ∨ n.rule = "wait") → (n.most = none → n.rule = "wait") → n.hosts.length ≤ 12 → n.roads.length ≤ 144 → NetV n ∧ NetB n 12 (10 ^ 40) :=
    fun n h1 h2 h3 h4 h5 h6 h7 h8 h9 h10 => ⟨⟨h1, h2, fun h hh => (h3 h hh).1, fun h hh => ⟨(h3 h hh).2.1, (h3 h hh).2.2.1, (h3 h hh).2.2.2.1⟩, h4, fun r hr => ⟨(h5 r hr).1, (h5 r hr).2.1, (h5 r hr).2.2.1, (h5 r hr).2.2.2.1⟩, fun k hk => (h6 k hk).1, h7, h8⟩,
      ⟨h9, h10, fun h hh => (h3 h hh).2.2.2.2, fun r hr => (h5 r hr).2.2.2.2, fun k hk => (h6 k hk).2⟩⟩
  unfold handN
  simp only [List.forall_mem_cons]
  refine ⟨?_, ?_, ?_, ?_, ?_, ?_, fun _ h => (nomatch h)⟩
  all_goals
    refine mk _ (by decide +kernel) (by decide) (by decide +kernel) (by decide +kernel) (by decide +kernel) ?_ ?_ ?_ (by decide) (by decide)
  all_goals first | (intro k hk; cases hk; decide) | (intro k hk; cases hk) | exact .inl rfl | exact .inr rfl | (intro _; rfl) | (intro h; cases h)
end Pv
set_option Elab.async false
set_option linter.all false
set_option maxRecDepth 100000
set_option maxHeartbeats 1000000
set_option pp.maxSteps 1500
namespace Pv
open PySem PySem.Spec L2
open PyProof.Rows hiding St signs cutD pairD
end Pv
set_option Elab.async false
set_option linter.all false
set_option maxRecDepth 100000
set_option maxHeartbeats 1600000
namespace Pv
open PySem PySem.Spec L2
open PyProof.Rows hiding St signs cutD pairD
/-- what is asked of the two iterators: I it i: it stands at i; L: what it goes over -/
structure Nx (prog : Program) (w : World) (it l : Addr) (xs : Array Value) (I : Heap → Nat → Prop) (L : Heap → Prop) : Prop where
  item : ∀ {A : Around} {E : Value → Shared → Prop} {s : Shared} {k : Nat} {x : Value} {Q : Value → Shared → Prop}, I s.heap k → L s.heap → xs[k]? = some x → (∀ h', I h' (k + 1) → Heap.SameBut it s.heap h' → Q x { s with heap := h' }) → wpAny (model prog w) A (Builtin.SmallTypes.nextOf (.ref it)) Q E s
  stop : ∀ {A : Around} {E : Value → Shared → Prop} {s : Shared} {k : Nat} {Q : Value → Shared → Prop}, A.handled = none → I s.heap k → L s.heap → xs[k]? = none → (∀ h' e, Heap.ExtBut it s.heap h' → (∃ o, h'.get? e = some o ∧ o.cls = .type "StopIteration") → E (.ref e) { s with heap := h' }) → wpAny (model prog w) A (Builtin.SmallTypes.nextOf (.ref it)) Q E s
  mv : ∀ {c : Addr} {h h' : Heap} {k : Nat}, I h k → Heap.ExtBut c h h' → it ≠ c → I h' k
  ml : ∀ {c : Addr} {h h' : Heap}, L h → Heap.ExtBut c h h' → l ≠ c → L h'
  up : ∀ {h h' : Heap} {k : Nat}, I h k → (∀ o, h.get? it = some o → h'.get? it = some o) → I h' k
end Pv
set_option Elab.async false
set_option linter.all false
set_option maxRecDepth 100000
set_option maxHeartbeats 1000000
set_option pp.maxSteps 400
namespace Pv
open PySem PySem.Spec L2
open PyProof.Rows hiding St signs cutD pairD
def whileL (t : MT) (body : MS) (fg : List Nat) : Nat → Sl → Sto → RS
  | 0, _, _ => .bad
  | n + 1, sl, st => (t sl st).thenS fun b st1 => if b = true then (match body sl st1 with
    | .nx sl2 st2 => whileL t body fg n (wipeD sl2 fg) st2
    | .ct sl2 st2 => whileL t body fg n (wipeD sl2 fg) st2
    | .bk sl2 st2 => .nx (wipeD sl2 fg) st2
    | r => r) else .nx sl st1
def sWhile (fg : List Nat) (n : Nat) (t : MT) (body : MS) : MS := fun sl st => whileL t body fg n (wipeD sl fg) st
@[simp] theorem e_while {fg : List Nat} {n : Nat} {t : MT} {body : MS} {sl : Sl} {st : Sto} : sWhile fg n t body sl st = whileL t body fg n (wipeD sl fg) st := rfl
end Pv
set_option Elab.async false
set_option linter.all false
set_option maxRecDepth 100000
set_option maxHeartbeats 1000000
set_option pp.maxSteps 400
namespace Pv
open PySem PySem.Spec L2
open PyProof.Rows hiding St signs cutD pairD
section
variable {X : Cx} {Wx : WX} {pins : List (Addr × Obj)} {σ : L2.St} {H : Hp} {s : Shared}
/-- (e, ..) laid down so -/
def mkTupZ (ds : List D) (st : Sto) : R D := if ds.length ≤ sizeLine then .ok (Gc ds) st else .bad
def mTupZ (ms : Ms) : M := fun sl st => (ms sl st).bind mkTupZ
@[simp] theorem e_tupZ {ms : Ms} {sl : Sl} {st : Sto} : mTupZ ms sl st = (ms sl st).bind mkTupZ := rfl
def isGc : D → Option (List D)
  | .dict [(.none, .tuple ds)] => some ds
  | _ => none
def mCntZ (a b : M) : M := fun sl st => (a sl st).bind fun o st => match isGc o with
  | some ds => (b sl st).bind fun d st => lift (cntD ds (deref st d)) st
  | none => .bad
@[simp] theorem e_cntZ {a b : M} {sl : Sl} {st : Sto} : mCntZ a b sl st = (a sl st).bind fun o st => match isGc o with
  | some ds => (b sl st).bind fun d st => lift (cntD ds (deref st d)) st
  | none => .bad := rfl
@[simp] theorem isGc_at {ds : List D} : isGc (Gc ds) = some ds := rfl
end
end Pv
set_option Elab.async false
set_option linter.all false
set_option maxRecDepth 100000
set_option maxHeartbeats 1000000
set_option pp.maxSteps 400
namespace Pv
open PySem PySem.Spec L2
open PyProof.Rows hiding St signs cutD pairD
def fzSl (g : Nat → Option D) : Sl → Option Sl
  | [] => some []
  | none :: r => (fzSl g r).map (none :: ·)
  | some d :: r => (fz g d).bind fun e => (fzSl g r).map (some e :: ·)
/-- slots that hold nothing of what comes behind -/
def SlC (n : Nat) (Z : Sl) : Prop := ∀ g : Nat → Option D, (∀ r, r < n → g r = some (Rf r)) → fzSl g Z = some Z
theorem SlC.nil {n : Nat} : SlC n [] := fun _ _ => rfl
theorem SlC.none {n : Nat} {Z : Sl} (h : SlC n Z) : SlC n (none :: Z) := fun g hg => by show (fzSl g Z).map _ = _; rw [h g hg]; rfl
end Pv
set_option Elab.async false
set_option linter.all false
set_option maxRecDepth 100000
set_option maxHeartbeats 1000000
set_option pp.maxSteps 400
namespace Pv
open PySem PySem.Spec L2
open PyProof.Rows hiding St signs cutD pairD
theorem SlC.str {n : Nat} {Z : Sl} {z : Str} (h : SlC n Z) : SlC n (some (.str z) :: Z) := fun g hg => by
  show (some (PyData.str z)).bind (fun e => (fzSl g Z).map (some e :: ·)) = _
  rw [h g hg]; rfl
def mSm (f : Str → F1) (a b : M) : M := fun sl st => (a sl st).bind fun o st => match o with
  | .str z => (b sl st).bind fun d st => f z d st
  | _ => .bad
def fSplit (z : Str) : F1 := fun d st => match deref st d with
  | .str b => if (b.length == 0) = false ∧ z.length + 2 ≤ sizeLine then .ok (.list ((Txt.split z b).map .str)) st else .bad
  | _ => .bad
def joinD (z : Str) (ds : List D) : Option D := match strsOfD ds with
  | some ys => if (ys.map (·.length)).sum + ys.length * z.length ≤ 16777216 then some (.str (Txt.join z ys)) else none
  | none => none
def fJoin (z : Str) : F1 := fun d st => match deref st d with
  | .list ds => lift (joinD z ds) st
  | .tuple ds => lift (joinD z ds) st
  | _ => .bad
def mSplit : M → M → M := mSm fSplit
def mJoin : M → M → M := mSm fJoin
@[simp] theorem e_sm {f : Str → F1} {a b : M} {sl : Sl} {st : Sto} : mSm f a b sl st = (a sl st).bind fun o st => match o with
  | .str z => (b sl st).bind fun d st => f z d st
  | _ => .bad := rfl
@[simp] theorem e_split {a b : M} {sl : Sl} {st : Sto} : mSplit a b sl st = (a sl st).bind fun o st => match o with
  | .str z => (b sl st).bind fun d st => fSplit z d st
  | _ => .bad := rfl
@[simp] theorem e_join {a b : M} {sl : Sl} {st : Sto} : mJoin a b sl st = (a sl st).bind fun o st => match o with
  | .str z => (b sl st).bind fun d st => fJoin z d st
  | _ => .bad := rfl
section
variable {X : Cx} {Wx : WX} {ea eb e : Expr} {ma mb mc : M} {pos p apos : Pos}
theorem ge_split (ha : GE X Wx ea ma) (hb : GE X Wx eb mb) (hs : starEach [eb] X.env = [(false, eval eb X.env)] := by rfl) (hbase : attributeBase ea "split" X.env (eval ea X.env) = eval ea X.env := by rfl) (hline : (apos.endLine == pos.line) = true := by rfl) :
    GE X Wx (.Call (.Attribute ea "split" apos) [eb] [] pos) (mSplit ma mb) := by
  refine PE.imp (pe_split ha hb hs hbase hline) fun sh H Q ⟨W, sl, st, hr, hs, q⟩ => ?_
  refine rd_bind hr hs q fun d1 st1 W1 v1 H1 e1 x1 h1 s1 r1 p1 => ?_
  split at p1
  · rename_i z
    refine ⟨⟨z, r1⟩, rd_bind h1 s1 p1 fun d2 st2 W2 v2 H2 e2 x2 h2 s2 r2 p2 => ?_⟩
    unfold fSplit at p2
    split at p2
    · rename_i b hb
      split at p2
      · rename_i hc
        exact ⟨z, b, r1, by rw [rep_dstr h2 r2 hb], hc.1, hc.2, p2.lst h2 (repL_strsB _)⟩
      · exact p2.elim
    · exact p2.elim
  · exact p1.elim
theorem ge_join (ha : GE X Wx ea ma) (hb : GE X Wx eb mb) (hs : starEach [eb] X.env = [(false, eval eb X.env)] := by rfl) (hbase : attributeBase ea "join" X.env (eval ea X.env) = eval ea X.env := by rfl) (hline : (apos.endLine == pos.line) = true := by rfl) :
    GE X Wx (.Call (.Attribute ea "join" apos) [eb] [] pos) (mJoin ma mb) := by
  refine PE.imp (pe_join ha hb hs hbase hline) fun sh H Q ⟨W, sl, st, hr, hs, q⟩ => ?_
  refine rd_bind hr hs q fun d1 st1 W1 v1 H1 e1 x1 h1 s1 r1 p1 => ?_
  split at p1
  · rename_i z
    refine ⟨⟨z, r1⟩, rd_bind h1 s1 p1 fun d2 st2 W2 v2 H2 e2 x2 h2 s2 r2 p2 => ?_⟩
    have key : ∀ ds : List D, Post (nv X) W2 H2 Q (fun cls dd H' => Wx cls dd sh H') (lift (joinD z ds) st2) → ∀ (a : Addr) (xs : List V), v2 = .ref a → repL X.K W2 xs ds → (SqL X.K H2 a xs ∨ SqT X.K H2 a xs) →
        ∃ c q, ∃ ys : List Str, v1 = .str c ∧ [v2] = [.ref q] ∧ (SqL X.K H2 q (ys.map V.str) ∨ SqT X.K H2 q (ys.map V.str)) ∧ (ys.map (·.length)).sum + ys.length * c.length ≤ 16777216 ∧ Q (.str (Txt.join c ys)) H2 := fun ds p2 a xs ev hl hq => by
      unfold joinD lift at p2
      split at p2
      · rename_i d hd
        split at hd
        · rename_i ys hy
          split at hd
          · rename_i hc
            cases hd
            rw [strs_of_D hy] at hl
            rw [repL_strsV hl] at hq
            exact ⟨z, a, ys, r1, by rw [ev], hq, hc, p2.val h2 rfl⟩
          · cases hd
        · cases hd
      · exact p2.elim
    unfold fJoin at p2
    split at p2
    · rename_i ds hd
      obtain ⟨a, xs, ev, hH, hl⟩ := rep_dlist h2 r2 hd
      exact key ds p2 a xs ev hl (.inl (.inl (.inl hH)))
    · rename_i ds hd
      obtain ⟨a, xs, ev, hH, hl⟩ := rep_dtuple h2 r2 hd
      exact key ds p2 a xs ev hl (.inr hH)
    · exact p2.elim
  · exact p1.elim
end
def fExt (o d : D) (st : Sto) : R D :=
  match o with
  | .dict [(.int r, .none)] => (match st[r.toNat]?, deref st d with | some (.lst ds), .list es => if ds.length + es.length ≤ sizeLine then .ok .none (st.set r.toNat (.lst (ds ++ es))) else .bad | _, _ => .bad)
  | _ => .bad
def mExt : M → M → M := mLm fExt
@[simp] theorem e_ext {a b : M} {sl : Sl} {st : Sto} : mExt a b sl st = (a sl st).bind fun o st => if isLst st o = true then (b sl st).bind fun d st => fExt o d st else .bad := rfl
section
variable {X : Cx} {Wx : WX} {ea eb e : Expr} {ma mb mc : M} {pos p apos : Pos}
theorem ge_extend {ea eb : Expr} {ma mb : M} (ha : GE X Wx ea ma) (hb : GE X Wx eb mb) (hbase : attributeBase ea "extend" X.env (eval ea X.env) = eval ea X.env := by rfl)
    (hfew : ((backTo pos (starEach (eb :: []) X.env)).all (fun x => !x.1) && (backToKw pos (keywordEach [] X.env)).all (fun x => x.1.isSome) && decide ((eb :: ([] : List Expr)).length + ([] : List Keyword).length + (if ([] : List Keyword).isEmpty then 0 else 1) < 30)) = true := by rfl)
    (hline : (apos.endLine == pos.line) = true := by rfl) (hs : starEach (eb :: []) X.env = (false, eval eb X.env) :: starEach [] X.env := by rfl) (hplain : (backTo pos (starEach [] X.env)).any (·.1) = false := by rfl) :
    GE X Wx (.Call (.Attribute ea "extend" apos) [eb] [] pos) (mExt ma mb) := by
  refine PE.imp (pe_bm PySem.F.plainAttrs_list PySem.F.slot_list_extend PySem.F.type_list_extend mt_extend ha (pa_cons hb pa_nil hs) hbase hfew hline hs hplain) fun sh H Q ⟨W, sl, st, hr, hs, q⟩ => ?_
  refine rd_bind hr hs q fun d1 st1 W1 v1 H1 e1 x1 h1 s1 r1 p1 => ?_
  split at p1
  · rename_i hl
    obtain ⟨r, a, ds, xs, eo, ev, hrho, hst, hH, hL⟩ := isLst_rep h1 r1 hl
    subst eo; subst ev
    refine ⟨.inl ⟨rfl, xs, .inl (.inl hH)⟩, ?_⟩
    refine rd_bind h1 s1 p1 fun d2 st2 W2 v2 H2 e2 x2 h2 s2 r2 p2 => ?_
    have p2 : Post (nv X) W2 H2 Q (fun cls dd H' => Wx cls dd sh H') (match st2[r]?, deref st2 d2 with | some (.lst ds), .list es => if ds.length + es.length ≤ sizeLine then .ok .none (st2.set r (.lst (ds ++ es))) else .bad | _, _ => .bad) := p2
    split at p2
    · rename_i ds2 es2 hd2 he2
      split at p2
      · rename_i hz
        obtain ⟨b, hb, _, xs2, g1, g2⟩ := h2.at' hd2
        rw [x2.at r a hrho] at hb
        cases hb
        obtain ⟨c, zs, ez, hz1, hz2⟩ := rep_dlist h2 r2 he2
        refine ⟨a, c, xs2, zs, rfl, by rw [ez], g1, hz1, by rw [repL_length g2, repL_length hz2]; exact hz, ?_⟩
        obtain ⟨h3, x3⟩ := h2.set (o := .lst (xs2 ++ zs)) (m := .lst (ds2 ++ es2)) (x2.at r a hrho) hd2 ⟨_, upd_same, repL_append g2 hz2⟩
        exact p2 W2 .non _ x3 h3 rfl
      · exact p2.elim
    · exact p2.elim
  · exact p1.elim
end
def pairOfD : D → Option (Key × D)
  | .tuple [k, v] => (keyOf k).map fun c => (c, v)
  | _ => none
def pairsOfD : List D → Option (List (Key × D))
  | [] => some []
  | d :: ds => match pairOfD d, pairsOfD ds with | some p, some ps => some (p :: ps) | _, _ => none
def fDictP : F1 := fun x st => match deref st x with
  | .list ds => (match pairsOfD ds with | some ps => .ok (Rf st.length) (st ++ [.dct (mergeD [] ps)]) | none => .bad)
  | _ => .bad
def mDictP : M → M := mOp1 fDictP
@[simp] theorem e_dictP {a : M} {sl : Sl} {st : Sto} : mDictP a sl st = (a sl st).bind fun x st => fDictP x st := rfl
def fDin (neg : Bool) : F2 := fun y x st => match dlook st x y with
  | some o => .ok (.bool (o.isSome != neg)) st
  | none => .bad
def mDin (neg : Bool) : M → M → M := mOp2 (fDin neg)
@[simp] theorem e_din {neg : Bool} {a b : M} {sl : Sl} {st : Sto} : mDin neg a b sl st = (a sl st).bind fun y st => (b sl st).bind fun x st => fDin neg y x st := rfl
instance {x : Str} {n : Int} : Decidable (MulOk x n) := by unfold MulOk; infer_instance
def dMulT : D → D → Option D
  | .str a, .int n => if MulOk a n then some (.str (Txt.mul a n)) else none
  | _, _ => none
def mMulT : M → M → M := mOp2 (onD2 dMulT)
@[simp] theorem e_mulT {a b : M} {sl : Sl} {st : Sto} : mMulT a b sl st = (a sl st).bind fun x st => (b sl st).bind fun y st => onD2 dMulT x y st := rfl
section
variable {X : Cx} {Wx : WX} {ea eb e : Expr} {ma mb mc : M} {pos p apos : Pos}
theorem op_mulT : OpR X (binaryOp .Mult) (fun x y H Q => ∃ a n, x = .str a ∧ y = .int n ∧ MulOk a n ∧ Q (.str (Txt.mul a n)) H) := by
  intro pins s sh H x y v u Q I rx ry ⟨a, n, ex, ey, ok, q⟩
  subst ex ey
  obtain ⟨t, rfl⟩ := rx
  obtain ⟨t', rfl⟩ := ry
  exact PySem.SB.mul ok fun t' k => ⟨.str (Txt.mul a n), H, I.tok _, ⟨_, rfl⟩, q⟩
theorem ge_mulT (ha : GE X Wx ea ma) (hb : GE X Wx eb mb) : GE X Wx (.BinOp ea .Mult eb pos) (mMulT ma mb) := by
  refine ge_op2 onD2_nx ?_ (pe_op op_mulT ha hb)
  intro W H st x y dx dy Q hr rx ry p0
  obtain ⟨d, e, p⟩ := onD2_post p0
  unfold dMulT at e
  split at e
  · rename_i a n ha hn
    split at e
    · rename_i ok
      cases e
      exact ⟨a, n, rep_dstr hr rx ha, rep_dint hr ry hn, ok, p.val hr rfl⟩
    · cases e
  · cases e
end
end Pv
set_option Elab.async false
set_option linter.all false
set_option maxRecDepth 100000
set_option maxHeartbeats 1000000
set_option pp.maxSteps 400
namespace Pv
open PySem PySem.Spec L2
open PyProof.Rows hiding St signs cutD pairD
def tyZ (st : Sto) (d : D) : Option Ty := match isGc d with
  | some _ => some .tuple
  | none => tyD st d
def mIsiZ (T : Ty) (m : M) : M := fun sl st => (m sl st).bind fun d st => lift ((tyZ st d).map fun t => .bool (t.sub T)) st
@[simp] theorem e_isiZ {T : Ty} {m : M} {sl : Sl} {st : Sto} : mIsiZ T m sl st = (m sl st).bind fun d st => lift ((tyZ st d).map fun t => .bool (t.sub T)) st := rfl
@[simp] theorem tyZ_gc {st : Sto} {ds : List D} : tyZ st (Gc ds) = some .tuple := rfl
@[simp] theorem tyZ_none {st : Sto} : tyZ st .none = some .non := rfl
@[simp] theorem tyZ_bool {st : Sto} {b : Bool} : tyZ st (.bool b) = some .bool := rfl
@[simp] theorem tyZ_int {st : Sto} {i : Int} : tyZ st (.int i) = some .int := rfl
@[simp] theorem tyZ_str {st : Sto} {x : Str} : tyZ st (.str x) = some .str := rfl
@[simp] theorem tyZ_list {st : Sto} {ds : List D} : tyZ st (.list ds) = some .list := rfl
@[simp] theorem tyZ_tuple {st : Sto} {ds : List D} : tyZ st (.tuple ds) = some .tuple := rfl
/-- a slice of such a tuple -/
def fSlZ (lo hi : Option Int) : F1 := fun x st => match isGc x with
  | some ds => .ok (Gc (cutD ds lo hi)) st
  | none => .bad
def mSlZ (ma : M) (lo hi : MO?) : M := fun sl st => (ma sl st).bind fun x st => (lo sl st).bind fun l st => (hi sl st).bind fun h st => fSlZ l h x st
@[simp] theorem e_slZ {ma : M} {lo hi : MO?} {sl : Sl} {st : Sto} : mSlZ ma lo hi sl st = (ma sl st).bind fun x st => (lo sl st).bind fun l st => (hi sl st).bind fun h st => fSlZ l h x st := rfl
@[simp] theorem fSlZ_gc {ds : List D} {lo hi : Option Int} {st : Sto} : fSlZ lo hi (Gc ds) st = .ok (Gc (cutD ds lo hi)) st := rfl
def fRevZ : F1 := fun x st => match isGc x with
  | some ds => .ok (Gc ds.reverse) st
  | none => .bad
def mRevZ (ma : M) : M := fun sl st => (ma sl st).bind fun x st => fRevZ x st
@[simp] theorem e_revZ {ma : M} {sl : Sl} {st : Sto} : mRevZ ma sl st = (ma sl st).bind fun x st => fRevZ x st := rfl
@[simp] theorem fRevZ_gc {ds : List D} {st : Sto} : fRevZ (Gc ds) st = .ok (Gc ds.reverse) st := rfl
mutual
/-- the same with plain tuples -/
def flat : D → D
  | .none => .none
  | .bool b => .bool b
  | .int i => .int i
  | .str x => .str x
  | .list ds => .list (flatL ds)
  | .tuple ds => .tuple (flatL ds)
  | .dict [(.none, .tuple ds)] => .tuple (flatL ds)
  | .dict kvs => .dict kvs
def flatL : List D → List D
  | [] => []
  | d :: ds => flat d :: flatL ds
end
def reprZ (d : D) : Option D := if (flat d).canLay0 = true ∧ (flat d).showable = true ∧ (flat d).depth ≤ 100 ∧ (flat d).shown.length ≤ sizeLine then some (.str (flat d).shown) else none
def mReprZ (m : M) : M := fun sl st => (m sl st).bind fun d st => lift (reprZ d) st
@[simp] theorem e_reprZ {m : M} {sl : Sl} {st : Sto} : mReprZ m sl st = (m sl st).bind fun d st => lift (reprZ d) st := rfl
@[simp] theorem flat_gc (ds : List D) : flat (Gc ds) = .tuple (flatL ds) := by unfold Gc flat; rfl
@[simp] theorem src_gc {ds : List D} {st : Sto} : srcOf (Gc ds) st = .ok ⟨ds, always⟩ st := rfl
@[simp] theorem isGc_list {ds : List D} : isGc (.list ds) = none := rfl
@[simp] theorem isGc_tuple {ds : List D} : isGc (.tuple ds) = none := rfl
end Pv
set_option Elab.async false
set_option linter.all false
set_option maxRecDepth 100000
set_option maxHeartbeats 3200000
namespace Pv
open PySem PySem.Spec L2
open PyProof.Rows hiding St signs cutD pairD
/-- each slot is met early enough -/
def Meets (m : Nat) : Prop := m ≤ 127 ∧ m % 2 = 1 ∧ ∀ (z : Int) (j : Nat), j ≤ m → ∃ k, k < 10 * SetTable.turns m ∧ way m z k = j
theorem Meets.ok {m : Nat} (h : MaskOk m) : Meets m := ⟨by rcases h with e | e | e <;> omega, mask_odd h, fun z j hj => nth_meets h z hj⟩
/-- the table of the hashes hs -/
structure TabP (t : SetTable) (hs : List Int) : Prop where
  ris : Ris t.place.toList
  dm : t.dummies = #[]
  sz : t.place.size = hs.length
  met : Meets t.mask
  reach : ∀ p ∈ hs.zip t.place.toList, ∃ k, way t.mask p.1 k = p.2 ∧ ∀ k', k' < k → way t.mask p.1 k' ∈ t.place.toList
theorem zip_mem {α β : Type} : ∀ {l : List α} {m : List β} {p : α × β}, p ∈ l.zip m → ∃ i : Nat, l[i]? = some p.1 ∧ m[i]? = some p.2
  | [], _, p, h => by simp at h
  | _ :: _, [], p, h => by simp at h
  | a :: l, b :: m, p, h => by
    rw [List.zip_cons_cons] at h
    rcases List.mem_cons.mp h with e | e
    · subst e; exact ⟨0, rfl, rfl⟩
    · obtain ⟨i, h1, h2⟩ := zip_mem e
      exact ⟨i + 1, by simpa using h1, by simpa using h2⟩
theorem mem_zip {α β : Type} : ∀ {l : List α} {m : List β} {i : Nat} {a : α} {b : β}, l[i]? = some a → m[i]? = some b → (a, b) ∈ l.zip m
  | [], _, i, a, b, h, _ => by simp at h
  | _ :: _, [], i, a, b, _, h => by simp at h
  | x :: l, y :: m, 0, a, b, h1, h2 => by
    cases (show some x = some a from h1); cases (show some y = some b from h2)
    rw [List.zip_cons_cons]; exact List.mem_cons_self
  | x :: l, y :: m, i + 1, a, b, h1, h2 => by
    rw [List.zip_cons_cons]
    exact List.mem_cons_of_mem _ (mem_zip (by simpa using h1) (by simpa using h2))
theorem TabP.of {t : SetTable} {hs : List Int} (T : TabOk t hs) : TabP t hs := ⟨T.ris, T.dm, T.sz, .ok T.mok, fun p hp => by
  obtain ⟨i, h1, h2⟩ := zip_mem hp
  exact T.reach i p.1 p.2 h1 h2⟩
theorem TabP.first {t : SetTable} {hs : List Int} (T : TabP t hs) (room : hs.length ≤ t.mask) (z : Int) : ∃ N, N < 10 * SetTable.turns t.mask ∧ way t.mask z N ∉ t.place.toList ∧ ∀ k, k < N → way t.mask z k ∈ t.place.toList := by
  obtain ⟨j, hj, hn⟩ := st_missing t.place.toList (t.mask + 1) (by rw [Array.length_toList, T.sz]; omega)
  obtain ⟨k, hk, e⟩ := T.met.2.2 z j (Nat.le_of_lt_succ hj)
  obtain ⟨N, h1, h2, h3⟩ := st_least (p := fun k => way t.mask z k ∉ t.place.toList) k (by show way t.mask z k ∉ _; rw [e]; exact hn)
  exact ⟨N, Nat.lt_of_le_of_lt h1 hk, h2, fun k' hk' => Classical.byContradiction fun q => h3 k' hk' q⟩
theorem TabP.before {t : SetTable} {hs : List Int} (T : TabP t hs) {z : Int} {N i j : Nat} (free : way t.mask z N ∉ t.place.toList) (hi : hs[i]? = some z) (hj : t.place.toList[i]? = some j) : ∃ k, k < N ∧ way t.mask z k = j := by
  obtain ⟨k, e, hb⟩ := T.reach _ (mem_zip hi hj)
  refine ⟨k, Nat.lt_of_not_le fun q => ?_, e⟩
  rcases Nat.lt_or_eq_of_le q with q | q
  · exact free (hb N q)
  · rw [q] at free
    exact free (by rw [show way t.mask z k = j from e]; exact List.mem_of_getElem? hj)
theorem TabP.put {t : SetTable} {hs : List Int} (T : TabP t hs) {z : Int} {N : Nat} (free : way t.mask z N ∉ t.place.toList) (occ : ∀ k, k < N → way t.mask z k ∈ t.place.toList) :
    (t.put (way t.mask z N)).2 = SetTable.below t.place (way t.mask z N) ∧ TabP (t.put (way t.mask z N)).1 (hs.take (SetTable.below t.place (way t.mask z N)) ++ z :: hs.drop (SetTable.below t.place (way t.mask z N))) ∧
    (t.put (way t.mask z N)).1.mask = t.mask ∧ (t.put (way t.mask z N)).1.led = t.led ∧ (t.put (way t.mask z N)).1.fill = hs.length + 1 := by
  obtain ⟨j, hj⟩ : ∃ j, j = way t.mask z N := ⟨_, rfl⟩
  rw [← hj] at free ⊢
  obtain ⟨cut, _, _⟩ := below_cut T.ris j
  have pl := put_place t j
  have new : t.place[SetTable.below t.place j]? ≠ some j := fun e => free (List.mem_of_getElem? (by rw [Array.getElem?_toList]; exact e))
  have len : t.place.toList.length = hs.length := by rw [Array.length_toList, T.sz]
  have cut1 : SetTable.below t.place j ≤ hs.length := by rw [← T.sz]; exact cut
  have cutp : SetTable.below t.place j ≤ t.place.toList.length := by rw [len]; exact cut1
  have q1 : (t.put j).2 = SetTable.below t.place j := rfl
  have ris1 : Ris (t.put j).1.place.toList := ris_insert T.ris new
  generalize SetTable.below t.place j = b at pl cut1 cutp q1 ⊢
  have sz1 : (t.put j).1.place.size = hs.length + 1 := by rw [← Array.length_toList, pl, len_ins _ cutp, len]
  have up : ∀ {x : Nat}, x ∈ t.place.toList → x ∈ (t.put j).1.place.toList := fun hx => by rw [pl]; exact mem_ins.2 (.inr hx)
  refine ⟨q1, ⟨ris1, put_dm T.dm j, by rw [sz1, len_ins _ cut1], T.met, fun p hp => ?_⟩, rfl, rfl, ?_⟩
  · show ∃ k, way t.mask p.1 k = p.2 ∧ ∀ k', k' < k → way t.mask p.1 k' ∈ (t.put j).1.place.toList
    have old : p ∈ hs.zip t.place.toList → ∃ k, way t.mask p.1 k = p.2 ∧ ∀ k', k' < k → way t.mask p.1 k' ∈ (t.put j).1.place.toList := fun h => by
      obtain ⟨k, e, q⟩ := T.reach p h
      exact ⟨k, e, fun k' hk' => up (q k' hk')⟩
    rw [pl, List.zip_append (by rw [List.length_take, List.length_take, len]), List.zip_cons_cons] at hp
    rcases List.mem_append.mp hp with h | h
    · obtain ⟨i, h1, h2⟩ := zip_mem h
      have hi : i < b := by
        have := (List.getElem?_eq_some_iff.mp h1).1
        rw [List.length_take] at this; omega
      rw [List.getElem?_take_of_lt hi] at h1 h2
      exact old (mem_zip h1 h2)
    · rcases List.mem_cons.mp h with h | h
      · subst h
        exact ⟨N, hj.symm, fun k' hk' => up (occ k' hk')⟩
      · obtain ⟨i, h1, h2⟩ := zip_mem h
        rw [List.getElem?_drop] at h1 h2
        exact old (mem_zip h1 h2)
  · show (t.put j).1.place.size + (t.put j).1.dummies.size = hs.length + 1
    rw [sz1, put_dm T.dm j]; rfl
/-- what is asked of such elements -/
structure ElemK (P : Program) (w : World) (κ : Type) [DecidableEq κ] where
  is : Heap → κ → Addr → Prop
  hash : κ → Int
  eqs : ∀ {A : Around} {E : Value → Shared → Prop} {s : Shared} {x y : κ} {a b : Addr} {Q : Bool → Shared → Prop}, A.units + 8 < cLine → is s.heap x a → is s.heap y b → Q (decide (x = y)) s → wpAny (model P w) A (eqBool (.ref a) (.ref b)) Q E s
  quiet : ∀ {A : Around} {E : Value → Shared → Prop} {s : Shared} {k : κ} {b : Addr} {ys : List Value} {Q : Bool → Shared → Prop}, is s.heap k b → (∀ y ∈ ys, ∃ j c, y = Value.ref c ∧ is s.heap j c) → Q false s → wpAny (model P w) A (searchCouldBeSeen (.ref b) ys) Q E s
  byv : ∀ {A : Around} {E : Value → Shared → Prop} {s : Shared} {k : κ} {b : Addr} {Q : Bool → Shared → Prop}, is s.heap k b → (∀ c, Q c s) → wpAny (model P w) A (hashByValue 8 (.ref b)) Q E s
  hsh : ∀ {A : Around} {E : Value → Shared → Prop} {s : Shared} {k : κ} {b : Addr} {Q : Int → Shared → Prop}, A.units + 8 < cLine → is s.heap k b → (∀ tk, s.toks ≤ tk → Q (hash k) { s with toks := tk }) → wpAny (model P w) A (pyHash (.ref b)) Q E s
  set : ∀ {h h' : Heap} {k : κ} {a b : Addr} {o : Obj} {es : Array (Int × Value)} {ep : Nat} {t : SetTable}, is h k b → h.get? a = some o → o.data = .set es ep t → Heap.SameBut a h h' → is h' k b
  more : ∀ {h h' : Heap} {k : κ} {b : Addr}, is h k b → (∀ c o, h.get? c = some o → h'.get? c = some o) → is h' k b
section
variable {P : Program} {w : World} {κ : Type} [DecidableEq κ] (D : ElemK P w κ)
def rowE (L : List (Addr × κ)) : List (Int × Value) := L.map fun p => (D.hash p.2, Value.ref p.1)
/-- at a stands the set of the elements L, its table as it should be -/
structure SetE (h : Heap) (a : Addr) (L : List (Addr × κ)) (es : Array (Int × Value)) (ep : Nat) (t : SetTable) : Prop where
  obj : ∃ o, h.get? a = some o ∧ o.ExactSet ∧ o.data = .set es ep t
  row : es.toList = rowE D L
  tab : TabP t (L.map fun p => D.hash p.2)
  nod : (L.map (·.2)).Nodup
  els : ∀ p ∈ L, D.is h p.2 p.1
  led : w.params.followText "set-order" = true ∨ t.led = true
  gap : L.length * 5 < t.mask * 3
  few : L.length < 64
end
section
variable {P : Program} {w : World} {κ : Type} [DecidableEq κ] {D : ElemK P w κ} {A : Around} {E : Value → Shared → Prop} {s : Shared} {a : Addr} {L : List (Addr × κ)} {es : Array (Int × Value)} {ep : Nat} {t : SetTable} {h h' : Heap}
theorem rowE_len : (rowE D L).length = L.length := List.length_map _
theorem SetE.size (R : SetE D h a L es ep t) : es.size = L.length := by rw [← Array.length_toList, R.row, rowE_len]
theorem SetE.psz (R : SetE D h a L es ep t) : t.place.size = L.length := by rw [R.tab.sz, List.length_map]
theorem SetE.fit (R : SetE D h a L es ep t) : t.fits es.size = true := by
  have h1 := R.psz; have h2 := R.size; have h3 := R.gap
  unfold SetTable.fits SetTable.fill
  rw [R.tab.dm, Bool.and_eq_true, beq_iff_eq, decide_eq_true_eq]
  exact ⟨by rw [h1, h2], by show t.place.size + 0 ≤ t.mask; omega⟩
theorem SetE.ent (R : SetE D h a L es ep t) {i : Nat} {p : Addr × κ} (e : L[i]? = some p) : es[i]? = some (D.hash p.2, Value.ref p.1) := by
  rw [← Array.getElem?_toList, R.row]
  show (L.map _)[i]? = _
  rw [List.getElem?_map, e]; rfl
theorem SetE.own (R : SetE D h a L es ep t) : ¬ t.gaveWay = true := by
  unfold SetTable.gaveWay
  rw [R.tab.met.2.1]; decide
theorem nth_dummy (m : Nat) : ∀ (n : Nat) (p : SetTable.Probe), p.dummy = none → (nth m p n).dummy = none
  | 0, _, e => e
  | n + 1, p, e => nth_dummy m n (adv m p) (by unfold adv; split <;> exact e)
/-- the n-th step of the way of hash z -/
abbrev stepE (m : Nat) (z : Int) (n : Nat) : SetTable.Probe := nth m (runAt m (SetTable.bits z % (m + 1)) (SetTable.bits z)) n
/-- looking for k, from the c-th step on; N is the first free slot -/
theorem SetE.look (R : SetE D s.heap a L es ep t) {x : Addr} {k : κ} (hx : D.is s.heap k x) (hu : A.units + 8 < cLine) {N : Nat} (lim : N < 10 * SetTable.turns t.mask) (free : way t.mask (D.hash k) N ∉ t.place.toList) (occ : ∀ c, c < N → way t.mask (D.hash k) c ∈ t.place.toList)
    {Q : SetFound → Shared → Prop} (yes : k ∈ L.map (·.2) → Q (.there none) s) (no : k ∉ L.map (·.2) → Q (.free (way t.mask (D.hash k) N) false) s) :
    ∀ (d c f : Nat) (stand : Option SetTable.Probe), c + d = N → d < f → stand.getD (t.probeStart (D.hash k)) = stepE t.mask (D.hash k) c → (∀ (i : Nat) p, L[i]? = some p → p.2 = k → ∃ c', c ≤ c' ∧ c' < N ∧ t.place.toList[i]? = some (way t.mask (D.hash k) c')) →
      wpAny (model P w) A (setSearchFrom a (.ref x) (D.hash k) true f stand) Q E s := by
  obtain ⟨ob, at1, ex, da⟩ := R.obj
  intro d
  induction d using Nat.strongRecOn with
  | ind d ih =>
    intro c f stand hcd hdf hst still
    obtain ⟨g, rfl⟩ : ∃ g, f = g + 1 := ⟨f - 1, by omega⟩
    rw [setSearchFrom_succ]
    refine wpAny_bind (wpAny_setState_of at1 da R.fit ?_)
    dsimp only
    refine wp_if_neg R.own ?_
    try refine wpAny_bind (wpAny_pure ?_)
    have jmp : ∀ q, (nth t.mask (stepE t.mask (D.hash k) c) q) = stepE t.mask (D.hash k) (c + q) := fun q => (nth_add t.mask c _ q).symm
    have jmpj : ∀ q, (nth t.mask (stepE t.mask (D.hash k) c) q).j = way t.mask (D.hash k) (c + q) := fun q => congrArg SetTable.Probe.j (jmp q)
    have hat : ∀ (i : Nat) p, L[i]? = some p → ((es[i]?.map (·.1)).getD 0) = D.hash p.2 := fun i p hp => by rw [R.ent hp]; rfl
    rcases go_spec t R.tab.ris R.tab.dm (fun i => (es[i]?.map (·.1)).getD 0) (D.hash k) (10 * SetTable.turns t.mask) d (stepE t.mask (D.hash k) c) (nth_dummy t.mask c _ rfl) (by omega)
      (fun q hq => by rw [jmpj]; exact occ _ (by omega)) (by rw [jmpj, hcd]; exact free) with ⟨q, i, hq, hi, _, before, ans⟩ | ⟨before, ans⟩
    · rw [show t.probe (fun i => (es[i]?.map (·.1)).getD 0) (D.hash k) (stand.getD (t.probeStart (D.hash k))) = some (.candidate (way t.mask (D.hash k) (c + q)) i (stepE t.mask (D.hash k) (c + (q + 1)))) from by
        rw [hst, ← jmpj, ← jmp]; exact ans]
      dsimp only
      rw [jmpj] at hi
      have hil : i < L.length := by
        have h1 := (List.getElem?_eq_some_iff.mp hi).1
        rw [Array.length_toList, R.psz] at h1
        exact h1
      obtain ⟨p, hp⟩ : ∃ p, L[i]? = some p := ⟨_, List.getElem?_eq_getElem hil⟩
      have hpm := List.mem_of_getElem? hp
      have body : wpAny (model P w) A (searchRest a (.ref x) (D.hash k) true g es t (way t.mask (D.hash k) (c + q)) i (stepE t.mask (D.hash k) (c + (q + 1)))) Q E s := by
        unfold searchRest
        rw [R.ent hp]
        dsimp only
        refine wpAny_bind (wpAny_holding (D.eqs hu (R.els p hpm) hx ?_))
        refine wpAny_bind (wpAny_setState_of at1 da R.fit ?_)
        dsimp only
        by_cases e : p.2 = k
        · exact wp_if_pos (by simp [e]) (wpAny_pure (yes (List.mem_map.mpr ⟨p, hpm, e⟩)))
        · refine wp_if_neg (by simp [e]) ?_
          try refine wpAny_bind (wpAny_pure ?_)
          rw [sameMem]
          dsimp only
          have live : t.slot (way t.mask (D.hash k) (c + q)) = .live i := slot_live R.tab.ris hi
          simp only [if_true, live, R.ent hp]
          refine wpAny_bind (wpAny_isSame_ref_self (wpAny_bind (wpAny_pure ?_)))
          simp only [if_true]
          refine wp_if_neg (by simp [e]) ?_
          refine ih (d - (q + 1)) (by omega) (c + (q + 1)) g _ (by omega) (by omega) rfl fun i0 p0 h0 hk0 => ?_
          obtain ⟨c', b1, b2, b3⟩ := still i0 p0 h0 hk0
          refine ⟨c', ?_, b2, b3⟩
          rcases Nat.lt_trichotomy c' (c + q) with z | z | z
          · exact absurd ((hat i0 p0 h0).trans (congrArg D.hash hk0)) (before (c' - c) i0 (by omega) (by rw [jmpj, show c + (c' - c) = c' by omega]; exact b3))
          · rw [z] at b3
            have l2 := slot_live R.tab.ris b3
            rw [live] at l2
            injection l2 with l2
            rw [← l2, hp] at h0
            cases h0
            exact absurd hk0 e
          · omega
      by_cases tl : t.led = true
      · refine wp_if_neg (by simp [tl]) ?_
        try refine wpAny_bind (wpAny_pure ?_)
        exact body
      · refine wp_if_pos (by simp [tl]) ?_
        refine wpAny_bind (D.quiet hx (fun y hy => ?_) ?_)
        · obtain ⟨e, he, rfl⟩ := List.mem_map.mp hy
          have he1 : e ∈ es.toList := by
            have : e ∈ es ∧ e.1 = D.hash k := by simpa using he
            simpa using this.1
          rw [R.row] at he1
          obtain ⟨p2, hp2, rfl⟩ := List.mem_map.mp he1
          exact ⟨p2.2, p2.1, rfl, R.els p2 hp2⟩
        · refine wp_if_neg (by decide) ?_
          try refine wpAny_bind (wpAny_pure ?_)
          exact body
    · rw [show t.probe (fun i => (es[i]?.map (·.1)).getD 0) (D.hash k) (stand.getD (t.probeStart (D.hash k))) = some (.empty (way t.mask (D.hash k) N) none) from by
        have e2 : way t.mask (D.hash k) N = (nth t.mask (stepE t.mask (D.hash k) c) d).j := by rw [jmpj, hcd]
        rw [hst, e2]; exact ans]
      dsimp only
      refine wpAny_pure (no fun hm => ?_)
      obtain ⟨p0, h0, hk0⟩ := List.mem_map.mp hm
      obtain ⟨i0, hi0⟩ := List.mem_iff_getElem?.mp h0
      obtain ⟨c', b1, b2, b3⟩ := still i0 p0 hi0 hk0
      exact before (c' - c) i0 (by omega) (by rw [jmpj, show c + (c' - c) = c' by omega]; exact b3) ((hat i0 p0 hi0).trans (congrArg D.hash hk0))
theorem SetE.seek (R : SetE D s.heap a L es ep t) {x : Addr} {k : κ} (hx : D.is s.heap k x) (hu : A.units + 8 < cLine) {Q : SetFound → Shared → Prop} (yes : k ∈ L.map (·.2) → Q (.there none) s)
    (no : ∀ N, k ∉ L.map (·.2) → way t.mask (D.hash k) N ∉ t.place.toList → (∀ c, c < N → way t.mask (D.hash k) c ∈ t.place.toList) → Q (.free (way t.mask (D.hash k) N) false) s) :
    wpAny (model P w) A (setSearch a (.ref x) (D.hash k) true) Q E s := by
  obtain ⟨N, lim, free, occ⟩ := R.tab.first (by rw [List.length_map]; have := R.gap; omega) (D.hash k)
  have far : 10 * SetTable.turns t.mask < 100000 := by
    have := R.tab.met.1
    unfold SetTable.turns
    omega
  unfold setSearch
  refine R.look hx hu lim free occ yes (fun hn => no N hn free occ) N 0 100000 none (Nat.zero_add N) (by omega) rfl fun i p hp hk => ?_
  have h1 : (L.map fun p => D.hash p.2)[i]? = some (D.hash k) := by rw [List.getElem?_map, hp, ← hk]; rfl
  have h2 : i < t.place.toList.length := by rw [Array.length_toList, R.psz]; exact (List.getElem?_eq_some_iff.mp hp).1
  have hj := List.getElem?_eq_getElem h2
  obtain ⟨c, hc, e⟩ := R.tab.before free h1 hj
  exact ⟨c, Nat.zero_le _, hc, by rw [hj, e]⟩
end
end Pv
set_option Elab.async false
set_option linter.all false
set_option maxRecDepth 100000
set_option maxHeartbeats 3200000
namespace Pv
open PySem PySem.Spec L2
open PyProof.Rows hiding St signs cutD pairD
theorem fmap_range {α : Type} (l : List α) : ∀ n, n ≤ l.length → (List.range n).filterMap (fun i => l[i]?) = l.take n
  | 0, _ => rfl
  | n + 1, h => by
    rw [List.range_succ, List.filterMap_append, fmap_range l n (by omega), List.take_succ, List.getElem?_eq_getElem (by omega : n < l.length)]
    simp [List.getElem?_eq_getElem (by omega : n < l.length)]
theorem fmap_all {α β : Type} {f : α → Option β} {g : α → β} : ∀ {l : List α}, (∀ x ∈ l, f x = some (g x)) → l.filterMap f = l.map g
  | [], _ => rfl
  | x :: l, h => by rw [List.filterMap_cons_some (h x List.mem_cons_self), fmap_all fun y hy => h y (List.mem_cons_of_mem _ hy), List.map_cons]
section
variable {P : Program} {w : World} {κ : Type} [DecidableEq κ] {D : ElemK P w κ} {A : Around} {E : Value → Shared → Prop} {s : Shared} {a : Addr} {L : List (Addr × κ)} {es : Array (Int × Value)} {ep : Nat} {t : SetTable} {h h' : Heap}
theorem order_E (es : Array (Int × Value)) (order : Array Nat) (row : es.toList = rowE D L) (pm : order.toList.Perm (List.range L.length)) :
    ∃ L2, (order.filterMap (es[·]?)).toList = rowE D L2 ∧ L2.Perm L ∧ (L2.map fun p => D.hash p.2) = order.toList.map fun i => (es.map (·.1)).getD i 0 := by
  have ent : ∀ i, es[i]? = (L[i]?).map fun (p : Addr × κ) => (D.hash p.2, Value.ref p.1) := fun i => by
    rw [← Array.getElem?_toList, row]
    exact List.getElem?_map ..
  have lt : ∀ i ∈ order.toList, i < L.length := fun i hi => List.mem_range.mp (pm.mem_iff.mp hi)
  refine ⟨order.toList.filterMap (fun i => L[i]?), ?_, ?_, ?_⟩
  · rw [Array.toList_filterMap]
    unfold rowE
    rw [List.map_filterMap]
    exact fm_congr fun i _ => ent i
  · have q : (order.toList.filterMap fun i => L[i]?).Perm ((List.range L.length).filterMap fun i => L[i]?) := pm.filterMap _
    rwa [fmap_range L L.length (Nat.le_refl _), List.take_length] at q
  · rw [List.map_filterMap]
    refine fmap_all fun i hi => ?_
    have e := ent i
    rw [List.getElem?_eq_getElem (lt i hi)] at e ⊢
    have e2 : (es.map (·.1))[i]? = some (D.hash (L[i]'(lt i hi)).2) := by rw [Array.getElem?_map, e]; rfl
    rw [Array.getD_eq_getD_getElem?, e2]
    rfl
/-- the table laid down again, larger -/
theorem setE_relay {o : Obj} (at1 : s.heap.get? a = some o) (ex : o.ExactSet) (da : o.data = .set es ep t) (row : es.toList = rowE D L) (psz : t.place.size = es.size) (dm : t.dummies = #[]) (fl : es.size ≤ t.mask)
    (nod : (L.map (·.2)).Nodup) (els : ∀ p ∈ L, D.is s.heap p.2 p.1) (led : w.params.followText "set-order" = true ∨ t.led = true) (few : L.length < 64) {want M : Nat}
    (hw : SetTable.sizeAbove want - 1 = M) (hM : MaskOk M) (h128 : SetTable.sizeAbove want ≤ 128) (gap : L.length * 5 < M * 3) {Q : Unit → Shared → Prop}
    (fin : ∀ h' L' es' ep' t', Heap.SameBut a s.heap h' → SetE D h' a L' es' ep' t' → L'.Perm L → t'.mask = M → Q () { s with heap := h' }) : wpAny (model P w) A (setRelay a want) Q E s := by
  have sz : es.size = L.length := by rw [← Array.length_toList, row, rowE_len]
  have fits : t.fits es.size = true := by
    unfold SetTable.fits SetTable.fill
    rw [dm, Bool.and_eq_true, beq_iff_eq, decide_eq_true_eq]
    exact ⟨psz, by show t.place.size + 0 ≤ t.mask; omega⟩
  obtain ⟨t2, order, e, pm, T, em, el, ep2, _⟩ := relaid_ok t (hs := es.map (·.1)) (wanted := want) hw hM (by rw [Array.size_map, sz]; omega)
  rw [Array.size_map, sz] at pm
  obtain ⟨L2, r1, r2, r3⟩ := order_E es order row pm
  rw [← r3] at T
  have sz2 : (order.filterMap (es[·]?)).size = es.size := by rw [← Array.length_toList, r1, rowE_len, r2.length_eq, sz]
  rw [setRelay_eq]
  refine wpAny_bind (wpAny_setState_of at1 da fits ?_)
  dsimp only
  refine wp_if_neg (by rw [sizeLine_eq]; omega) ?_
  try refine wpAny_bind (wpAny_pure ?_)
  rw [e]
  dsimp only
  refine wpAny_bind ?_
  refine wp_if_neg (by rw [sz2]; simp) ?_
  try refine wpAny_bind (wpAny_pure ?_)
  refine wpAny_pure ?_
  dsimp only
  refine wpAny_storeSet_of at1 da ?_ (by rw [sz2, sz, sizeLine_eq]; omega)
  have sb : Heap.SameBut a s.heap (s.heap.update a (Obj.putSet (order.filterMap (es[·]?)) t2)) := Heap.SameBut.update ..
  exact fin _ L2 _ (ep + 1) t2 sb ⟨⟨_, store_at at1 da, ⟨ex.1, ex.2.1, ex.2.2⟩, rfl⟩, r1, .of T, (r2.map (·.2)).nodup_iff.mpr nod, fun p hp => D.set (els p (r2.mem_iff.mp hp)) at1 da sb, by rw [el]; exact led, by rw [r2.length_eq, em]; exact gap, by rw [r2.length_eq]; exact few⟩ r2 em
/-- a member is put in -/
theorem SetE.add (R : SetE D s.heap a L es ep t) {x : Addr} {k : κ} (hx : D.is s.heap k x) (hu : A.units + 8 < cLine) (room : L.length + 1 < 64) (road : MaskOk t.mask ∨ (L.length + 1) * 5 < t.mask * 3) {Q : Bool → Shared → Prop}
    (fin : ∀ b h' L' es' ep' t', Heap.SameBut a s.heap h' → SetE D h' a L' es' ep' t' → (k ∈ L.map (·.2) → L' = L) → (k ∉ L.map (·.2) → L'.Perm ((x, k) :: L)) → (MaskOk t.mask → MaskOk t'.mask) → ((L.length + 1) * 5 < t.mask * 3 → t'.mask = t.mask) → Q b { s with heap := h' }) :
    wpAny (model P w) A (setAddHashed a (.ref x) (D.hash k)) Q E s := by
  obtain ⟨ob, at1, ex, da⟩ := R.obj
  have sz := R.size; have gap := R.gap; have psz := R.psz
  unfold setAddHashed
  refine wpAny_holding ?_
  rw [show (100000 : Nat) = 99999 + 1 from rfl, setAddHashedIn_succ]
  refine wpAny_bind (wpAny_setState_of at1 da R.fit ?_)
  dsimp only
  refine wp_if_neg (by simp [byScan, Value.scannable]) ?_
  try refine wpAny_bind (wpAny_pure ?_)
  refine wpAny_bind (R.seek hx hu (fun hm => ?_) fun N hm free occ => ?_)
  · dsimp only
    exact wpAny_pure (fin false s.heap L es ep t (Heap.SameBut.refl a s.heap) R (fun _ => rfl) (fun z => absurd hm z) id fun _ => rfl)
  dsimp only
  refine wpAny_bind (wpAny_setState_of at1 da R.fit ?_)
  dsimp only
  obtain ⟨q1, q3, q4, q5, q9⟩ := R.tab.put free occ
  generalize way t.mask (D.hash k) N = j at q1 q3 q4 q5 q9 ⊢
  generalize hb : SetTable.below t.place j = b at q1 q3 ⊢
  obtain ⟨L1, hL1⟩ : ∃ L1, L1 = L.take b ++ (x, k) :: L.drop b := ⟨_, rfl⟩
  have pm : L1.Perm ((x, k) :: L) := by rw [hL1]; exact put_perm L b (x, k)
  have len1 : L1.length = L.length + 1 := pm.length_eq
  have hs1 : (L.map fun p => D.hash p.2).take b ++ D.hash k :: (L.map fun p => D.hash p.2).drop b = L1.map fun p => D.hash p.2 := by
    rw [hL1, List.map_append, List.map_cons, List.map_take, List.map_drop]
  rw [hs1] at q3
  have row1 : (SetTable.insertAt es b (D.hash k, Value.ref x)).toList = rowE D L1 := by
    rw [SetTable.toList_insertAt, R.row, hL1]
    unfold rowE
    rw [List.map_append, List.map_cons, List.map_take, List.map_drop]
  have sz1 : (SetTable.insertAt es b (D.hash k, Value.ref x)).size = L.length + 1 := by rw [← Array.length_toList, row1, rowE_len, len1]
  have nod1 : (L1.map (·.2)).Nodup := (pm.map (·.2)).nodup_iff.mpr (by rw [List.map_cons]; exact List.nodup_cons.mpr ⟨hm, R.nod⟩)
  have led1 : w.params.followText "set-order" = true ∨ (t.put j).1.led = true := by rw [q5]; exact R.led
  clear hL1
  generalize hpt : t.put j = pt at q1 q3 q4 q5 q9 led1 ⊢
  obtain ⟨t1, b1⟩ := pt
  dsimp only at q1 q3 q4 q5 q9 led1 ⊢
  subst q1
  generalize SetTable.insertAt es b1 (D.hash k, Value.ref x) = es1 at row1 sz1 ⊢
  have tabs : ∀ c : Bool, TabP (if c = true then t1 else { t1 with plain := false }) (L1.map fun p => D.hash p.2) ∧ (if c = true then t1 else { t1 with plain := false }).mask = t.mask ∧ (w.params.followText "set-order" = true ∨ (if c = true then t1 else { t1 with plain := false }).led = true) ∧ (if c = true then t1 else { t1 with plain := false }).fill = (L.map fun p => D.hash p.2).length + 1 := by
    intro c
    cases c
    · exact ⟨⟨q3.ris, q3.dm, q3.sz, q3.met, q3.reach⟩, q4, led1, q9⟩
    · exact ⟨q3, q4, led1, q9⟩
  by_cases hpl : t1.plain = true
  · first
      | (refine wpAny_bind ?_; refine wp_if_pos hpl ?_; refine D.byv hx fun c => ?_)
      | refine wp_if_pos hpl (wpAny_bind (D.byv hx fun c => ?_))
    obtain ⟨u3, u4, led2, u9⟩ := tabs c
    generalize (if c = true then t1 else { t1 with plain := false } : SetTable) = t2 at u3 u4 led2 u9 ⊢
    refine wpAny_bind (wpAny_storeSet_of at1 da ?_ (by rw [sz1, sizeLine_eq]; omega))
    have sb : Heap.SameBut a s.heap (s.heap.update a (Obj.putSet es1 t2)) := Heap.SameBut.update ..
    have at2 := store_at (es' := es1) (t' := t2) at1 da
    generalize s.heap.update a (Obj.putSet es1 t2) = h1 at sb at2 ⊢
    have els1 : ∀ p ∈ L1, D.is h1 p.2 p.1 := fun p hp => by
      rcases List.mem_cons.mp (pm.mem_iff.mp hp) with e | hp
      · rw [e]; exact D.set hx at1 da sb
      · exact D.set (R.els p hp) at1 da sb
    have few1 : L1.length < 64 := by rw [len1]; exact room
    by_cases full : t2.tooFull = true
    · first
        | (refine wpAny_bind ?_; refine wp_if_pos (by simp [full]) ?_)
        | (refine wp_if_pos (by simp [full]) ?_; refine wpAny_bind ?_)
      have big : (L.length + 1) * 5 ≥ t2.mask * 3 := by
        have z := full
        unfold SetTable.tooFull at z
        rw [decide_eq_true_eq, u9, List.length_map] at z
        exact z
      rw [sz]
      have psz1 : t2.place.size = es1.size := by rw [u3.sz, List.length_map, len1, sz1]
      have two : (t.mask = 7 ∧ L.length = 4) ∨ (t.mask = 31 ∧ L.length = 18) := by
        rcases road.resolve_right (by rw [u4] at big; omega) with e | e | e
        · exact .inl ⟨e, by rw [u4, e] at big; rw [e] at gap; omega⟩
        · exact .inr ⟨e, by rw [u4, e] at big; rw [e] at gap; omega⟩
        · rw [u4, e] at big; omega
      have go : ∀ M, SetTable.sizeAbove (SetTable.grown (L.length + 1)) - 1 = M → MaskOk M → SetTable.sizeAbove (SetTable.grown (L.length + 1)) ≤ 128 → (L.length + 1) * 5 < M * 3 →
          wpAny (model P w) A (setRelay a (SetTable.grown (L.length + 1))) (fun _ s' => wpAny (model P w) A (pure true) Q E s') E { s with heap := h1 } := fun M m1 m2 m3 m4 =>
        setE_relay (s := { s with heap := h1 }) at2 ⟨ex.1, ex.2.1, ex.2.2⟩ rfl row1 psz1 u3.dm (by rw [sz1, u4]; rcases two with ⟨e, e2⟩ | ⟨e, e2⟩ <;> omega) nod1 els1 led2 few1 m1 m2 m3 (by rw [len1]; exact m4)
          fun h2 L2 es2 ep2 t3 sb2 R2 pm2 em2 => wpAny_pure (fin true h2 L2 es2 ep2 t3 (sb.trans sb2) R2 (fun z => absurd z hm) (fun _ => pm2.trans pm) (fun _ => by rw [em2]; exact m2) fun q => absurd big (by rw [u4]; omega))
      rcases two with ⟨_, e2⟩ | ⟨_, e2⟩
      · exact go 31 (by rw [e2, size_20]) (.inr (.inl rfl)) (by rw [e2, size_20]; decide) (by omega)
      · exact go 127 (by rw [e2, size_76]) (.inr (.inr rfl)) (by rw [e2, size_76]; decide) (by omega)
    · first
        | refine wp_if_neg (by simp [full]) ?_
        | (refine wpAny_bind ?_; refine wp_if_neg (by simp [full]) ?_; refine wpAny_pure ?_)
      refine wpAny_pure (fin true h1 L1 es1 (ep + 1) t2 sb ⟨⟨_, at2, ⟨ex.1, ex.2.1, ex.2.2⟩, rfl⟩, row1, u3, nod1, els1, led2, ?_, few1⟩ (fun z => absurd z hm) (fun _ => pm) (fun q => by rw [u4]; exact q) fun _ => u4)
      have z := full
      unfold SetTable.tooFull at z
      rw [decide_eq_true_eq, u9, List.length_map] at z
      rw [len1]
      omega
  · first
      | (refine wpAny_bind ?_; refine wp_if_neg hpl ?_; refine wpAny_pure ?_)
      | refine wp_if_neg hpl (wpAny_bind (wpAny_pure ?_))
    obtain ⟨u3, u4, led2, u9⟩ := tabs true
    generalize (if true = true then t1 else { t1 with plain := false } : SetTable) = t2 at u3 u4 led2 u9 ⊢
    refine wpAny_bind (wpAny_storeSet_of at1 da ?_ (by rw [sz1, sizeLine_eq]; omega))
    have sb : Heap.SameBut a s.heap (s.heap.update a (Obj.putSet es1 t2)) := Heap.SameBut.update ..
    have at2 := store_at (es' := es1) (t' := t2) at1 da
    generalize s.heap.update a (Obj.putSet es1 t2) = h1 at sb at2 ⊢
    have els1 : ∀ p ∈ L1, D.is h1 p.2 p.1 := fun p hp => by
      rcases List.mem_cons.mp (pm.mem_iff.mp hp) with e | hp
      · rw [e]; exact D.set hx at1 da sb
      · exact D.set (R.els p hp) at1 da sb
    have few1 : L1.length < 64 := by rw [len1]; exact room
    by_cases full : t2.tooFull = true
    · first
        | (refine wpAny_bind ?_; refine wp_if_pos (by simp [full]) ?_)
        | (refine wp_if_pos (by simp [full]) ?_; refine wpAny_bind ?_)
      have big : (L.length + 1) * 5 ≥ t2.mask * 3 := by
        have z := full
        unfold SetTable.tooFull at z
        rw [decide_eq_true_eq, u9, List.length_map] at z
        exact z
      rw [sz]
      have psz1 : t2.place.size = es1.size := by rw [u3.sz, List.length_map, len1, sz1]
      have two : (t.mask = 7 ∧ L.length = 4) ∨ (t.mask = 31 ∧ L.length = 18) := by
        rcases road.resolve_right (by rw [u4] at big; omega) with e | e | e
        · exact .inl ⟨e, by rw [u4, e] at big; rw [e] at gap; omega⟩
        · exact .inr ⟨e, by rw [u4, e] at big; rw [e] at gap; omega⟩
        · rw [u4, e] at big; omega
      have go : ∀ M, SetTable.sizeAbove (SetTable.grown (L.length + 1)) - 1 = M → MaskOk M → SetTable.sizeAbove (SetTable.grown (L.length + 1)) ≤ 128 → (L.length + 1) * 5 < M * 3 →
          wpAny (model P w) A (setRelay a (SetTable.grown (L.length + 1))) (fun _ s' => wpAny (model P w) A (pure true) Q E s') E { s with heap := h1 } := fun M m1 m2 m3 m4 =>
        setE_relay (s := { s with heap := h1 }) at2 ⟨ex.1, ex.2.1, ex.2.2⟩ rfl row1 psz1 u3.dm (by rw [sz1, u4]; rcases two with ⟨e, e2⟩ | ⟨e, e2⟩ <;> omega) nod1 els1 led2 few1 m1 m2 m3 (by rw [len1]; exact m4)
          fun h2 L2 es2 ep2 t3 sb2 R2 pm2 em2 => wpAny_pure (fin true h2 L2 es2 ep2 t3 (sb.trans sb2) R2 (fun z => absurd z hm) (fun _ => pm2.trans pm) (fun _ => by rw [em2]; exact m2) fun q => absurd big (by rw [u4]; omega))
      rcases two with ⟨_, e2⟩ | ⟨_, e2⟩
      · exact go 31 (by rw [e2, size_20]) (.inr (.inl rfl)) (by rw [e2, size_20]; decide) (by omega)
      · exact go 127 (by rw [e2, size_76]) (.inr (.inr rfl)) (by rw [e2, size_76]; decide) (by omega)
    · first
        | refine wp_if_neg (by simp [full]) ?_
        | (refine wpAny_bind ?_; refine wp_if_neg (by simp [full]) ?_; refine wpAny_pure ?_)
      refine wpAny_pure (fin true h1 L1 es1 (ep + 1) t2 sb ⟨⟨_, at2, ⟨ex.1, ex.2.1, ex.2.2⟩, rfl⟩, row1, u3, nod1, els1, led2, ?_, few1⟩ (fun z => absurd z hm) (fun _ => pm) (fun q => by rw [u4]; exact q) fun _ => u4)
      have z := full
      unfold SetTable.tooFull at z
      rw [decide_eq_true_eq, u9, List.length_map] at z
      rw [len1]
      omega
theorem SetE.at (R : SetE D h a L es ep t) (keep : ∀ o, h.get? a = some o → h'.get? a = some o) (els : ∀ p ∈ L, D.is h' p.2 p.1) : SetE D h' a L es ep t := by
  obtain ⟨o, ho, r⟩ := R.obj
  exact ⟨⟨o, keep o ho, r⟩, R.row, R.tab, R.nod, els, R.led, R.gap, R.few⟩
/-- of the elements ks, just those of the first i have come in -/
structure Came (ks : List (Addr × κ)) (i : Nat) (L : List (Addr × κ)) : Prop where
  sub : ∀ p ∈ L, p ∈ ks
  all : ∀ k, k ∈ L.map (·.2) ↔ k ∈ (ks.take i).map (·.2)
  len : L.length ≤ i
theorem Came.step {ks L L' : List (Addr × κ)} {i : Nat} {p : Addr × κ} (g : Came ks i L) (hp : ks[i]? = some p) (c1 : p.2 ∈ L.map (·.2) → L' = L) (c2 : p.2 ∉ L.map (·.2) → L'.Perm (p :: L)) : Came ks (i + 1) L' := by
  have e : (ks.take (i + 1)).map (·.2) = (ks.take i).map (·.2) ++ [p.2] := by rw [List.take_add_one, hp, List.map_append]; rfl
  by_cases c : p.2 ∈ L.map (·.2)
  · rw [c1 c]
    refine ⟨g.sub, fun k => ?_, Nat.le_succ_of_le g.len⟩
    rw [e, List.mem_append, List.mem_singleton, g.all]
    exact ⟨.inl, fun q => q.elim id fun z => by rw [z]; exact (g.all _).mp c⟩
  · have pm := c2 c
    refine ⟨fun q hq => ?_, fun k => ?_, by rw [pm.length_eq, List.length_cons]; exact Nat.succ_le_succ g.len⟩
    · rcases List.mem_cons.mp (pm.mem_iff.mp hq) with z | z
      · rw [z]; exact List.mem_of_getElem? hp
      · exact g.sub q z
    · rw [e, (pm.map (·.2)).mem_iff, List.map_cons, List.mem_cons, List.mem_append, List.mem_singleton, g.all]
      exact Or.comm
end
end Pv
set_option Elab.async false
set_option linter.all false
set_option maxRecDepth 100000
set_option maxHeartbeats 3200000
namespace Pv
open PySem PySem.Spec L2
open PyProof.Rows hiding St signs cutD pairD
end Pv
set_option Elab.async false
set_option linter.all false
set_option maxRecDepth 100000
set_option maxHeartbeats 1000000
namespace Pv
open PySem PySem.Spec L2
open PyProof.Rows hiding St signs cutD pairD
end Pv
set_option Elab.async false
set_option linter.all false
set_option maxRecDepth 100000
set_option maxHeartbeats 1000000
namespace Pv
open PySem PySem.Spec L2
open PyProof.Rows hiding St signs cutD pairD
def dKey : L2.Key → PyData
  | .inl i => .int i
  | .inr x => .str x
def encK (k : List L2.Key) : PyData := .tuple (k.map dKey)
def ltK (k j : List L2.Key) : Bool := PySem.W.dataLt (encK k) (encK j)
end Pv
set_option Elab.async false
set_option linter.all false
set_option maxRecDepth 100000
set_option maxHeartbeats 1000000
namespace Pv
open PySem PySem.Spec L2
open PyProof.Rows hiding St signs cutD pairD
def keyD : D → Option L2.Key
  | .int i => some (.inl i)
  | .str x => some (.inr x)
  | _ => none
def keysD : List D → Option (List L2.Key)
  | [] => some []
  | d :: ds => match keyD d, keysD ds with
    | some k, some ks => some (k :: ks)
    | _, _ => none
def tupK : D → Option (List L2.Key)
  | .tuple (d :: ds) => keysD (d :: ds)
  | _ => none
def tupsK : List D → Option (List (List L2.Key))
  | [] => some []
  | d :: ds => match tupK d, tupsK ds with
    | some k, some ks => some (k :: ks)
    | _, _ => none
@[simp] theorem keyD_of (k : L2.Key) : keyD (dKey k) = some k := by cases k <;> rfl
def alikeK (ks : List (List L2.Key)) : Bool := ks.all fun k => ks.all fun j => PySem.W.alike (encK k) (encK j)
def dSrtP : D → Option D
  | .list ds => (tupsK ds).bind fun ks => if ks.length < 64 ∧ alikeK ks = true then some (.list ((srtO ltK ks).map encK)) else none
  | _ => none
def mSrtP : M → M := mOp1 (onD1 dSrtP)
@[simp] theorem e_srtP {a : M} {sl : Sl} {st : Sto} : mSrtP a sl st = (a sl st).bind fun x st => lift (dSrtP (deref st x)) st := rfl
end Pv
set_option Elab.async false
set_option linter.all false
set_option maxRecDepth 100000
set_option maxHeartbeats 3200000
namespace Pv
open PySem PySem.Spec L2
open PyProof.Rows hiding St signs cutD pairD
end Pv
set_option Elab.async false
set_option linter.all false
set_option maxRecDepth 100000
set_option maxHeartbeats 3200000
namespace Pv
open PySem PySem.Spec L2
open PyProof.Rows hiding St signs cutD pairD
end Pv
set_option Elab.async false
set_option linter.all false
set_option maxRecDepth 100000
set_option maxHeartbeats 1000000
namespace Pv
open PySem PySem.Spec L2
open PyProof.Rows hiding St signs cutD pairD
section
variable {K : PySem.W.Frag} {W : Wd} {H : Hp} {st : Sto} {a : Addr} {xs : List V}
/-- a tuple that stands is one that never changes -/
theorem HR.frz (h : HR K W H st) (e : H a = some (.tup xs)) : HR K ⟨upd W.F a (.tup xs), W.rho⟩ H st ∧ Ext W H ⟨upd W.F a (.tup xs), W.rho⟩ H := by
  have hn : a ∉ W.rho := fun ha => by
    obtain ⟨r, hr⟩ := List.mem_iff_getElem?.mp ha
    obtain ⟨m, hm, _, q⟩ := h.at hr
    cases m with
    | lst ds => obtain ⟨ys, z, _⟩ := q; rw [e] at z; cases z
    | ro ds => obtain ⟨o, ys, z, _⟩ := q; rw [e] at z; cases z
    | dct ds => obtain ⟨ys, z, _⟩ := q; rw [e] at z; cases z
    | dctT ds => obtain ⟨ys, z, _⟩ := q; rw [e] at z; cases z
    | tb P q' => obtain ⟨_, ps, z⟩ := q; rw [e] at z; cases z
  have hf : ∀ b u, W.F b = some u → upd W.F a (.tup xs) b = some u := fun b u z => by
    by_cases hb : b = a
    · subst hb
      have := h.sub _ _ z
      rw [e] at this; cases this
      exact upd_same
    · rw [upd_ne hb]; exact z
  refine ⟨⟨h.len, h.nd, fun b u z => ?_, fun r b m e1 e2 => ?_, h.tab, fun b ps z => ?_⟩, ⟨hf, ⟨[], by simp, fun _ z => by cases z⟩, fun _ _ z _ _ => z, fun _ z => z, fun b u z => ?_⟩⟩
  · have z' : upd W.F a (.tup xs) b = some u := z
    by_cases hb : b = a
    · subst hb; rw [upd_same] at z'; cases z'; exact e
    · rw [upd_ne hb] at z'; exact h.sub b u z'
  · have hb : b ≠ a := fun z => hn (by rw [← z]; exact List.mem_of_getElem? e1)
    obtain ⟨p, q⟩ := h.obj r b m e1 e2
    exact ⟨by show upd W.F a (.tup xs) b = none; rw [upd_ne hb]; exact p, repO_mono (W := W) hf (fun _ _ z => z) (fun u z => z) q⟩
  · have z' : upd W.F a (.tup xs) b = some (.tbl ps) := z
    by_cases hb : b = a
    · subst hb; rw [upd_same] at z'; cases z'
    · rw [upd_ne hb] at z'; exact h.nt b ps z'
  · have z' : upd W.F a (.tup xs) b = some u := z
    by_cases hb : b = a
    · subst hb; exact .inr (.inr ⟨hn, xs, e⟩)
    · rw [upd_ne hb] at z'; exact .inl z'
end
def dSrtDT (st : Sto) (d : D) : Option D := match d with
  | .dict [(.int r, .none)] => (match st[r.toNat]? with
    | some (.dctT kvs) => if kvs.length < 64 ∧ (kvs.all fun p => !p.1.isEmpty) = true ∧ alikeK (kvs.map (·.1)) = true then some (.list ((srtO ltK (kvs.map (·.1))).map encK)) else none
    | _ => none)
  | _ => none
def mSrtDT (m : M) : M := fun sl st => (m sl st).bind fun d st => lift (dSrtDT st d) st
@[simp] theorem e_srtDT {a : M} {sl : Sl} {st : Sto} : mSrtDT a sl st = (a sl st).bind fun d st => lift (dSrtDT st d) st := rfl
end Pv
set_option Elab.async false
set_option linter.all false
set_option maxRecDepth 100000
set_option maxHeartbeats 3200000
namespace Pv
open PySem PySem.Spec L2
open PyProof.Rows hiding St signs cutD pairD
end Pv
set_option Elab.async false
set_option linter.all false
set_option maxRecDepth 100000
set_option maxHeartbeats 1000000
namespace Pv
open PySem PySem.Spec L2
open PyProof.Rows hiding St signs cutD pairD
def txtsK : List L2.Key → Option (List Str)
  | [] => some []
  | .inr x :: ks => (txtsK ks).map (x :: ·)
  | _ => none
def dSrtDK (st : Sto) (d : D) : Option D := match d with
  | .dict [(.int r, .none)] => (match st[r.toNat]? with
    | some (.dct kvs) => (txtsK (kvs.map (·.1))).bind fun xs => if xs.length < 64 then some (.list ((srtT xs).map .str)) else none
    | _ => none)
  | _ => none
def mSrtDK (m : M) : M := fun sl st => (m sl st).bind fun d st => lift (dSrtDK st d) st
@[simp] theorem e_srtDK {a : M} {sl : Sl} {st : Sto} : mSrtDK a sl st = (a sl st).bind fun d st => lift (dSrtDK st d) st := rfl
end Pv
set_option Elab.async false
set_option linter.all false
set_option maxRecDepth 100000
set_option maxHeartbeats 1000000
namespace Pv
open PySem PySem.Spec L2
open PyProof.Rows hiding St signs cutD pairD
def dLenS (d : Pv.D) : Option Pv.D :=
  match d with
  | .list ds => (strsOfD ds).bind fun xs => if xs.length ≤ 1000 then some (.int (srtT xs).length) else none
  | _ => none
def mLenS : M → M := mOp1 (onD1 dLenS)
@[simp] theorem e_lenS {a : M} {sl : Sl} {st : Sto} : mLenS a sl st = (a sl st).bind fun x st => lift (dLenS (deref st x)) st := rfl
def dLenDK (st : Sto) (d : Pv.D) : Option Pv.D :=
  match d with
  | .dict [(.int r, .none)] => (match st[r.toNat]? with | some (.dct kvs) => some (.int kvs.length) | _ => none)
  | _ => none
end Pv
set_option Elab.async false
set_option linter.all false
set_option maxRecDepth 100000
set_option maxHeartbeats 1000000
namespace Pv
open PySem PySem.Spec L2
open PyProof.Rows hiding St signs cutD pairD
def dValsD (st : Sto) (d : D) : Option D := match d with
  | .dict [(.int r, .none)] => (match st[r.toNat]? with
    | some (.dct kvs) => if kvs.length ≤ sizeLine then some (.list (kvs.map (·.2))) else none
    | _ => none)
  | _ => none
def mValsD (m : M) : M := fun sl st => (m sl st).bind fun d st => lift (dValsD st d) st
@[simp] theorem e_valsD {a : M} {sl : Sl} {st : Sto} : mValsD a sl st = (a sl st).bind fun d st => lift (dValsD st d) st := rfl
end Pv
set_option Elab.async false
set_option linter.all false
set_option maxRecDepth 100000
set_option maxHeartbeats 1000000
namespace Pv
open PySem PySem.Spec L2
open PyProof.Rows hiding St signs cutD pairD
def pairsK (kvs : List (L2.Key × D)) : List D := kvs.map fun p => .tuple [dKey p.1, p.2]
def pairsT (kvs : List (List L2.Key × D)) : List D := kvs.map fun p => .tuple [encK p.1, p.2]
/-- the dict leaves the store (nothing else knows it) -/
def itemsOf (n : Nat) (d : D) (st : Sto) : R Src :=
  match d with
  | .dict [(.int r, .none)] => if n ≤ r.toNat then (match st[r.toNat]? with
    | some (.dct kvs) => (match fzP (lookF 6 n st) kvs, fzS (lookF 6 n st) (st.take n) with | some es, some st' => .ok ⟨pairsK es, always⟩ st' | _, _ => .bad)
    | some (.dctT kvs) => (match fzP (lookF 6 n st) kvs, fzS (lookF 6 n st) (st.take n) with | some es, some st' => .ok ⟨pairsT es, always⟩ st' | _, _ => .bad)
    | _ => .bad) else .bad
  | _ => .bad
def mItems (m : M) : MI := fun sl st => (m sl st).bind fun d st1 => itemsOf st.length d st1
@[simp] theorem e_items {a : M} {sl : Sl} {st : Sto} : mItems a sl st = (a sl st).bind fun d st1 => itemsOf st.length d st1 := rfl
end Pv
set_option Elab.async false
set_option linter.all false
set_option maxRecDepth 100000
set_option maxHeartbeats 1000000
namespace Pv
open PySem PySem.Spec L2
open PyProof.Rows hiding St signs cutD pairD
def dListS : Pv.D → Option Pv.D
  | .str z => if z.cps.size ≤ sizeLine then some (.list (signs z)) else none
  | _ => none
def mListS : M → M := mOp1 (onD1 dListS)
@[simp] theorem e_listS {a : M} {sl : Sl} {st : Sto} : mListS a sl st = (a sl st).bind fun x st => lift (dListS (deref st x)) st := rfl
end Pv
set_option Elab.async false
set_option linter.all false
set_option maxRecDepth 100000
set_option maxHeartbeats 1000000
namespace Pv
open PySem PySem.Spec L2
open PyProof.Rows hiding St signs cutD pairD
def pairOfT : D → Option (List Key × D)
  | .tuple [.tuple ks, v] => (keysOf ks).map fun c => (c, v)
  | _ => none
def pairsOfT : List D → Option (List (List Key × D))
  | [] => some []
  | d :: ds => match pairOfT d, pairsOfT ds with | some p, some ps => some (p :: ps) | _, _ => none
def mergeT (ps : List (List Key × D)) : List (List Key × D) := ps.foldl (fun acc kv => putD acc kv.1 kv.2) []
def fDictPT : F1 := fun x st => match deref st x with
  | .list ds => (match pairsOfT ds with | some ps => .ok (Rf st.length) (st ++ [.dctT (mergeT ps)]) | none => .bad)
  | _ => .bad
def mDictPT : M → M := mOp1 fDictPT
@[simp] theorem e_dictPT {a : M} {sl : Sl} {st : Sto} : mDictPT a sl st = (a sl st).bind fun x st => fDictPT x st := rfl
end Pv
set_option Elab.async false
set_option linter.all false
set_option maxRecDepth 100000
set_option maxHeartbeats 1000000
namespace PySem
open PySem.Spec
end PySem
namespace L2
open PySem PySem.Spec
end L2
namespace Pv
open PySem PySem.Spec L2
open PyProof.Rows hiding St signs cutD pairD
def fMrgI (r0 : Nat) (x : D) (st : Sto) : Option Sto := match x with
  | .dict [(.int r, .none)] => if r.toNat = r0 then none else (match st[r0]?, st[r.toNat]? with
    | some (.dct k0), some (.dct ls) => if k0.length + ls.length ≤ sizeLine then some (st.set r0 (.dct (mergeD k0 ls))) else none
    | _, _ => none)
  | _ => none
def mMrg (ma mb : M) : M := fun sl st => (ma sl (st ++ [.dct []])).bind fun x st1 => match fMrgI st.length x st1 with
  | some st2 => (mb sl st2).bind fun y st3 => (match fMrgI st.length y st3 with
    | some st4 => .ok (Rf st.length) st4
    | none => .bad)
  | none => .bad
@[simp] theorem e_mrg {a b : M} {sl : Sl} {st : Sto} : mMrg a b sl st = (a sl (st ++ [.dct []])).bind fun x st1 => match fMrgI st.length x st1 with
  | some st2 => (b sl st2).bind fun y st3 => (match fMrgI st.length y st3 with
    | some st4 => .ok (Rf st.length) st4
    | none => .bad)
  | none => .bad := rfl
end Pv
set_option Elab.async false
set_option linter.all false
set_option maxRecDepth 100000
set_option maxHeartbeats 1000000
set_option pp.maxSteps 1500
namespace Pv
open PySem PySem.Spec L2
open PyProof.Rows hiding St signs cutD pairD
def hK (h : Host) : List L2.Key := [.inr h.n, .inl h.s, .inl h.f, .inl h.r]
def namesN (n : Net) : List Str := n.hosts.map (·.n)
section
variable {n : Net} {f : Str → Str}
theorem NetV.nd (V : NetV n) : (namesN n).Nodup := ascB_nodup ltX_ord V.asc
end
end Pv
set_option Elab.async false
set_option linter.all false
set_option maxRecDepth 100000
set_option maxHeartbeats 1000000
namespace Pv
open PySem PySem.Spec L2
open PyProof.Rows hiding St signs cutD pairD
def fLenDK : F1 := fun x st => match dLenDK st x with | some d => .ok d st | none => .bad
def mLenDK : M → M := mOp1 fLenDK
@[simp] theorem e_lenDK {a : M} {sl : Sl} {st : Sto} : mLenDK a sl st = (a sl st).bind fun x st => fLenDK x st := rfl
end Pv
set_option Elab.async false
set_option linter.all false
set_option maxRecDepth 100000
set_option maxHeartbeats 1000000
namespace Pv
open PySem PySem.Spec L2
open PyProof.Rows hiding St signs cutD pairD
end Pv
set_option Elab.async false
set_option linter.all false
set_option maxRecDepth 100000
set_option maxHeartbeats 1600000
namespace Pv
open PySem PySem.Spec L2
open PyProof.Rows hiding St signs cutD pairD
def z3 (as : List Addr) (xs ys : List V) : List (Addr × V × V) := List.zip as (List.zip xs ys)
end Pv
set_option Elab.async false
set_option linter.all false
set_option maxRecDepth 100000
set_option maxHeartbeats 1600000
namespace Pv
open PySem PySem.Spec L2
open PyProof.Rows hiding St signs cutD pairD
def fListZ : F2 := fun x y st => match x, y with
  | .tuple xs, .tuple ys => .ok (.list (List.zipWith pairD xs ys)) st
  | x, y => match deref st x, deref st y with
    | .list xs, .list ys => .ok (.list (List.zipWith pairD xs ys)) st
    | _, _ => .bad
def mListZ (a b : M) : M := fun sl st => (a sl st).bind fun x st => (b sl st).bind fun y st => fListZ x y st
@[simp] theorem e_listZ {a b : M} {sl : Sl} {st : Sto} : mListZ a b sl st = (a sl st).bind fun x st => (b sl st).bind fun y st => fListZ x y st := rfl
@[simp] theorem listZ_tt {xs ys : List Pv.D} {st : Sto} : fListZ (.tuple xs) (.tuple ys) st = .ok (.list (List.zipWith pairD xs ys)) st := rfl
end Pv
set_option Elab.async false
set_option linter.all false
set_option maxRecDepth 100000
set_option maxHeartbeats 1600000
namespace Pv
open PySem PySem.Spec L2
open PyProof.Rows hiding St signs cutD pairD
def dListDT (st : Sto) (d : D) : Option D := match d with
  | .dict [(.int r, .none)] => (match st[r.toNat]? with
    | some (.dctT kvs) => some (.list (kvs.map fun p => encK p.1))
    | _ => none)
  | _ => none
def mListDT (m : M) : M := fun sl st => (m sl st).bind fun d st => lift (dListDT st d) st
@[simp] theorem e_listDT {a : M} {sl : Sl} {st : Sto} : mListDT a sl st = (a sl st).bind fun d st => lift (dListDT st d) st := rfl
end Pv
set_option Elab.async false
set_option linter.all false
set_option maxRecDepth 100000
set_option maxHeartbeats 1600000
namespace Pv
open PySem PySem.Spec L2
open PyProof.Rows hiding St signs cutD pairD
def dMax2 : D → D → Option D
  | .int i, .int j => some (.int (if j > i then j else i))
  | _, _ => none
def mMax2 : M → M → M := mOp2 (onD2 dMax2)
@[simp] theorem e_max2 {a b : M} {sl : Sl} {st : Sto} : mMax2 a b sl st = (a sl st).bind fun x st => (b sl st).bind fun y st => onD2 dMax2 x y st := rfl
def fListR : F1 := fun x st => match x with
  | .int n => if decide (-(2 ^ 62) ≤ n ∧ n ≤ 16777216) = true then .ok (.list (rngD 0 n.toNat)) st else .bad
  | _ => .bad
def mListR (a : M) : M := fun sl st => (a sl st).bind fListR
@[simp] theorem e_listR {a : M} {sl : Sl} {st : Sto} : mListR a sl st = (a sl st).bind fListR := rfl
def fIdx (x y : D) (st : Sto) : R D :=
  match deref st x with
  | .list ds => if SeqAt.shaped (.list ds) = true ∧ SeqAt.shaped (deref st y) = true then (match ds.findIdx? fun d => PyData.eqv d (deref st y) with | some j => .ok (.int (j : Int)) st | none => .bad) else .bad
  | _ => .bad
def mIdx (a b : M) : M := fun sl st => (a sl st).bind fun o st => if isLstD st o = true then (b sl st).bind fun d st => fIdx o d st else .bad
@[simp] theorem e_idx {a b : M} {sl : Sl} {st : Sto} : mIdx a b sl st = (a sl st).bind fun o st => if isLstD st o = true then (b sl st).bind fun d st => fIdx o d st else .bad := rfl
end Pv
set_option Elab.async false
set_option linter.all false
set_option maxRecDepth 100000
set_option maxHeartbeats 1600000
namespace Pv
abbrev Mat := Int → Int → Option Int
abbrev Tr := Int × Int × Int
/-- no entry shrinks -/
def leM (f g : Mat) : Prop := ∀ j k a, f j k = some a → ∃ b, g j k = some b ∧ a ≤ b
theorem leM.refl (f : Mat) : leM f f := fun _ _ a h => ⟨a, h, Int.le_refl _⟩
theorem leM.trans {f g h : Mat} (x : leM f g) (y : leM g h) : leM f h := fun j k a e => by
  obtain ⟨b, e1, l1⟩ := x j k a e
  obtain ⟨c, e2, l2⟩ := y j k b e1
  exact ⟨c, e2, Int.le_trans l1 l2⟩
theorem leM.some {f g : Mat} (x : leM f g) {j k : Int} (h : (f j k).isSome = true) : (g j k).isSome = true := by
  obtain ⟨a, e⟩ := Option.isSome_iff_exists.mp h
  obtain ⟨b, e1, _⟩ := x j k a e
  rw [e1]; rfl
structure Ph (f : Mat) (mid : Int) (h : Mat) : Prop where
  le : leM f h
  up : ∀ j k c, h j k = some c → f j k = some c ∨ ∃ a b, f j mid = some a ∧ f mid k = some b ∧ c = a + b
  col : ∀ j, h j mid = f j mid
  row : ∀ k, h mid k = f mid k
theorem Ph.refl (f : Mat) (mid : Int) : Ph f mid f := ⟨leM.refl f, fun _ _ _ e => .inl e, fun _ => rfl, fun _ => rfl⟩
end Pv
set_option Elab.async false
set_option linter.all false
set_option maxRecDepth 100000
set_option maxHeartbeats 1600000
namespace Pv
open PySem PySem.Spec L2
open PyProof.Rows hiding St signs cutD pairD
inductive All2 {α β : Type} (R : α → β → Prop) : List α → List β → Prop
  | nil : All2 R [] []
  | cons {x y xs ys} : R x y → All2 R xs ys → All2 R (x :: xs) (y :: ys)
theorem All2.len {α β : Type} {R : α → β → Prop} {xs : List α} {ys : List β} (h : All2 R xs ys) : ys.length = xs.length := by
  induction h with
  | nil => rfl
  | cons _ _ ih => rw [List.length_cons, List.length_cons, ih]
theorem All2.mem {α β : Type} {R : α → β → Prop} {xs : List α} {ys : List β} (h : All2 R xs ys) : ∀ y ∈ ys, ∃ x ∈ xs, R x y := by
  induction h with
  | nil => exact fun _ h => nomatch h
  | cons r _ ih =>
    intro z hz
    rcases List.mem_cons.mp hz with rfl | hz
    · exact ⟨_, List.mem_cons_self, r⟩
    · obtain ⟨x, hx, q⟩ := ih z hz
      exact ⟨x, List.mem_cons_of_mem _ hx, q⟩
theorem All2.map {α β γ : Type} {R : α → β → Prop} {xs : List α} {ys : List β} (h : All2 R xs ys) {f : α → γ} {g : β → γ} (e : ∀ x y, R x y → g y = f x) : ys.map g = xs.map f := by
  induction h with
  | nil => rfl
  | cons r _ ih => rw [List.map_cons, List.map_cons, e _ _ r, ih]
def kP (p : Int × Int) : List Key := [.inl p.1, .inl p.2]
end Pv
set_option Elab.async false
set_option linter.all false
set_option maxRecDepth 100000
set_option maxHeartbeats 1600000
namespace Pv
def entB (f : Mat) (j k : Int) (A : Nat) : Prop := ∀ a, f j k = some a → a.natAbs ≤ A
def rowB (f : Mat) (j : Int) (A : Nat) : Prop := ∀ k, entB f j k A
theorem entB.mono {f : Mat} {j k : Int} {A B : Nat} (h : entB f j k A) (l : A ≤ B) : entB f j k B := fun a e => Nat.le_trans (h a e) l
theorem rowB.mono {f : Mat} {j : Int} {A B : Nat} (h : rowB f j A) (l : A ≤ B) : rowB f j B := fun k => (h k).mono l
end Pv
set_option Elab.async false
set_option linter.all false
set_option maxRecDepth 100000
set_option maxHeartbeats 1600000
namespace Pv
open PySem PySem.Spec L2
open PyProof.Rows hiding St signs cutD pairD
def kT (t : Tr) : Int × Int := (t.1, t.2.1)
def eT (t : Tr) : List Key × D := (kP (kT t), .int t.2.2)
def valT (bs : List Tr) (p : Int × Int) : Option Int := (bs.find? fun t => decide (kT t = p)).map (·.2.2)
end Pv
set_option Elab.async false
set_option linter.all false
set_option maxRecDepth 100000
set_option maxHeartbeats 1600000
namespace Pv
open PySem PySem.Spec L2
open PyProof.Rows hiding St signs cutD pairD
def tgUnl (n : Nat) (t : MGs) : MG := fun d sl st => match deref st d with | .list ds => if ds.length = n then t ds sl st else .bad | _ => .bad
@[simp] theorem e_tgUnl {n : Nat} {g : MGs} {ds : List Pv.D} {sl : Sl} {st : Sto} : tgUnl n g (.list ds) sl st = if ds.length = n then g ds sl st else .bad := rfl
end Pv
set_option Elab.async false
set_option linter.all false
set_option maxRecDepth 100000
set_option maxHeartbeats 1600000
namespace Pv
open PySem PySem.Spec L2
open PyProof.Rows hiding St signs cutD pairD
mutual
def fan : D → Nat
  | .tuple ds => max ds.length (fanL ds)
  | .list ds => max ds.length (fanL ds)
  | _ => 0
def fanL : List D → Nat
  | [] => 0
  | d :: ds => max (fan d) (fanL ds)
end
/-- size, depth, numbers, lengths -/
structure Bw (d : D) (n k b l : Nat) : Prop where
  bd : Bd d n k b
  fn : fan d ≤ l
theorem Bw.mono {d : D} {n k b l n' k' b' l' : Nat} (h : Bw d n k b l) (hn : n ≤ n') (hk : k ≤ k') (hb : b ≤ b') (hl : l ≤ l') : Bw d n' k' b' l' := ⟨h.bd.mono hn hk hb, Nat.le_trans h.fn hl⟩
theorem Bw.int {i : Int} {b k l : Nat} (h : i.natAbs ≤ b) (hb : b < 10 ^ 62) : Bw (.int i) 64 k b l := ⟨.int h hb, Nat.zero_le _⟩
theorem Bw.str {z : Str} {n b k l : Nat} (h : (PyData.str z).canLay0 = true) (hz : 10 * z.length + 4 ≤ n) : Bw (.str z) n k b l := ⟨.str h hz, Nat.zero_le _⟩
end Pv
set_option Elab.async false
set_option linter.all false
set_option maxRecDepth 100000
set_option maxHeartbeats 1600000
namespace Pv
open PySem PySem.Spec L2
open PyProof.Rows hiding St signs cutD pairD
def pairOk : D → Bool
  | .tuple [.int _, .int _] => true
  | _ => false
def dMaxT : D → Option D
  | .list (d :: ds) => if (d :: ds).all pairOk = true then some (PySem.W.maxD d ds) else none
  | _ => none
def mMaxT : M → M := mOp1 (onD1 dMaxT)
@[simp] theorem e_maxT {a : M} {sl : Sl} {st : Sto} : mMaxT a sl st = (a sl st).bind fun x st => onD1 dMaxT x st := rfl
end Pv
set_option Elab.async false
set_option linter.all false
set_option maxRecDepth 100000
set_option maxHeartbeats 1600000
namespace Pv
abbrev Bnds := Int × Int → Option Int
end Pv
set_option Elab.async false
set_option linter.all false
set_option maxRecDepth 100000
set_option maxHeartbeats 1000000
set_option pp.maxSteps 400
namespace Pv
open PySem PySem.Spec L2 LamX
open PyProof.Rows hiding St
def Kp (h h' : Heap) : Prop := ∀ b o, h.get? b = some o → h'.get? b = some o
theorem Kp.refl (h : Heap) : Kp h h := fun _ _ e => e
theorem Kp.trans {a b c : Heap} (x : Kp a b) (y : Kp b c) : Kp a c := fun d o e => y d o (x d o e)
section
variable {prog : Program} {w : World} {A : Around} {env : Env} {h₁ : Heap}
/-- e's value is told by R, whatever was laid behind h₁ -/
def Pu (prog : Program) (w : World) (A : Around) (env : Env) (h₁ : Heap) (e : Expr) (R : Heap → Value → Prop) : Prop :=
  ∀ (s : Shared) (Q : Value → Shared → Prop) (E : Value → Shared → Prop), Kp h₁ s.heap → (∀ v h' tk, Kp s.heap h' → R h' v → Q v { s with heap := h', toks := tk }) → wpAny (model prog w) A (eval e env) Q E s
theorem Pu.mono {e : Expr} {R R' : Heap → Value → Prop} (p : Pu prog w A env h₁ e R) (h : ∀ g v, Kp h₁ g → R g v → R' g v) : Pu prog w A env h₁ e R' := fun s Q E k q => p s Q E k fun v h' tk k' r => q v h' tk k' (h h' v (k.trans k') r)
end
end Pv
set_option Elab.async false
set_option linter.all false
set_option maxRecDepth 100000
set_option maxHeartbeats 1000000
set_option pp.maxSteps 400
namespace Pv
open PySem PySem.Spec L2 LamX
open PyProof.Rows hiding St
structure LamS1 (sc scope : Scope) (p : Str) : Prop where
  kind : scope.kind = .function
  co : scope.isCoroutine = false
  gen : scope.isGenerator = false
  par : scope.names.lookup p = some .local
  nocell : ∀ y ∈ scope.names, y.2 ≠ .cell
  free : ∀ y ∈ scope.names, y.2 = .free → sc.names.lookup y.1 = some .cell ∨ sc.names.lookup y.1 = some .free
theorem LamS1.has {X : Cx} {scope : Scope} {p : Str} (L : LamS1 X.env.scope scope p) (ok : X.Ok) : ∀ y ∈ scope.names, y.2 = .free → ∃ c, X.env.cells.lookup y.1 = some c := fun y hy e => by
  rcases L.free y hy e with k | k
  · exact ok.has _ (.inl k)
  · exact ok.has _ (.inr k)
abbrev KF := Sl → Sto → D → Option D
def pairK (kf : KF) (sl : Sl) (st : Sto) : List D → Option (List (D × D))
  | [] => some []
  | d :: ds => match kf sl st d, pairK kf sl st ds with
    | some k, some r => some ((d, k) :: r)
    | _, _ => none
/-- sorted(xs, key=lambda ..) -/
def dSortK (kf : KF) (sl : Sl) (st : Sto) : D → Option D
  | .list ds => match pairK kf sl st ds with
    | some ps => if srtOk (ps.map (·.2)) = true then some (.list ((ps.mergeSort (PySem.W.dataLe false Prod.snd)).map (·.1))) else none
    | none => none
  | _ => none
def mSortK (P : Addr) (q : Str) (kf : KF) (m : M) : M := fun sl st => (m sl st).bind fun x st' => if tbOk st' P q = true then lift (dSortK kf sl st' (deref st' x)) st' else .bad
end Pv
set_option Elab.async false
set_option linter.all false
set_option maxRecDepth 100000
set_option maxHeartbeats 1000000
set_option pp.maxSteps 800
namespace Pv
open PySem PySem.Spec L2 LamX
open PyProof.Rows hiding St
end Pv
set_option Elab.async false
set_option linter.all false
set_option maxRecDepth 100000
set_option maxHeartbeats 1000000
set_option pp.maxSteps 800
namespace Pv
open PySem PySem.Spec L2 LamX
open PyProof.Rows hiding St
end Pv
set_option Elab.async false
set_option linter.all false
set_option maxRecDepth 100000
set_option maxHeartbeats 1000000
set_option pp.maxSteps 800
namespace Pv
open PySem PySem.Spec L2
open PyProof.Rows hiding St
def rngN (i : Int) (n : Nat) : List Pv.D := (List.range n).map fun (k : Nat) => PyData.int (i + (k : Int) * (-1))
def fRngN (c d e : Pv.D) (st : Sto) : R Src := match c with
  | .int i => (match d with
    | .int j => (match e with
      | .int k => if k = -1 ∧ inR62 i = true ∧ inR62 j = true then .ok ⟨rngN i (i - j).toNat, always⟩ st else .bad
      | _ => .bad)
    | _ => .bad)
  | _ => .bad
def mRng3 (a b c : M) : MI := fun sl st => (a sl st).bind fun x st => (b sl st).bind fun y st => (c sl st).bind fun z st => fRngN x y z st
@[simp] theorem e_rng3 {a b c : M} {sl : Sl} {st : Sto} : mRng3 a b c sl st = (a sl st).bind fun x st => (b sl st).bind fun y st => (c sl st).bind fun z st => fRngN x y z st := rfl
@[simp] theorem e_sortK {P : Addr} {q : Str} {kf : KF} {m : M} {sl : Sl} {st : Sto} : mSortK P q kf m sl st = (m sl st).bind fun x st' => if tbOk st' P q = true then lift (dSortK kf sl st' (deref st' x)) st' else .bad := rfl
end Pv
set_option Elab.async false
set_option linter.all false
set_option maxRecDepth 100000
set_option maxHeartbeats 1000000
set_option pp.maxSteps 800
namespace Pv
open PySem PySem.Spec L2
open PyProof.Rows hiding St
theorem cr_or {X : Cx} {f : Value} {r r' : List V → Hp → VK → Prop} (h : CallR X f r) (h' : CallR X f r') : CallR X f (fun vs H Q => r vs H Q ∨ r' vs H Q) := by
  intro pins s σ H vs us Q I rv q
  exact q.elim (h pins s σ H vs us Q I rv) (h' pins s σ H vs us Q I rv)
def dSortedQ : Pv.D → Option Pv.D
  | .list ds => if srtOk ds = true then some (.list (sortD ds)) else if ds.length ≤ 1 then some (.list ds) else none
  | _ => none
def mSortedQ : M → M := mOp1 (onD1 dSortedQ)
@[simp] theorem e_sortedQ {a : M} {sl : Sl} {st : Sto} : mSortedQ a sl st = (a sl st).bind fun x st => lift (dSortedQ (deref st x)) st := rfl
end Pv
set_option Elab.async false
set_option linter.all false
set_option maxRecDepth 100000
set_option maxHeartbeats 1000000
set_option pp.maxSteps 800
namespace Pv
open PySem PySem.Spec L2
open PyProof.Rows hiding St
section
variable {X : Cx} {Wx : WX} {ea : Expr} {ma : M} {pos p p2 q : Pos}
def dSrtQ : Pv.D → Option Pv.D
  | .list [.tuple []] => some (.list [.tuple []])
  | d => dSrtP d
def mSrtQ : M → M := mOp1 (onD1 dSrtQ)
@[simp] theorem e_srtQ {a : M} {sl : Sl} {st : Sto} : mSrtQ a sl st = (a sl st).bind fun x st => lift (dSrtQ (deref st x)) st := rfl
end
end Pv
set_option Elab.async false
set_option linter.all false
set_option maxRecDepth 100000
set_option maxHeartbeats 1000000
set_option pp.maxSteps 800
namespace Pv
open PySem PySem.Spec L2
open PyProof.Rows hiding St signs cutD pairD
def dMaxU : D → Option D
  | .tuple [.int a, .int b] => some (.int (max a b))
  | _ => none
def mMaxU : M → M := mOp1 (onD1 dMaxU)
@[simp] theorem e_maxU {a : M} {sl : Sl} {st : Sto} : mMaxU a sl st = (a sl st).bind fun x st => lift (dMaxU (deref st x)) st := rfl
end Pv
set_option Elab.async false
set_option linter.all false
set_option maxRecDepth 100000
set_option maxHeartbeats 1000000
set_option pp.maxSteps 800
namespace Pv
open PySem PySem.Spec L2
open PyProof.Rows hiding St
def fListM : F1 := fun x st => match deref st x with
  | .list ds => .ok (Rf st.length) (st ++ [.lst ds])
  | .tuple ds => .ok (Rf st.length) (st ++ [.lst ds])
  | _ => .bad
def mListM : M → M := mOp1 fListM
@[simp] theorem e_listM {a : M} {sl : Sl} {st : Sto} : mListM a sl st = (a sl st).bind fun x st => fListM x st := rfl
end Pv
set_option Elab.async false
set_option linter.all false
set_option maxRecDepth 100000
set_option maxHeartbeats 1000000
set_option pp.maxSteps 800
namespace Pv
end Pv
set_option Elab.async false
set_option linter.all false
set_option maxRecDepth 100000
set_option maxHeartbeats 3200000
namespace Pv
open PySem PySem.Spec L2
open PyProof.Rows hiding St signs cutD pairD
def dSrtSetT : Pv.D → Option Pv.D
  | .tuple ds => (intsOfD ds).bind fun ns => if ns.length ≤ 1000 ∧ (srtU ns).length < 64 then some (.list ((srtU ns).map .int)) else none
  | _ => none
def mSrtSetT : M → M := mOp1 (onD1 dSrtSetT)
@[simp] theorem e_srtSetT {a : M} {sl : Sl} {st : Sto} : mSrtSetT a sl st = (a sl st).bind fun x st => lift (dSrtSetT (deref st x)) st := rfl
end Pv
set_option Elab.async false
set_option linter.all false
set_option maxRecDepth 100000
set_option maxHeartbeats 1000000
set_option pp.maxSteps 800
namespace Pv
open PySem PySem.Spec L2
open PyProof.Rows hiding St signs cutD pairD
def laterC (bd : Bnds) (m k : Nat) (L : Nat → Int) : List Int := (List.range' (k + 1) (m - (k + 1))).filterMap fun (j : Nat) => (bd ((k : Int), (j : Int))).map fun v => L j - v
def latS (bd : Bnds) (m k : Nat) (L : Nat → Int) : Nat → Int := fun i => if i = k then (laterC bd m k L).foldl min (L k) else L i
def latF (bd : Bnds) (m : Nat) : Nat → (Nat → Int)
  | 0 => fun k => -((bd ((k : Int), -1)).getD 0)
  | d + 1 => latS bd m (m - 1 - d) (latF bd m d)
def lat (bd : Bnds) (m : Nat) : Nat → Int := latF bd m m
end Pv
set_option Elab.async false
set_option linter.all false
set_option maxRecDepth 100000
set_option maxHeartbeats 1000000
set_option pp.maxSteps 800
namespace Pv
open PySem PySem.Spec L2 LamX
open PyProof.Rows hiding St signs cutD pairD
end Pv
set_option Elab.async false
set_option linter.all false
set_option maxRecDepth 100000
set_option maxHeartbeats 1000000
set_option pp.maxSteps 800
namespace Pv
open PySem PySem.Spec L2 LamX
open PyProof.Rows hiding St
end Pv
set_option Elab.async false
set_option linter.all false
set_option maxRecDepth 100000
set_option maxHeartbeats 1000000
namespace Pv
open PySem PySem.Spec L2
open PyProof.Rows hiding St signs cutD pairD
abbrev NK := (Str × Int) × (Int × Int)
def encN (k : NK) : PyData := .tuple [.tuple [.str k.1.1, .int k.1.2], .tuple [.int k.2.1, .int k.2.2]]
def IsPairOf (h : Heap) (a : Addr) (u v : Value) : Prop := ∃ o n, h.get? a = some o ∧ o.cls = .type "tuple" ∧ o.data = .seq #[u, v] n
def IsN (h : Heap) (k : NK) (a : Addr) : Prop := ∃ b1 b2 t1 t2 t3 t4, IsPairOf h a (.ref b1) (.ref b2) ∧ IsPairOf h b1 (.str k.1.1 t1) (.int k.1.2 t2) ∧ IsPairOf h b2 (.int k.2.1 t3) (.int k.2.2 t4)
theorem IsPairOf.reads {h : Heap} {a : Addr} {u v : Value} {x y : PyData} (p : IsPairOf h a u v) (hu : Reads h u x []) (hv : Reads h v y []) : Reads h (.ref a) (.tuple [x, y]) [] := by
  obtain ⟨o, n, h1, h2, h3⟩ := p
  exact .tuple h1 h2 h3 (ReadsAll.cons (as := []) hu (ReadsAll.cons (as := []) hv .nil))
theorem IsN.reads {h : Heap} {k : NK} {a : Addr} (p : IsN h k a) : Reads h (.ref a) (encN k) [] := by
  obtain ⟨b1, b2, t1, t2, t3, t4, p1, p2, p3⟩ := p
  exact p1.reads (p2.reads (.str _ _) (.int _ _)) (p3.reads (.int _ _) (.int _ _))
theorem IsPairOf.keep {h h' : Heap} {a : Addr} {u v : Value} (p : IsPairOf h a u v) (hk : ∀ b o vs n, h.get? b = some o → o.data = .seq vs n → h'.get? b = some o) : IsPairOf h' a u v := by
  obtain ⟨o, n, h1, h2, h3⟩ := p
  exact ⟨o, n, hk _ _ _ _ h1 h3, h2, h3⟩
theorem IsN.keep {h h' : Heap} {k : NK} {a : Addr} (p : IsN h k a) (hk : ∀ b o vs n, h.get? b = some o → o.data = .seq vs n → h'.get? b = some o) : IsN h' k a := by
  obtain ⟨b1, b2, t1, t2, t3, t4, p1, p2, p3⟩ := p
  exact ⟨b1, b2, t1, t2, t3, t4, p1.keep hk, p2.keep hk, p3.keep hk⟩
def ltN (k j : NK) : Bool := PySem.W.dataLt (encN k) (encN j)
end Pv
set_option Elab.async false
set_option linter.all false
set_option maxRecDepth 100000
set_option maxHeartbeats 1000000
namespace Pv
open PySem PySem.Spec L2
open PyProof.Rows hiding St signs cutD pairD
def nesD : D → Option NK
  | .tuple [.tuple [.str h, .int n], .tuple [.int m, .int c]] => some ((h, n), (m, c))
  | _ => none
def nessD : List D → Option (List NK)
  | [] => some []
  | d :: ds => match nesD d, nessD ds with
    | some k, some ks => some (k :: ks)
    | _, _ => none
def dSrtN : D → Option D
  | .list ds => (nessD ds).bind fun ks => if ks.length < 64 then some (.list ((srtO ltN ks).map encN)) else none
  | _ => none
def mSrtN : M → M := mOp1 (onD1 dSrtN)
@[simp] theorem e_srtN {a : M} {sl : Sl} {st : Sto} : mSrtN a sl st = (a sl st).bind fun x st => lift (dSrtN (deref st x)) st := rfl
end Pv
set_option Elab.async false
set_option linter.all false
set_option maxRecDepth 100000
set_option maxHeartbeats 1600000
namespace Pv
open PySem PySem.Spec L2
open PyProof.Rows hiding St signs cutD pairD
def fListZM : F2 := fun x y st => match deref st x, y with
  | .list xs, .tuple ys => .ok (.list (List.zipWith pairD xs ys)) st
  | _, _ => .bad
def mListZM (a b : M) : M := fun sl st => (a sl st).bind fun x st => (b sl st).bind fun y st => fListZM x y st
@[simp] theorem e_listZM {a b : M} {sl : Sl} {st : Sto} : mListZM a b sl st = (a sl st).bind fun x st => (b sl st).bind fun y st => fListZM x y st := rfl
end Pv
set_option Elab.async false
set_option linter.all false
set_option maxRecDepth 100000
set_option maxHeartbeats 1000000
set_option pp.maxSteps 400
namespace Pv
open PySem PySem.Spec L2 LamX
open PyProof.Rows hiding St
end Pv
set_option Elab.async false
set_option linter.all false
set_option maxRecDepth 100000
set_option maxHeartbeats 1000000
namespace Pv
open PySem PySem.Spec L2
open PyProof.Rows hiding St signs cutD pairD
def dLenSI (d : Pv.D) : Option Pv.D :=
  match d with
  | .tuple ds => (intsOfD ds).bind fun ns => if ns.length ≤ 1000 then some (.int (srtU ns).length) else none
  | _ => none
def mLenSI : M → M := mOp1 (onD1 dLenSI)
@[simp] theorem e_lenSI {a : M} {sl : Sl} {st : Sto} : mLenSI a sl st = (a sl st).bind fun x st => lift (dLenSI (deref st x)) st := rfl
end Pv
set_option Elab.async false
set_option linter.all false
set_option maxRecDepth 100000
set_option maxHeartbeats 1600000
namespace Pv
open PySem PySem.Spec L2
open PyProof.Rows hiding St signs cutD pairD
end Pv
set_option Elab.async false
set_option linter.all false
set_option maxRecDepth 100000
set_option maxHeartbeats 1000000
namespace Pv
open PySem PySem.Spec L2
open PyProof.Rows hiding St signs cutD pairD
def KdAt (K : PySem.W.Frag) (w : World) (mg : Str → Option Value) (x : Str) (tbl : List (Str × D)) : Prop :=
  ∃ (p : Addr) (es : Array DictEntry) (n : Nat), mg x = some (.ref p) ∧ KDict K w p es n ∧
    ∀ z : Str, (∃ d u v, tbl.lookup z = some d ∧ PySem.W.nsIn K p z = some (some u) ∧ RelV v u ∧ ∀ W, rep K W v d) ∨ (tbl.lookup z = none ∧ PySem.W.nsIn K p z = some none)
/-- an entry of the dict and what the layer says of it -/
def EntK (w : World) (K : PySem.W.Frag) (e : DictEntry) (q : Str × D) : Prop := (∃ t, e.key = .str q.1 t) ∧ e.hash = PyData.keyHash w.params q.1 ∧ ∃ v, RelV v e.val ∧ ∀ W, rep K W v q.2
theorem ent_lit {w : World} {K : PySem.W.Frag} : ∀ {es : List DictEntry} {tbl : List (Str × D)}, Paired (EntK w K) es tbl → PySem.W.KeysLit w.params es
  | _, _, .nil => trivial
  | _, _, .cons h r => ⟨⟨_, h.1.choose, h.1.choose_spec, h.2.1⟩, ent_lit r⟩
theorem ent_find {w : World} {K : PySem.W.Frag} (z : Str) : ∀ {es : List DictEntry} {tbl : List (Str × D)}, Paired (EntK w K) es tbl →
    ((∃ d e v, tbl.lookup z = some d ∧ es.find? (·.key.isStr z) = some e ∧ RelV v e.val ∧ ∀ W, rep K W v d) ∨ (tbl.lookup z = none ∧ es.find? (·.key.isStr z) = none)) ∧ es.any (·.refKey) = false
  | _, _, .nil => ⟨.inr ⟨rfl, rfl⟩, rfl⟩
  | _, _, .cons (a := e) (b := q) (l₁ := es) (l₂ := tbl) h r => by
    obtain ⟨⟨t, hk⟩, _, v, rv, rp⟩ := h
    obtain ⟨ih, ia⟩ := ent_find z r
    have hs : e.key.isStr z = (q.1 == z) := by rw [hk]; rfl
    obtain ⟨k, d⟩ := q
    refine ⟨?_, ?_⟩
    · by_cases c : k = z
      · refine .inl ⟨d, e, v, ?_, ?_, rv, rp⟩
        · subst c; simp [List.lookup_cons]
        · rw [List.find?_cons_of_pos (by rw [hs]; simpa using c)]
      · have c' : (z == k) = false := by simpa using fun q => c q.symm
        rw [List.lookup_cons, c', List.find?_cons_of_neg (by rw [hs]; simpa using c)]
        exact ih
    · rw [List.any_cons, ia]
      simp [DictEntry.refKey, hk]
theorem kd_mk {K : PySem.W.Frag} {w : World} {mg : Str → Option Value} {x : Str} {tbl : List (Str × D)} {p : Addr} {es : Array DictEntry} {n : Nat} (hm : mg x = some (.ref p)) (hl : K.lookup p = some ⟨.type "dict", none, .dict es n, #[]⟩) (low : (p == sysModules) = false)
    (h : Paired (EntK w K) es.toList tbl) : KdAt K w mg x tbl := by
  refine ⟨p, es, n, hm, ⟨hl, ent_lit h, low⟩, fun z => ?_⟩
  obtain ⟨f, a⟩ := ent_find z h
  unfold PySem.W.nsIn
  rw [hl]
  simp only
  rcases f with ⟨d, e, v, f1, f2, f3, f4⟩ | ⟨f1, f2⟩
  · exact .inl ⟨d, e.val, v, f1, by rw [f2], f3, f4⟩
  · exact .inr ⟨f1, by rw [f2, a]; rfl⟩
def mIxW (tbl : List (Str × D)) (m : M) : M := fun sl st => (m sl st).bind fun d st => match d with
  | .str z => (match tbl.lookup z with | some e => .ok e st | none => .bad)
  | _ => .bad
def mInW (neg : Bool) (tbl : List (Str × D)) (m : M) : M := fun sl st => (m sl st).bind fun d st => match d with
  | .str z => .ok (.bool ((tbl.lookup z).isSome != neg)) st
  | _ => .bad
@[simp] theorem e_ixW {tbl : List (Str × D)} {m : M} {sl : Sl} {st : Sto} : mIxW tbl m sl st = (m sl st).bind fun d st => match d with
  | .str z => (match tbl.lookup z with | some e => .ok e st | none => .bad)
  | _ => .bad := rfl
@[simp] theorem e_inW {neg : Bool} {tbl : List (Str × D)} {m : M} {sl : Sl} {st : Sto} : mInW neg tbl m sl st = (m sl st).bind fun d st => match d with
  | .str z => .ok (.bool ((tbl.lookup z).isSome != neg)) st
  | _ => .bad := rfl
section
variable {X : Cx} {Wx : WX} {eb : Expr} {mb : M} {pos p : Pos} {x : Str} {tbl : List (Str × D)}
theorem ge_ixW (k : KdAt X.K X.w X.mg x tbl) (hb : GE X Wx eb mb) (hs : PlainIx eb := by intro _ _; rfl) (hg : Gl X x := by rfl) (hd : (x == ("__debug__" : Str)) = false := by decide +kernel) : GE X Wx (.Subscript (.Name x p) eb pos) (mIxW tbl mb) := by
  obtain ⟨a, es, n, hm, D, all⟩ := k
  refine PE.imp (pe_ix ix_kdict (pe_glob hg hm (v := .ref a) rfl hd) hb hs) fun sh H Q ⟨W, sl, st, hr, hs', q⟩ => ?_
  refine rd_bind hr hs' q fun d1 st1 W1 v1 H1 e1 x1 h1 s1 r1 p1 => ?_
  cases d1 with
  | str z =>
    obtain rfl : v1 = .str z := r1
    rcases all z with ⟨d, u, v, f1, f2, f3, f4⟩ | ⟨f1, f2⟩
    · simp only [f1] at p1
      exact ⟨a, z, v, rfl, rfl, ⟨es, n, u, D.at_, D.lit, f2, f3⟩, p1.val h1 (f4 W1)⟩
    · simp only [f1] at p1
      exact p1.elim
  | _ => exact p1.elim
end
end Pv
set_option Elab.async false
set_option linter.all false
set_option maxRecDepth 100000
set_option maxHeartbeats 1000000
set_option pp.maxSteps 400
namespace Pv
open PySem PySem.Spec L2
open PyProof.Rows hiding St signs cutD pairD
def dFmt : D → Option D
  | .str a => if a.length ≤ 100000 then some (.str a) else none
  | .int i => if i.natAbs < 10 ^ 62 then some (.str (toString i)) else none
  | _ => none
def mFmt : M → M := mOp1 (onD1 dFmt)
def jsM : List M → Str → M
  | [], acc => fun _ st => .ok (.str acc) st
  | m :: ms, acc => fun sl st => (m sl st).bind fun d st => match d with
    | .str y => if (acc ++ y).length ≤ 100000 then jsM ms (acc ++ y) sl st else .bad
    | _ => .bad
def mFs (ms : List M) : M := jsM ms Str.empty
@[simp] theorem e_fmt {a : M} {sl : Sl} {st : Sto} : mFmt a sl st = (a sl st).bind fun x st => lift (dFmt (deref st x)) st := rfl
@[simp] theorem e_fs {ms : List M} {sl : Sl} {st : Sto} : mFs ms sl st = jsM ms Str.empty sl st := rfl
@[simp] theorem e_js_nil {acc : Str} {sl : Sl} {st : Sto} : jsM [] acc sl st = .ok (.str acc) st := rfl
@[simp] theorem e_js_cons {m : M} {ms : List M} {acc : Str} {sl : Sl} {st : Sto} : jsM (m :: ms) acc sl st = (m sl st).bind fun d st => match d with
    | .str y => if (acc ++ y).length ≤ 100000 then jsM ms (acc ++ y) sl st else .bad
    | _ => .bad := rfl
end Pv
set_option Elab.async false
set_option linter.all false
set_option maxRecDepth 100000
set_option maxHeartbeats 4000000
namespace Pv
open PySem PySem.Spec L2
open PyProof.Rows hiding St signs cutD pairD
def IteS (K : PySem.W.Frag) (a : Addr) : It :=
  ⟨fun i H => ∃ (xs : List V) (x : V), SqT K H a xs ∧ xs[i]? = some x, fun i H v H' => ∃ T x, v = .ref T ∧ H T = none ∧ H' = upd H T (.tup [.int ((1 + i : Nat) : Int), x]) ∧ ∀ xs, SqT K H a xs → xs[i]? = some x, fun i H => ∃ xs : List V, SqT K H a xs ∧ xs.length ≤ i⟩
theorem turn_enumS {P : Program} {w : World} {K : PySem.W.Frag} {elts : List Expr} {kk : Nat} {tpos : Pos} (a e it : Addr) :
    Turn P w K (.Tuple elts kk tpos) (IteS K a) [e, it] e (fun i h => (∃ old, IsEnum h e it ((1 + i : Nat) : Int) old) ∧ h.IsTupleIter it a i ∧ e ≠ it ∧ a ≠ it ∧ e ≠ a) where
  mem := by simp
  obj := by
    intro i h st b hb
    obtain ⟨⟨old, he⟩, ⟨o, ho, hc, hd⟩, _⟩ := st
    rcases (show b = e ∨ b = it by simpa using hb) with z | z
    · subst z; exact ⟨_, he, fun v q => nomatch q⟩
    · subst z; exact ⟨o, ho, fun v q => by rw [hd] at q; cases q⟩
  keep := by
    intro i h h' ⟨⟨old, he⟩, hi, ne⟩ k
    exact ⟨⟨old, k e (by simp) _ he⟩, hi.at fun o q => k it (by simp) o q, ne⟩
  item := by
    intro X hP hw hK hc i pins s sh H E I hf ⟨⟨old, he⟩, hit, hne, hai, hea⟩ ⟨xs, x, hq, hx⟩
    subst hP hw hK
    obtain ⟨its, rv, p, hz⟩ := I.tuple hq
    obtain ⟨u, hu, ru⟩ := rv.get hx
    have le : e < s.heap.objs.size := Heap.lt_size he
    have li : it < s.heap.objs.size := let ⟨_, q, _⟩ := hit; Heap.lt_size q
    have Dr : Draws X.prog X.w X.A.in1 it [it, a] its.toArray.size (fun i v => its.toArray[i]? = some v) (fun i h => h.IsTupleIter it a i ∧ h.IsTuple a its.toArray) :=
      .tuple (A := X.A.in1) (show X.A.in1.handled = none from I.ok.hd hc) it a hai its.toArray
    have hlt : i < its.toArray.size := by rw [List.size_toArray]; exact (List.getElem?_eq_some_iff.mp hu).1
    refine wpAny_pyNext_enum_itemC Dr he ⟨hit, p⟩ hlt hne (by simp [hne, hea]) ?_
    intro x1 h' tk hx1 ho ⟨hit', _⟩ hT hsz hk
    have ex1 : x1 = u := by
      have hx1' : its[i]? = some x1 := by simpa using hx1
      rw [hu] at hx1'; cases hx1'; rfl
    subst ex1
    refine ⟨_, rfl, wpAny_letOwnedTupleGo_enum (s := { s with heap := h', toks := tk + 1 }) ho ?_⟩
    intro h'' he' sb
    have hT2 : h''.get? s.heap.objs.size = some { cls := .type "tuple", data := .seq #[.int ((1 + i : Nat) : Int) tk, x1] } := (sb.2 _ (Nat.ne_of_gt le)).trans hT
    have new : ObjOk X.prog X.w (upd H s.heap.objs.size (.tup [.int ((1 + i : Nat) : Int), x])) h'' s.heap.objs.size (.tup [.int ((1 + i : Nat) : Int), x]) :=
      ⟨(by decide : (2 : Nat) ≤ sizeLine), [.int ((1 + i : Nat) : Int) tk, x1], .cons ⟨_, rfl⟩ (.cons ru .nil), ⟨_, hT2, rfl, _, rfl⟩⟩
    have keep2 : ∀ b ob, b ∉ [e, it] → s.heap.get? b = some ob → h''.get? b = some ob := by
      intro b ob hb q
      have hb1 : b ≠ e := fun z => hb (by simp [z])
      have hb2 : b ≠ it := fun z => hb (by simp [z])
      exact (sb.2 b hb1).trans (hk b ob hb1 hb2 q)
    have I1 : L2.Inv X pins sh (upd H s.heap.objs.size (.tup [.int ((1 + i : Nat) : Int), x])) { s with heap := h'', toks := tk + 1 } := I.turnedNew (ch := [e, it]) keep2 hf (Nat.le_refl _) new
    refine ⟨.ref s.heap.objs.size, _, I1, rfl, ⟨_, x, rfl, I.hok.fresh (Nat.le_refl _), rfl, fun ys hy => by rw [I.tuple_inj hy hq]; exact hx⟩, ⟨⟨x1, ?_⟩, hit'.at fun o q => (sb.2 it (Ne.symm hne)).trans q, hne, hai, hea⟩, ?_⟩
    · rw [show ((1 + (i + 1) : Nat) : Int) = ((1 + i : Nat) : Int) + 1 by omega]; exact he'
    · intro b hb
      have lb : b < s.heap.objs.size := by
        rcases (show b = e ∨ b = it by simpa using hb) with z | z <;> (subst z; assumption)
      rw [upd_ne (Nat.ne_of_lt lb)]
      exact (hf b hb).1
  done := by
    intro X hP hw hK hc i pins s sh H E I hf ⟨⟨old, he⟩, hit, hne, hai, hea⟩ ⟨xs, hq, hx⟩
    subst hP hw hK
    obtain ⟨its, rv, p, hz⟩ := I.tuple hq
    have hl := rv.length
    have out : its.toArray[i]? = none := by simp; omega
    obtain ⟨f0, f1, f2, f3, f4, f5⟩ := hf it (by simp)
    unfold pyNext
    have hT : s.TypeIs (.ref e) "enumerate" := ⟨_, he, rfl⟩
    refine wpAny_bind (wpAny_attempt (wpAny_callSpecial?_slot (name := Str.ofString "__next__") hT F.slot_enumerate_next (wpAny_call_entry F.slot_enumerate_next hT F.entry_enumerate_next ?_ (F.args_enumerate_next_1 _))))
    show wpAny _ _ (field (.ref e) 2 >>= _) _ _ _
    refine wpAny_bind (wpAny_field he rfl (x := .ref it) rfl (wpAny_bind (wpAny_nextOf_tuple_end (I.ok.hd hc) hit p out ?_)))
    intro h' x eb ⟨o, ho, hcl⟩
    exact wpAny_bind (wpAny_isInstance (T := "StopIteration") (b := true) ⟨o, ho, hcl⟩ isSubtype_stop (wpAny_pure ⟨rfl, I.turned (t' := s.toks) (fun b o hb q => eb b o hb q) f0 f1 f3 f4 f5⟩))
  self := fun A i s Q E ⟨⟨_, he⟩, _⟩ h => wpAny_pyIter_enum he h
def iEnumS (K : PySem.W.Frag) (ta : TA) : TI := fun sh H R => ta sh H fun vs H1 => ∃ a xs, vs = [.ref a, .int 1] ∧ SqT K H1 a xs ∧ R (IteS K a) H1
theorem pi_enumS {X : Cx} {e e2 : Expr} {ta : TA} {p pos tpos : Pos} {elts : List Expr} {kk : Nat} (hg : Gl X "enumerate") (hm : X.mg "enumerate" = none) (ha : PA X [e, e2] ta) (hs : starEach (e :: [e2]) X.env = (false, eval e X.env) :: starEach [e2] X.env := by rfl) (hpl : (backTo pos (starEach [e2] X.env)).any (·.1) = false := by rfl) :
    PI X (.Tuple elts kk tpos) (.Call (.Name "enumerate" p) [e, e2] [] pos) (iEnumS X.K ta) := by
  refine ⟨fun pins s sh H R I h => Call_ (ld_blt I hg hm boot_enumerate (PyProof.Rows.callWith_type1 (thn (ha.run pos pins s sh H _ I h) ?_) hs hpl))⟩
  intro us s1 ⟨vs, H1, I1, r1, a, xs, ex, hq, q⟩
  subst ex
  obtain ⟨u, u2, rfl, r, r2⟩ := vals2 r1
  cases (show u = Value.ref a from r)
  obtain ⟨tk, rfl⟩ := r2
  obtain ⟨its, rv, p', hz⟩ := I1.tuple hq
  have la : a < s1.heap.objs.size := let ⟨_, z, _⟩ := p'; Heap.lt_size z
  refine enum_begins (begins_tuple a its.toArray) p' (by decide) (by decide) ?_
  intro h' he hit hsz hk
  refine wpAny_pyIter_enum he ?_
  have I2 : L2.Inv X pins sh H1 { s1 with heap := h' } := I1.kept (t' := s1.toks) hk
  refine ⟨s1.heap.objs.size + 1, [s1.heap.objs.size + 1, s1.heap.objs.size], _, _, H1, rfl, I2, turn_enumS a (s1.heap.objs.size + 1) s1.heap.objs.size, ⟨⟨.none, he⟩, ⟨_, hit, rfl, rfl⟩, Nat.succ_ne_self _, Nat.ne_of_lt la, Nat.ne_of_gt (Nat.lt_succ_of_lt la)⟩, ?_, q⟩
  intro b hb
  have lb : s1.heap.objs.size ≤ b := by
    rcases (show b = s1.heap.objs.size + 1 ∨ b = s1.heap.objs.size by simpa using hb) with z | z <;> (rw [z]; omega)
  exact I1.fpOk lb (I1.hok.fresh lb)
def enumOf1 (d : Pv.D) (st : Sto) : R Src := match d with
  | .tuple _ => (srcOf d st).bind fun s st => .ok ⟨numD 1 s.items, s.keep⟩ st
  | .dict [(.none, .tuple _)] => (srcOf d st).bind fun s st => .ok ⟨numD 1 s.items, s.keep⟩ st
  | _ => .bad
def mEnum1 (m : M) : MI := fun sl st => (m sl st).bind enumOf1
@[simp] theorem e_enum1 {m : M} {sl : Sl} {st : Sto} : mEnum1 m sl st = (m sl st).bind enumOf1 := rfl
section
variable {X : Cx} {Wx : WX} {W W' : Wd} {H H' : Hp} {st : Sto} {sl : Sl} {sh : L2.St} {pos p : Pos} {N : Nv}
theorem walk_numS {K : PySem.W.Frag} {a : Addr} {ds : List Pv.D} {keep : Sto → Prop} [DecidablePred keep] (hw : WalkK K (Itt K a) W ⟨ds, keep⟩) : WalkK K (IteS K a) W ⟨numD 1 ds, keep⟩ := by
  intro W1 H1 st1 h1 f r k
  obtain ⟨x, b⟩ := hw W1 H1 st1 h1 f r k
  refine ⟨by rw [show (Src.mk (numD 1 ds) keep).items.length = ds.length from numD_length ds 1]; exact x, fun i d hd => ?_⟩
  have hd' : (ds[i]?).map (fun d => PyData.tuple [.int ((1 + i : Nat) : Int), d]) = some d := by rw [← numD_get ds 1 i]; exact hd
  obtain ⟨d0, e0, e1⟩ := Option.map_eq_some_iff.mp hd'
  subst e1
  obtain ⟨g, y⟩ := b i d0 e0
  refine ⟨g, fun v H' ⟨T, x, ev, hT, eH, y0⟩ => ?_⟩
  subst ev; subst eH
  obtain ⟨W2, x2, h2, r2⟩ := y x H1 ⟨rfl, y0⟩
  obtain ⟨h3, x3⟩ := h2.new (o := .tup [.int ((1 + i : Nat) : Int), x]) hT
  exact ⟨_, x2.trans x3, h3, T, _, rfl, upd_same, .int ((1 + i : Nat) : Int), [x], rfl, rfl, x, [], rfl, x3.rep r2, rfl⟩
theorem gi_enum1 {ea e2 : Expr} {ma : M} {elts : List Expr} {kk : Nat} {tpos : Pos} (hm : X.mg "enumerate" = none) (ha : GE X Wx ea ma) (h2 : PE X e2 (tC (.int 1)))
    (hg : Gl X "enumerate" := by rfl) (hs2 : starEach (e2 :: []) X.env = (false, eval e2 X.env) :: starEach [] X.env := by rfl)
    (hs1 : starEach (ea :: [e2]) X.env = (false, eval ea X.env) :: starEach [e2] X.env := by rfl) (hpl : (backTo pos (starEach [e2] X.env)).any (·.1) = false := by rfl) : GI X Wx (.Tuple elts kk tpos) (.Call (.Name "enumerate" p) [ea, e2] [] pos) (mEnum1 ma) := by
  refine PI.imp (pi_enumS hg hm (pa_cons ha (pa_cons h2 pa_nil hs2) hs1) hs1 hpl) fun sh H R ⟨W, sl, st, hr, hs, p⟩ => ?_
  refine rd_bindI hr hs p fun d1 st1 W1 v1 H1 e1 x1 h1 s1 r1 p1 => ?_
  unfold enumOf1 at p1
  split at p1
  · rename_i ds
    obtain ⟨a, xs, q1, q2, l⟩ := r1
    subst q1
    exact ⟨a, xs, rfl, .inl (.inl (h1.sub _ _ q2)), p1 W1 H1 _ .refl h1 (walk_numS (walk_tup (fun W2 H2 st2 h2 f => .inl (.inl (h2.sub _ _ (f _ _ q2)))) l))⟩
  · rename_i ds
    obtain ⟨a, xs, f2, f3, f4⟩ := (show rep X.K W1 v1 (Gc ds) from r1)
    subst f2
    exact ⟨a, xs, rfl, f3.T h1.sub, p1 W1 H1 _ .refl h1 (walk_numS (walk_tup (fun W2 H2 st2 h2 f => f3.T fun b o e => h2.sub _ _ (f b o e)) f4))⟩
  · exact p1.elim
end
end Pv
set_option Elab.async false
set_option linter.all false
set_option maxRecDepth 100000
set_option maxHeartbeats 1000000
namespace Pv
open PySem PySem.Spec L2
open PyProof.Rows hiding St signs cutD pairD
theorem nin_list (b c : Bool) : dCmp .NotIn (.bool true) (.list [.bool b, .bool c]) = some (.bool (!(b || c))) := by
  cases b <;> cases c <;> kernel_rfl
section
variable {X : Cx} {Wx : WX} {eb : Expr} {mb : M} {pos p : Pos} {x : Str} {tbl : List (Str × D)}
theorem tb_inW {neg : Bool} {m : M} {sl : Sl} {st : Sto} : mTb (mInW neg tbl m) sl st = (m sl st).bind fun d st => match d with
    | .str z => .ok ((tbl.lookup z).isSome != neg) st
    | _ => .bad := by
  unfold mTb mInW
  cases m sl st with
  | ok d s => cases d <;> rfl
  | exc _ _ => rfl
  | bad => rfl
theorem gt_ninW (k : KdAt X.K X.w X.mg x tbl) (ha : GE X Wx eb mb) (hg : Gl X x := by rfl) (hd : (x == ("__debug__" : Str)) = false := by decide +kernel) (hm : behindInMarks .NotIn (.Name x p) = false := by first | exact nobehind _ (by decide) (by decide) | rfl) : GT X Wx (.Compare eb [.NotIn] [.Name x p] pos) (mTb (mInW true tbl mb)) := by
  obtain ⟨a, es, n, hmg, D, all⟩ := k
  refine PT.imp (pt_cmpR (op_notIn_kd D) ha (pe_glob hg hmg (v := .ref a) rfl hd) hm) fun sh H Q ⟨W, sl, st, hr, hs', q⟩ => ?_
  rw [tb_inW] at q
  refine rd_bindT hr hs' q fun d1 st1 W1 v1 H1 e1 x1 h1 s1 r1 p1 => ?_
  cases d1 with
  | str z =>
    obtain rfl : v1 = .str z := r1
    have p1 : PostT (nv X) W1 H1 Q (fun cls dd H' => Wx cls dd sh H') (.ok ((tbl.lookup z).isSome != true) st1) := p1
    rcases all z with ⟨d, u, v, f1, f2, f3, f4⟩ | ⟨f1, f2⟩
    · rw [f1] at p1
      exact ⟨z, _, rfl, rfl, f2, _, rfl, PostT.now h1 p1⟩
    · rw [f1] at p1
      exact ⟨z, _, rfl, rfl, f2, _, rfl, PostT.now h1 p1⟩
  | _ => exact p1.elim
end
end Pv
set_option Elab.async false
set_option linter.all false
set_option maxRecDepth 100000
set_option maxHeartbeats 1000000
namespace Pv
open PySem PySem.Spec L2
open PyProof.Rows hiding St signs cutD pairD
def dStrA : D → Option D
  | .int i => if i.natAbs < 10 ^ 62 then some (.str (toString i)) else none
  | .str a => some (.str a)
  | _ => none
def mStrA : M → M := mOp1 (onD1 dStrA)
@[simp] theorem e_strA {a : M} {sl : Sl} {st : Sto} : mStrA a sl st = (a sl st).bind fun x st => onD1 dStrA x st := rfl
section
variable {X : Cx} {Wx : WX} {ea eb : Expr} {ma mb : M} {pos p : Pos}
theorem ge_tostrA (hm : X.mg "str" = none) (ha : GE X Wx ea ma) (hg : Gl X "str" := by rfl)
    (he : starEach (ea :: []) X.env = (false, eval ea X.env) :: starEach [] X.env := by rfl) (hpl : (backTo pos (starEach [] X.env)).any (·.1) = false := by rfl) : GE X Wx (.Call (.Name "str" p) [ea] [] pos) (mStrA ma) := by
  refine ge_callT1 (cr_or call_str_int SkE.call_str_str) onD1_nx ?_ hg hm PyProof.Rows.boot_str ha (by decide +kernel) (by decide +kernel) he hpl
  intro W H st x dx Q hr rx p
  obtain ⟨d, e, p⟩ := onD1_post p
  cases hx : deref st dx with
  | int i =>
    rw [hx] at e
    simp only [dStrA] at e
    split at e
    · rename_i hl
      cases e
      rw [rep_dint hr rx hx]
      refine .inl ⟨i, rfl, ?_, p.val hr rfl⟩
      by_cases h0 : i.natAbs = 0
      · rw [h0]; decide
      · exact Nat.lt_of_lt_of_le ((Nat.log2_lt h0).mpr (Nat.lt_of_lt_of_le hl (by decide : 10 ^ 62 ≤ 2 ^ 300))) (by decide)
    · cases e
  | str a =>
    rw [hx] at e
    cases e
    rw [rep_dstr hr rx hx]
    exact .inr ⟨a, rfl, p.val hr rfl⟩
  | _ => rw [hx] at e; cases e
end
end Pv
set_option Elab.async false
set_option linter.all false
set_option maxRecDepth 100000
set_option maxHeartbeats 4000000
namespace Gstampahead_k76_events_written
open PySem PySem.Spec L2 Pv LamX
open PyProof.Rows hiding St
def b__law_feed : MS := sRet (mDct ((mC (.str "cells"), mLc (mIter (mSl (mVar 0) (moNone) (moSome (mC (.int 63))))) (.nm 1) (tYesM) (mInt (mVar 1)) [1]) :: (mC (.str "spot"), mC (.int 0)) :: (mC (.str "left"), mC (.int 0)) :: (mC (.str "drawn"), mC (.int 0)) :: []))
def F__law_feed : Fn := fnK 2 b__law_feed
def b__law_draw : MS := sSeq (sAsg (mAdd (mIx (mVar 0) (mC (.str "drawn"))) (mC (.int 1))) (tgSub (mVar 0) (mC (.str "drawn")))) (sSeq (sIf (mTb (mCmp .Gt (mIx (mVar 0) (mC (.str "left"))) (mC (.int 0)))) (sSeq (sAsg (mMod (mInt (mIx (mVar 0) (mC (.str "left")))) (mVar 1)) (tgName 2)) (sSeq (sAsg (mFdiv (mIx (mVar 0) (mC (.str "left"))) (mVar 1)) (tgSub (mVar 0) (mC (.str "left")))) (sRet (mVar 2)))) (sNil)) (sSeq (sPar2 3 4 (msCons (mIx (mVar 0) (mC (.str "spot"))) (msCons (mIx (mVar 0) (mC (.str "cells"))) (msNil)))) (sSeq (sAsg (mAdd (mVar 3) (mC (.int 1))) (tgSub (mVar 0) (mC (.str "spot")))) (sSeq (sAsg (mIf (mTb (mCmp .NotEq (mVar 4) (mLst (msNil)))) (mIx (mVar 4) (mMod (mInt (mVar 3)) (mLen (mVar 4)))) (mC (.int 399425))) (tgName 5)) (sSeq (sIf (mAndT (mTb (mCmp .GtE (mVar 5) (mPow (mC (.int 10)) (mC (.int 18))))) (mTb (mCmp .Lt (mVar 3) (mLen (mVar 4))))) (sSeq (sAsg (mFdiv (mVar 5) (mVar 1)) (tgSub (mVar 0) (mC (.str "left")))) (sRet (mMod (mInt (mVar 5)) (mVar 1)))) (sNil)) (sSeq (sAsg (mMod (mInt (mAdd (mAdd (mMulS (mMod (mInt (mVar 5)) (mC (.int 1000000777))) (mC (.int 5))) (mMulS (mC (.int 78415)) (mIx (mVar 0) (mC (.str "drawn"))))) (mC (.int 799)))) (mC (.int 2147483171))) (tgName 6)) (sSeq (sAsg (mMod (mInt (mAdd (mAdd (mMulS (mVar 6) (mVar 6)) (mMulS (mC (.int 87919)) (mIx (mVar 0) (mC (.str "drawn"))))) (mC (.int 895)))) (mC (.int 2147483543))) (tgName 6)) (sRet (mMod (mInt (mFdiv (mMod (mInt (mAdd (mMulS (mVar 6) (mVar 6)) (mMulS (mC (.int 773)) (mVar 6)))) (mC (.int 2147483353))) (mC (.int 16)))) (mVar 1))))))))))
def F__law_draw : Fn := fnP 7 b__law_draw
def b__law_any : MS := sRet (mIx (mVar 1) (mCall F__law_draw (msCons (mVar 0) (msCons (mLen (mVar 1)) (msNil)))))
def F__law_any : Fn := fnP 2 b__law_any
def b__law_drawn_event : MS := sSeq (sPar2 1 2 (msCons (mLst (msCons (mC (.str "a")) (msCons (mC (.str "amy")) (msCons (mC (.str "zzzzzzzz")) (msCons (mC (.str "tell")) (msCons (mC (.str "clock")) (msCons (mC (.str "most")) (msCons (mC (.str "abcdefgh")) (msCons (mC (.str "q")) (msNil)))))))))) (msCons (mCall F__law_draw (msCons (mVar 0) (msCons (mC (.int 4)) (msNil)))) (msNil)))) (sSeq (sPar2 3 4 (msCons (mCall F__law_any (msCons (mVar 0) (msCons (mVar 1) (msNil)))) (msCons (mCall F__law_any (msCons (mVar 0) (msCons (mAdd (mVar 1) (mLst (msCons (mC (.str "road")) (msCons (mC (.str "cut")) (msCons (mC (.str "host")) (msNil)))))) (msNil)))) (msNil)))) (sSeq (sAsg (mLst (msCons (mC (.int 0)) (msCons (mC (.int 1)) (msCons (mC (.int 2)) (msCons (mC (.int 9)) (msCons (mC (.int 10)) (msCons (mC (.int 60)) (msCons (mC (.int 100)) (msCons (mPow (mC (.int 10)) (mC (.int 59))) (msCons (mSub (mPow (mC (.int 10)) (mC (.int 60))) (mC (.int 1))) (msNil))))))))))) (tgName 5)) (sSeq (sIf (mTb (mCmp .Eq (mVar 2) (mC (.int 0)))) (sSeq (sAsg (mAdd (mVar 5) (mLst (msCons (mNeg (mC (.int 1))) (msCons (mNeg (mC (.int 10))) (msCons (mNeg (mPow (mC (.int 10)) (mC (.int 59)))) (msCons (mSub (mC (.int 1)) (mPow (mC (.int 10)) (mC (.int 60)))) (msNil))))))) (tgName 6)) (sSeq (sAsg (mTup (msCons (mC (.str "tell")) (msCons (mVar 3) (msCons (mCall F__law_any (msCons (mVar 0) (msCons (mVar 6) (msNil)))) (msCons (mCall F__law_any (msCons (mVar 0) (msCons (mVar 6) (msNil)))) (msNil)))))) (tgName 7)) (sRet (mAdd (mVar 7) (mTup (msCons (mCall F__law_any (msCons (mVar 0) (msCons (mAdd (mLst (msCons (mC .none) (msCons (mC .none) (msNil)))) (mVar 5)) (msNil)))) (msNil))))))) (sNil)) (sSeq (sIf (mTb (mCmp .Eq (mVar 2) (mC (.int 1)))) (sRet (mTup (msCons (mC (.str "clock")) (msCons (mVar 3) (msCons (mCall F__law_any (msCons (mVar 0) (msCons (mVar 5) (msNil)))) (msCons (mCall F__law_any (msCons (mVar 0) (msCons (mVar 5) (msNil)))) (msNil))))))) (sNil)) (sSeq (sIf (mTb (mCmp .Eq (mVar 4) (mVar 3))) (sAsg (mC (.str "other")) (tgName 4)) (sNil)) (sRet (mIf (mTb (mCmp .Eq (mVar 2) (mC (.int 2)))) (mTup (msCons (mC (.str "cut")) (msCons (mVar 3) (msCons (mVar 4) (msNil))))) (mTup (msCons (mC (.str "road")) (msCons (mVar 3) (msCons (mVar 4) (msCons (mCall F__law_any (msCons (mVar 0) (msCons (mVar 5) (msNil)))) (msNil)))))))))))))
def F__law_drawn_event : Fn := fnP 8 b__law_drawn_event
def b__law_line : MS := sRet (mJoin (mC (.str " ")) (mLc (mIter (mVar 0)) (.nm 1) (tYesM) (mIf (mTb (mIsN (mVar 1))) (mC (.str "-")) (mStrA (mVar 1))) [1]))
def F__law_line : Fn := fnP 2 b__law_line
def b_want : MS := sIf (mNotT (mTru (mVar 0))) (sRaise "NotUsable" ["word", "at"] (msCons (mVar 1) (msCons (mNeg (mC (.int 1))) (msNil)))) (sNil)
def F_want : Fn := fnP 2 b_want
def b_is_name : MS := sRet (mAnd (mIsi .str (mVar 0)) (mAnd (mChain .LtE .LtE (mC (.int 1)) (mLen (mVar 0)) (mC (.int 8))) (mAll (mLc (mIter (mVar 0)) (.nm 1) (tYesM) (mCmp .In (mVar 1) (mC (.str "abcdefghijklmnopqrstuvwxyz"))) [1]))))
def F_is_name : Fn := fnP 2 b_is_name
def b_is_integer : MS := sRet (mAnd (mIsi .int (mVar 0)) (mNot (mIsi .bool (mVar 0))))
def F_is_integer : Fn := fnP 1 b_is_integer
def b_is_number : MS := sRet (mAnd (mCall F_is_integer (msCons (mVar 0) (msNil))) (mCmp .GtE (mVar 0) (mC (.int 0))))
def F_is_number : Fn := fnP 1 b_is_number
def b_is_letter : MS := sRet (mOr (mIsN (mVar 0)) (mCall F_is_number (msCons (mVar 0) (msNil))))
def F_is_letter : Fn := fnP 1 b_is_letter
def b_is_told : MS := sSeq (sAsg (mVar 0) (tgTup 4 (tgCons (tgName 1) (tgCons (tgName 2) (tgCons (tgName 3) (tgCons (tgName 4) (tgNil))))))) (sRet (mAnd (mCall F_is_name (msCons (mVar 1) (msNil))) (mAnd (mCall F_is_integer (msCons (mVar 2) (msNil))) (mAnd (mCall F_is_integer (msCons (mVar 3) (msNil))) (mCall F_is_letter (msCons (mVar 4) (msNil)))))))
def F_is_told : Fn := fnP 5 b_is_told
def b_is_clocked : MS := sSeq (sAsg (mVar 0) (tgTup 3 (tgCons (tgName 1) (tgCons (tgName 2) (tgCons (tgName 3) (tgNil)))))) (sRet (mAnd (mCall F_is_name (msCons (mVar 1) (msNil))) (mAnd (mCall F_is_number (msCons (mVar 2) (msNil))) (mCall F_is_number (msCons (mVar 3) (msNil))))))
def F_is_clocked : Fn := fnP 4 b_is_clocked
def b_are_two : MS := sRet (mAnd (mCall F_is_name (msCons (mVar 0) (msNil))) (mAnd (mCall F_is_name (msCons (mVar 1) (msNil))) (mCmp .NotEq (mVar 0) (mVar 1))))
def F_are_two : Fn := fnP 2 b_are_two
def b_is_led : MS := sSeq (sAsg (mVar 0) (tgTup 3 (tgCons (tgName 1) (tgCons (tgName 2) (tgCons (tgName 3) (tgNil)))))) (sRet (mAnd (mCall F_are_two (msCons (mVar 1) (msCons (mVar 2) (msNil)))) (mCall F_is_number (msCons (mVar 3) (msNil)))))
def F_is_led : Fn := fnP 4 b_is_led
def b_is_live_event : MS := sSeq (sIf (mOrT (mNotT (mTru (mIsi .tuple (mVar 0)))) (mOrT (mTb (mCmp .Eq (mLen (mVar 0)) (mC (.int 0)))) (mNotT (mTru (mIsi .str (mIx (mVar 0) (mC (.int 0)))))))) (sRet (mC (.bool false))) (sNil)) (sSeq (sPar2 1 2 (msCons (mIx (mVar 0) (mC (.int 0))) (msCons (mLen (mVar 0)) (msNil)))) (sSeq (sIf (mTb (mCmp .Eq (mVar 1) (mC (.str "tell")))) (sRet (mAnd (mCmp .Eq (mVar 2) (mC (.int 5))) (mCall F_is_told (msCons (mSl (mVar 0) (moSome (mC (.int 1))) (moNone)) (msNil))))) (sNil)) (sSeq (sIf (mTb (mCmp .Eq (mVar 1) (mC (.str "clock")))) (sRet (mAnd (mCmp .Eq (mVar 2) (mC (.int 4))) (mCall F_is_clocked (msCons (mSl (mVar 0) (moSome (mC (.int 1))) (moNone)) (msNil))))) (sNil)) (sSeq (sIf (mTb (mCmp .Eq (mVar 1) (mC (.str "road")))) (sRet (mAnd (mCmp .Eq (mVar 2) (mC (.int 4))) (mCall F_is_led (msCons (mSl (mVar 0) (moSome (mC (.int 1))) (moNone)) (msNil))))) (sNil)) (sRet (mAnd (mCmp .Eq (mVar 1) (mC (.str "cut"))) (mAnd (mCmp .Eq (mVar 2) (mC (.int 3))) (mCall F_are_two (msCons (mIx (mVar 0) (mC (.int 1))) (msCons (mIx (mVar 0) (mC (.int 2))) (msNil)))))))))))
def F_is_live_event : Fn := fnP 3 b_is_live_event
def b_event_line : MS := sSeq (sExpr (mCall F_want (msCons (mCall F_is_live_event (msCons (mVar 0) (msNil))) (msCons (mC (.str "event")) (msNil))))) (sRet (mJoin (mC (.str " ")) (mLc (mIter (mVar 0)) (.nm 1) (tYesM) (mIf (mTb (mIsN (mVar 1))) (mC (.str "-")) (mStrA (mVar 1))) [1])))
def F_event_line : Fn := fnP 2 b_event_line
def b_number_of : MS := sSeq (sIf (mOrT (mNotT (mTb (mChain .LtE .LtE (mC (.int 1)) (mLen (mVar 0)) (mC (.int 60))))) (mNotT (mTru (mAll (mLc (mIter (mVar 0)) (.nm 1) (tYesM) (mCmp .In (mVar 1) (mC (.str "0123456789"))) [1]))))) (sRet (mC .none)) (sNil)) (sRet (mIf (mAndT (mTb (mCmp .Eq (mIx (mVar 0) (mC (.int 0))) (mC (.str "0")))) (mTb (mCmp .NotEq (mVar 0) (mC (.str "0"))))) (mC .none) (mInt (mVar 0))))
def F_number_of : Fn := fnP 2 b_number_of
def b_integer_of : MS := sSeq (sIf (mTb (mCmp .NotEq (mSl (mVar 0) (moNone) (moSome (mC (.int 1)))) (mC (.str "-")))) (sRet (mCall F_number_of (msCons (mVar 0) (msNil)))) (sNil)) (sSeq (sAsg (mCall F_number_of (msCons (mSl (mVar 0) (moSome (mC (.int 1))) (moNone)) (msNil))) (tgName 1)) (sRet (mIf (mOrT (mTb (mIsN (mVar 1))) (mTb (mCmp .Eq (mVar 1) (mC (.int 0))))) (mC .none) (mNeg (mVar 1)))))
def F_integer_of : Fn := fnP 2 b_integer_of
def b_part_of : MS := sSeq (sIf (mTb (mCmp .In (mVar 1) (mTup (msCons (mC (.str "name")) (msCons (mC (.str "other")) (msNil)))))) (sRet (mIf (mAndT (mTru (mCall F_is_name (msCons (mVar 0) (msNil)))) (mOrT (mTb (mCmp .Eq (mVar 1) (mC (.str "name")))) (mTb (mCmp .NotEq (mVar 0) (mVar 2))))) (mLst (msCons (mVar 0) (msNil))) (mLst (msNil)))) (sNil)) (sSeq (sIf (mAndT (mTb (mCmp .Eq (mVar 1) (mC (.str "letter")))) (mTb (mCmp .Eq (mVar 0) (mC (.str "-"))))) (sRet (mLst (msCons (mC .none) (msNil)))) (sNil)) (sSeq (sAsg (mIf (mTb (mCmp .Eq (mVar 1) (mC (.str "integer")))) (mCall F_integer_of (msCons (mVar 0) (msNil))) (mCall F_number_of (msCons (mVar 0) (msNil)))) (tgName 3)) (sRet (mIf (mTb (mIsN (mVar 3))) (mLst (msNil)) (mLst (msCons (mVar 3) (msNil)))))))
def F_part_of : Fn := fnP 4 b_part_of
def l0_event_in : MS := sSeq (sAsg (mIf (mTb (mCmp .Lt (mVar 5) (mLen (mVar 2)))) (mCall F_part_of (msCons (mIx (mVar 2) (mVar 5)) (msCons (mVar 6) (msCons (mIx (mVar 2) (mSub (mVar 5) (mC (.int 1)))) (msNil))))) (mLst (msNil))) (tgName 7)) (sSeq (sIf (mTb (mCmp .Eq (mLen (mVar 7)) (mC (.int 0)))) (sRaise "InvalidText" ["line", "field"] (msCons (mVar 1) (msCons (mVar 5) (msNil)))) (sNil)) (sExpr (mExt (mVar 4) (mVar 7))))
def b_event_in : MS := sSeq (sAsg (mSplit (mVar 0) (mC (.str " "))) (tgName 2)) (sSeq (sIf (mTb (mInW true ([("tell", Gc [.str "name", .str "integer", .str "integer", .str "letter"]), ("clock", Gc [.str "name", .str "number", .str "number"]), ("road", Gc [.str "name", .str "other", .str "number"]), ("cut", Gc [.str "name", .str "other"])]) (mIx (mVar 2) (mC (.int 0))))) (sRaise "InvalidText" ["line", "field"] (msCons (mVar 1) (msCons (mC (.int 0)) (msNil)))) (sNil)) (sSeq (sPar2 3 4 (msCons (mIxW ([("tell", Gc [.str "name", .str "integer", .str "integer", .str "letter"]), ("clock", Gc [.str "name", .str "number", .str "number"]), ("road", Gc [.str "name", .str "other", .str "number"]), ("cut", Gc [.str "name", .str "other"])]) (mIx (mVar 2) (mC (.int 0)))) (msCons (mLstM (msCons (mIx (mVar 2) (mC (.int 0))) (msNil))) (msNil)))) (sSeq (sFor [5, 6, 7] (mEnum1 (mVar 3)) (tgTup 2 (tgCons (tgName 5) (tgCons (tgName 6) (tgNil)))) (l0_event_in)) (sSeq (sIf (mTb (mCmp .Gt (mLen (mVar 2)) (mLen (mVar 4)))) (sRaise "InvalidText" ["line", "field"] (msCons (mVar 1) (msCons (mLen (mVar 4)) (msNil)))) (sNil)) (sRet (mTuple (mVar 4)))))))
def F_event_in : Fn := fnP 8 b_event_in
def b_read_event : MS := sSeq (sExpr (mCall F_want (msCons (mIsi .str (mVar 0)) (msCons (mC (.str "text")) (msNil))))) (sRet (mCall F_event_in (msCons (mVar 0) (msCons (mC (.int 0)) (msNil)))))
def F_read_event : Fn := fnP 1 b_read_event
def b__law_is_name : MS := sSeq (sIf (mOrT (mNotT (mTru (mIsi .str (mVar 0)))) (mNotT (mTb (mChain .LtE .LtE (mC (.int 1)) (mLen (mVar 0)) (mC (.int 8)))))) (sRet (mC (.bool false))) (sNil)) (sRet (mCmp .Eq (mLc (mIter (mVar 0)) (.nm 1) (mTb (mCmp .NotIn (mVar 1) (mC (.str "abcdefghijklmnopqrstuvwxyz")))) (mVar 1) [1]) (mLst (msNil))))
def F__law_is_name : Fn := fnP 2 b__law_is_name
def b__law_is_figures : MS := sSeq (sIf (mOrT (mNotT (mTb (mChain .LtE .LtE (mC (.int 1)) (mLen (mVar 0)) (mC (.int 60))))) (mTb (mCmp .NotEq (mLc (mIter (mVar 0)) (.nm 1) (mTb (mCmp .NotIn (mVar 1) (mC (.str "0123456789")))) (mVar 1) [1]) (mLst (msNil))))) (sRet (mC (.bool false))) (sNil)) (sRet (mOr (mCmp .Eq (mVar 0) (mC (.str "0"))) (mCmp .NotEq (mIx (mVar 0) (mC (.int 0))) (mC (.str "0")))))
def F__law_is_figures : Fn := fnP 2 b__law_is_figures
def b__law_is_whole : MS := sSeq (sIf (mTb (mCmp .Eq (mSl (mVar 0) (moNone) (moSome (mC (.int 1)))) (mC (.str "-")))) (sRet (mAnd (mCall F__law_is_figures (msCons (mSl (mVar 0) (moSome (mC (.int 1))) (moNone)) (msNil))) (mCmp .NotEq (mVar 0) (mC (.str "-0"))))) (sNil)) (sRet (mCall F__law_is_figures (msCons (mVar 0) (msNil))))
def F__law_is_whole : Fn := fnP 1 b__law_is_whole
def b__law_fits : MS := sSeq (sIf (mTb (mCmp .Eq (mVar 0) (mC (.str "name")))) (sRet (mCall F__law_is_name (msCons (mVar 1) (msNil)))) (sNil)) (sSeq (sIf (mTb (mCmp .Eq (mVar 0) (mC (.str "number")))) (sRet (mCall F__law_is_figures (msCons (mVar 1) (msNil)))) (sNil)) (sRet (mIf (mTb (mCmp .Eq (mVar 0) (mC (.str "integer")))) (mCall F__law_is_whole (msCons (mVar 1) (msNil))) (mOr (mCmp .Eq (mVar 1) (mC (.str "-"))) (mCall F__law_is_figures (msCons (mVar 1) (msNil)))))))
def F__law_fits : Fn := fnP 2 b__law_fits
def l0__law_event_read : MS := sSeq (sIf (mOrT (mTb (mCmp .GtE (mAdd (mVar 3) (mC (.int 1))) (mLen (mVar 1)))) (mNotT (mTru (mCall F__law_fits (msCons (mVar 4) (msCons (mIx (mVar 1) (mAdd (mVar 3) (mC (.int 1)))) (msNil))))))) (sRet (mTup (msCons (mC (.str "no")) (msCons (mAdd (mVar 3) (mC (.int 1))) (msNil))))) (sNil)) (sIf (mAndT (mTb (mCmp .Eq (mVar 3) (mC (.int 1)))) (mAndT (mTb (mCmp .Eq (mVar 4) (mC (.str "name")))) (mTb (mCmp .Eq (mIx (mVar 1) (mC (.int 1))) (mIx (mVar 1) (mC (.int 2))))))) (sRet (mTup (msCons (mC (.str "no")) (msCons (mC (.int 2)) (msNil))))) (sNil))
def l1__law_event_read : MS := sSeq (sAsg (mIx (mVar 1) (mAdd (mVar 3) (mC (.int 1)))) (tgName 6)) (sExpr (mApp (mVar 5) (mIf (mTb (mCmp .Eq (mIx (mVar 2) (mVar 3)) (mC (.str "name")))) (mVar 6) (mIf (mTb (mCmp .Eq (mVar 6) (mC (.str "-")))) (mC .none) (mInt (mVar 6))))))
def b__law_event_read : MS := sSeq (sPar2 1 2 (msCons (mSplit (mVar 0) (mC (.str " "))) (msCons (mLst (msNil)) (msNil)))) (sSeq (sIf (mTb (mCmp .Eq (mIx (mVar 1) (mC (.int 0))) (mC (.str "tell")))) (sAsg (mLst (msCons (mC (.str "name")) (msCons (mC (.str "integer")) (msCons (mC (.str "integer")) (msCons (mC (.str "letter")) (msNil)))))) (tgName 2)) (sIf (mTb (mCmp .Eq (mIx (mVar 1) (mC (.int 0))) (mC (.str "clock")))) (sAsg (mLst (msCons (mC (.str "name")) (msCons (mC (.str "number")) (msCons (mC (.str "number")) (msNil))))) (tgName 2)) (sIf (mTb (mCmp .In (mIx (mVar 1) (mC (.int 0))) (mTup (msCons (mC (.str "road")) (msCons (mC (.str "cut")) (msNil)))))) (sAsg (mAdd (mLst (msCons (mC (.str "name")) (msCons (mC (.str "name")) (msNil)))) (mIf (mTb (mCmp .Eq (mIx (mVar 1) (mC (.int 0))) (mC (.str "road")))) (mLst (msCons (mC (.str "number")) (msNil))) (mLst (msNil)))) (tgName 2)) (sRet (mTup (msCons (mC (.str "no")) (msCons (mC (.int 0)) (msNil)))))))) (sSeq (sFor [3, 4] (mEnum (mVar 2)) (tgTup 2 (tgCons (tgName 3) (tgCons (tgName 4) (tgNil)))) (l0__law_event_read)) (sSeq (sIf (mTb (mCmp .Gt (mLen (mVar 1)) (mAdd (mLen (mVar 2)) (mC (.int 1))))) (sRet (mTup (msCons (mC (.str "no")) (msCons (mAdd (mLen (mVar 2)) (mC (.int 1))) (msNil))))) (sNil)) (sSeq (sAsg (mLstM (msCons (mIx (mVar 1) (mC (.int 0))) (msCons (mIx (mVar 1) (mC (.int 1))) (msNil)))) (tgName 5)) (sSeq (sFor [3, 6] (mRng2 (mC (.int 1)) (mLen (mVar 2))) (tgName 3) (l1__law_event_read)) (sRet (mTup (msCons (mC (.str "told")) (msCons (mTuple (mVar 5)) (msNil))))))))))
def F__law_event_read : Fn := fnP 7 b__law_event_read
abbrev cs__law_heard : List Str := ["NotUsable", "InvalidText"]
def b__law_heard (a dd : Nat) (c : Str) : MS := sSeq (sAsg (mLst (msCons (mIsE a dd c ([].contains c) (mVar 1)) (msCons (mIsE a dd c ([("NotUsable" : Str)].contains c) (mVar 1)) (msNil)))) (tgName 2)) (sSeq (sAsg (mAdd (mVar 2) (mLst (msCons (mIsE a dd c ([].contains c) (mVar 1)) (msCons (mIsE a dd c ([("InvalidText" : Str)].contains c) (mVar 1)) (msNil))))) (tgName 2)) (sSeq (sIf (mOrT (mNotT (mTru (mIsE a dd c ([("NotUsable" : Str), ("InvalidText" : Str)].contains c) (mVar 1)))) (mTb (mCmp .NotEq (mCnt (mVar 2) (mC (.bool true))) (mC (.int 1))))) (sRet (mTup (msCons (mC (.str "odd")) (msNil)))) (sNil)) (sSeq (sAsg (mLst (msCons (mIsE a dd c ([].contains c) (mVar 1)) (msCons (mIsE a dd c ([].contains c) (mVar 1)) (msNil)))) (tgName 3)) (sSeq (sIf (mAndT (mTru (mIx (mVar 2) (mC (.int 1)))) (mAndT (mTru (mIsE a dd c ([("NotUsable" : Str)].contains c) (mVar 1))) (mTb (mCmp .NotIn (mC (.bool true)) (mVar 3))))) (sRet (mTup (msCons (mC (.str "use")) (msCons (mFld a dd c "word" (mVar 1)) (msCons (mFld a dd c "at" (mVar 1)) (msNil)))))) (sNil)) (sSeq (sIf (mOrT (mNotT (mTru (mIx (mVar 2) (mC (.int 3))))) (mOrT (mTru (mIsE a dd c ([].contains c) (mVar 1))) (mNotT (mTru (mIsE a dd c ([("InvalidText" : Str)].contains c) (mVar 1)))))) (sRet (mTup (msCons (mC (.str "odd")) (msNil)))) (sNil)) (sRet (mTup (msCons (mC (.str "text")) (msCons (mFld a dd c "line" (mVar 1)) (msCons (mFld a dd c "field" (mVar 1)) (msNil)))))))))))
def sF__law_heard : R Pv.D → R Pv.D := saidR "told" cs__law_heard 4 1 b__law_heard
theorem ind__law_heard : ∀ (a dd : Nat) (x : XV) (st : Sto), x.1 ∈ cs__law_heard → handR 4 1 b__law_heard a dd x st = handR 4 1 b__law_heard 0 0 x st := by
  intro a dd x st hx
  obtain ⟨c, fs⟩ := x
  simp only [List.mem_cons, List.not_mem_nil, or_false] at hx
  rcases hx with rfl | rfl
  all_goals (cases h0 : List.lookup ("at" : Str) ((nmD (fs.map fun p => .str p.1)).zip (fs.map (·.2))) <;> cases h1 : List.lookup ("field" : Str) ((nmD (fs.map fun p => .str p.1)).zip (fs.map (·.2))) <;> cases h2 : List.lookup ("line" : Str) ((nmD (fs.map fun p => .str p.1)).zip (fs.map (·.2))) <;> cases h3 : List.lookup ("word" : Str) ((nmD (fs.map fun p => .str p.1)).zip (fs.map (·.2))) <;> (unfold handR b__law_heard; simp -implicitDefEqProofs [slE, exD, mkLst, mkLstM, isLst, fApp, isLstD, fCnt, cntD, mkTup, deref, sz_le, sz_lt, PyData.canLayAll0, PyData.canLay0, PyData.depthAll, PyData.depth, PyData.eqv, fIx, dlook, dIx, atI, ixN, dAddT, add_lls, nin_list, h0, h1, h2, h3]))
def b__law_is_read_right (tb : Nat → Addr) : MS := sSeq (sAsg (mCall F__law_event_read (msCons (mVar 0) (msNil))) (tgName 1)) (sSeq (sAsg (mIf (mTb (mCmp .Eq (mIx (mVar 1) (mC (.int 0))) (mC (.str "told")))) (mVar 1) (mTup (msCons (mC (.str "text")) (msCons (mC (.int 0)) (msCons (mIx (mVar 1) (mC (.int 1))) (msNil)))))) (tgName 1)) (sSeq (sAsg (mLstM (msCons (mSaid (tb 0) "_law_is_read_right.<locals>.<lambda>" sF__law_heard (mCall F_read_event (msCons (mVar 0) (msNil)))) (msNil))) (tgName 2)) (sSeq (sExpr (mApp (mVar 2) (mSaid (tb 0) "_law_is_read_right.<locals>.<lambda>" sF__law_heard (mCall (fun ds => F_read_event (perm [0] ds)) (msCons (mVar 0) (msNil)))))) (sRet (mCmp .Eq (mReprF (mVar 2)) (mReprF (mLst (msCons (mVar 1) (msCons (mVar 1) (msNil))))))))))
def F__law_is_read_right (tb : Nat → Addr) : Fn := fnP 3 (b__law_is_read_right tb)
def b__law_bent : MS := sSeq (sPar3 2 3 4 (msCons (mCall F__law_draw (msCons (mVar 0) (msCons (mC (.int 7)) (msNil)))) (msCons (mCall F__law_draw (msCons (mVar 0) (msCons (mAdd (mLen (mVar 1)) (mC (.int 1))) (msNil)))) (msCons (mSplit (mVar 1) (mC (.str " "))) (msNil))))) (sSeq (sAsg (mCall F__law_any (msCons (mVar 0) (msCons (mLst (msCons (mC (.str "0")) (msCons (mC (.str "1")) (msCons (mC (.str " ")) (msCons (mC (.str "a")) (msCons (mC (.str "A")) (msCons (mC (.str "-")) (msCons (mC (.str ".")) (msCons (mC (.str "\n")) (msCons (mC (.str "s")) (msCons (mC (.str "+")) (msCons (mC (.str "zzzz")) (msNil))))))))))))) (msNil)))) (tgName 5)) (sSeq (sAsg (mCall F__law_draw (msCons (mVar 0) (msCons (mLen (mVar 4)) (msNil)))) (tgName 6)) (sSeq (sAsg (mLst (msCons (mC (.str "tell")) (msCons (mC (.str "clock")) (msCons (mC (.str "road")) (msCons (mC (.str "cut")) (msCons (mC (.str "-")) (msCons (mC (.str "0")) (msCons (mC (.str "")) (msCons (mC (.str "amy")) (msCons (mC (.str "-0")) (msCons (mC (.str "-1")) (msCons (mC (.str "00")) (msCons (mC (.str "abcdefghi")) (msNil)))))))))))))) (tgName 7)) (sSeq (sAsg (mAdd (mVar 7) (mLst (msCons (mMulT (mC (.str "1")) (mC (.int 60))) (msCons (mMulT (mC (.str "1")) (mC (.int 61))) (msNil))))) (tgName 7)) (sSeq (sAsg (mAdd (mVar 7) (mLst (msCons (mAdd (mC (.str "-")) (mMulT (mC (.str "1")) (mC (.int 60)))) (msCons (mAdd (mC (.str "-")) (mMulT (mC (.str "1")) (mC (.int 61)))) (msCons (mC (.str "--1")) (msCons (mC (.str "+1")) (msCons (mC (.str "1.0")) (msCons (mC (.str "a")) (msCons (mC (.str "q")) (msNil)))))))))) (tgName 7)) (sSeq (sIf (mTb (mCmp .Eq (mVar 2) (mC (.int 0)))) (sRet (mAdd (mSl (mVar 1) (moNone) (moSome (mVar 3))) (mSl (mVar 1) (moSome (mAdd (mVar 3) (mC (.int 1)))) (moNone)))) (sNil)) (sSeq (sIf (mTb (mCmp .Eq (mVar 2) (mC (.int 1)))) (sRet (mAdd (mAdd (mSl (mVar 1) (moNone) (moSome (mVar 3))) (mVar 5)) (mSl (mVar 1) (moSome (mAdd (mVar 3) (mC (.int 1)))) (moNone)))) (sNil)) (sSeq (sIf (mTb (mCmp .Eq (mVar 2) (mC (.int 2)))) (sRet (mJoin (mC (.str " ")) (mAdd (mAdd (mSl (mVar 4) (moNone) (moSome (mVar 6))) (mSl (mVar 4) (moSome (mVar 6)) (moSome (mAdd (mVar 6) (mC (.int 1)))))) (mSl (mVar 4) (moSome (mVar 6)) (moNone))))) (sNil)) (sSeq (sIf (mTb (mCmp .Eq (mVar 2) (mC (.int 3)))) (sRet (mJoin (mC (.str " ")) (mAdd (mSl (mVar 4) (moNone) (moSome (mVar 6))) (mSl (mVar 4) (moSome (mAdd (mVar 6) (mC (.int 1)))) (moNone))))) (sNil)) (sSeq (sIf (mTb (mCmp .Eq (mVar 2) (mC (.int 4)))) (sRet (mJoin (mC (.str " ")) (mAdd (mAdd (mSl (mVar 4) (moNone) (moSome (mVar 6))) (mLst (msCons (mCall F__law_any (msCons (mVar 0) (msCons (mVar 7) (msNil)))) (msNil)))) (mSl (mVar 4) (moSome (mAdd (mVar 6) (mC (.int 1)))) (moNone))))) (sNil)) (sRet (mAdd (mAdd (mSl (mVar 1) (moNone) (moSome (mVar 3))) (mVar 5)) (mSl (mVar 1) (moSome (mVar 3)) (moNone))))))))))))))
def F__law_bent : Fn := fnP 8 b__law_bent
def b__law_hand : MS := sSeq (sAsg (mLst (msCons (mC (.str "")) (msCons (mC (.str " ")) (msCons (mC (.str "tell")) (msCons (mC (.str "tell ")) (msCons (mC (.str " tell amy 0 0 -")) (msCons (mC (.str "tell amy")) (msCons (mC (.str "tell amy 0")) (msNil))))))))) (tgName 0)) (sSeq (sAsg (mAdd (mVar 0) (mLst (msCons (mC (.str "tell amy 0 0")) (msCons (mC (.str "tell amy 0 0 -")) (msNil))))) (tgName 0)) (sSeq (sAsg (mAdd (mVar 0) (mLst (msCons (mC (.str "tell amy 0 0 - -")) (msCons (mC (.str "tell amy 0 0 -1")) (msCons (mC (.str "tell amy -0 0 -")) (msCons (mC (.str "tell amy 0 -0 -")) (msNil))))))) (tgName 0)) (sSeq (sAsg (mAdd (mVar 0) (mLst (msCons (mC (.str "tell amy - 0 -")) (msCons (mC (.str "tell Amy 0 0 -")) (msNil))))) (tgName 0)) (sSeq (sAsg (mAdd (mVar 0) (mLst (msCons (mC (.str "tell amy  0 0 -")) (msCons (mC (.str "tell amy 0 0 - ")) (msCons (mC (.str "tell amy 0 0 -\n")) (msCons (mC (.str "tell\namy 0 0 -")) (msNil))))))) (tgName 0)) (sSeq (sAsg (mAdd (mVar 0) (mLst (msCons (mC (.str "tell amy 01 0 -")) (msCons (mC (.str "Tell amy 0 0 -")) (msNil))))) (tgName 0)) (sSeq (sAsg (mAdd (mVar 0) (mLst (msCons (mC (.str "clock")) (msCons (mC (.str "clock amy")) (msCons (mC (.str "clock amy 1")) (msCons (mC (.str "clock amy 1 2")) (msCons (mC (.str "clock amy 1 2 3")) (msNil)))))))) (tgName 0)) (sSeq (sAsg (mAdd (mVar 0) (mLst (msCons (mC (.str "clock amy -1 2")) (msCons (mC (.str "clock amy 1 -")) (msNil))))) (tgName 0)) (sSeq (sAsg (mAdd (mVar 0) (mLst (msCons (mC (.str "road")) (msCons (mC (.str "road a")) (msCons (mC (.str "road a a")) (msCons (mC (.str "road a a 1")) (msCons (mC (.str "road a b")) (msCons (mC (.str "road a b 1")) (msCons (mC (.str "road a b -")) (msNil)))))))))) (tgName 0)) (sSeq (sAsg (mAdd (mVar 0) (mLst (msCons (mC (.str "road a b -1")) (msCons (mC (.str "road a b 1 1")) (msNil))))) (tgName 0)) (sSeq (sAsg (mAdd (mVar 0) (mLst (msCons (mC (.str "cut")) (msCons (mC (.str "cut a")) (msCons (mC (.str "cut a a")) (msCons (mC (.str "cut a b")) (msCons (mC (.str "cut a b c")) (msCons (mC (.str "cut a b 1")) (msCons (mC (.str "cut a ")) (msCons (mC (.str "cut a B")) (msNil))))))))))) (tgName 0)) (sSeq (sAsg (mAdd (mVar 0) (mLst (msCons (mC (.str "cut 1 2")) (msCons (mC (.str "lay a b 1")) (msNil))))) (tgName 0)) (sSeq (sAsg (mAdd (mVar 0) (mLst (msCons (mC (.str "undo")) (msCons (mC (.str "-")) (msCons (mC (.str "live")) (msCons (mC (.str "host a 0 0 1")) (msCons (mC (.str "most 4 more")) (msCons (mAdd (mAdd (mC (.str "tell ")) (mMulT (mC (.str "a")) (mC (.int 3900)))) (mC (.str " 0 0 -"))) (msNil))))))))) (tgName 0)) (sSeq (sAsg (mAdd (mVar 0) (mLst (msCons (mAdd (mC (.str "cut a b")) (mMulT (mC (.str " c")) (mC (.int 900)))) (msCons (mC (.str "\n")) (msNil))))) (tgName 0)) (sSeq (sAsg (mAdd (mVar 0) (mLst (msCons (mAdd (mAdd (mAdd (mAdd (mAdd (mC (.str "tell amy ")) (mMulT (mC (.str "9")) (mC (.int 60)))) (mC (.str " -"))) (mMulT (mC (.str "9")) (mC (.int 60)))) (mC (.str " "))) (mMulT (mC (.str "9")) (mC (.int 60)))) (msNil)))) (tgName 0)) (sRet (mAdd (mVar 0) (mLst (msCons (mAdd (mAdd (mC (.str "tell amy ")) (mMulT (mC (.str "9")) (mC (.int 61)))) (mC (.str " 0 -"))) (msCons (mC (.str "road a ab 0")) (msNil))))))))))))))))))))
def F__law_hand : Fn := fnP 1 b__law_hand
def b__law_are_refused (tb : Nat → Addr) : MS := sSeq (sAsg (mLst (msCons (mC .none) (msCons (mTup (msNil)) (msCons (mC (.str "cut a b")) (msCons (mLst (msCons (mC (.str "cut")) (msCons (mC (.str "a")) (msCons (mC (.str "b")) (msNil))))) (msCons (mTup (msCons (mC (.str "cut")) (msCons (mC (.str "a")) (msCons (mC (.str "a")) (msNil))))) (msCons (mTup (msCons (mC (.str "tell")) (msCons (mC (.str "a")) (msCons (mC (.int 0)) (msCons (mC (.int 0)) (msNil)))))) (msNil)))))))) (tgName 0)) (sSeq (sAsg (mAdd (mVar 0) (mLst (msCons (mTup (msCons (mC (.str "clock")) (msCons (mC (.str "a")) (msCons (mNeg (mC (.int 1))) (msCons (mC (.int 0)) (msNil)))))) (msCons (mC (.int 0)) (msCons (mC (.bool true)) (msNil)))))) (tgName 0)) (sSeq (sAsg (mAdd (mVar 0) (mLst (msCons (mTup (msCons (mC (.str "road")) (msCons (mC (.str "a")) (msCons (mC (.str "b")) (msCons (mC (.bool true)) (msNil)))))) (msCons (mTup (msCons (mC (.str "tell")) (msCons (mC (.str "A")) (msCons (mC (.int 0)) (msCons (mC (.int 0)) (msCons (mC .none) (msNil))))))) (msCons (mTup (msCons (mC (.str "live")) (msCons (mC (.str "a")) (msCons (mC (.str "b")) (msNil))))) (msNil)))))) (tgName 0)) (sSeq (sAsg (mAdd (mVar 0) (mLst (msCons (mTup (msCons (mC (.str "tell")) (msCons (mC (.str "a")) (msCons (mC (.int 0)) (msCons (mC (.int 0)) (msCons (mNeg (mC (.int 1))) (msNil))))))) (msNil)))) (tgName 0)) (sSeq (sIf (mTb (mCmp .NotEq (mLc (mIter (mVar 0)) (.nm 1) (mTb (mCmp .NotEq (mReprF (mSaid (tb 1) "_law_are_refused.<locals>.<lambda>" sF__law_heard (mCall F_event_line (msCons (mVar 1) (msNil))))) (mReprF (mTup (msCons (mC (.str "use")) (msCons (mC (.str "event")) (msCons (mNeg (mC (.int 1))) (msNil)))))))) (mVar 1) [1]) (mLst (msNil)))) (sRet (mC (.bool false))) (sNil)) (sSeq (sAsg (mLst (msCons (mC .none) (msCons (mC (.int 0)) (msCons (mC (.bool true)) (msCons (mTup (msNil)) (msCons (mLst (msCons (mC (.str "cut a b")) (msNil))) (msCons (mTup (msCons (mC (.str "cut")) (msCons (mC (.str "a")) (msCons (mC (.str "b")) (msNil))))) (msNil)))))))) (tgName 0)) (sRet (mCmp .Eq (mLc (mIter (mVar 0)) (.nm 1) (mTb (mCmp .NotEq (mReprF (mSaid (tb 1) "_law_are_refused.<locals>.<lambda>" sF__law_heard (mCall F_read_event (msCons (mVar 1) (msNil))))) (mReprF (mTup (msCons (mC (.str "use")) (msCons (mC (.str "text")) (msCons (mNeg (mC (.int 1))) (msNil)))))))) (mVar 1) [1]) (mLst (msNil)))))))))
def F__law_are_refused (tb : Nat → Addr) : Fn := fnP 2 (b__law_are_refused tb)
def l0_law (tb : Nat → Addr) : MS := sSeq (sAsg (mCall F__law_drawn_event (msCons (mVar 1) (msNil))) (tgName 3)) (sSeq (sAsg (mCall F__law_line (msCons (mVar 3) (msNil))) (tgName 4)) (sSeq (sAsg (mLst (msCons (mCall F_event_line (msCons (mVar 3) (msNil))) (msCons (mCall (fun ds => F_event_line (perm [0] ds)) (msCons (mVar 3) (msNil))) (msCons (mCall F_read_event (msCons (mVar 4) (msNil))) (msNil))))) (tgName 5)) (sSeq (sIf (mTb (mCmp .NotEq (mReprF (mVar 5)) (mReprF (mLst (msCons (mVar 4) (msCons (mVar 4) (msCons (mVar 3) (msNil)))))))) (sRet (mC (.bool false))) (sNil)) (sIf (mOrT (mNotT (mTru (mCall (F__law_is_read_right tb) (msCons (mCall F__law_bent (msCons (mVar 1) (msCons (mVar 4) (msNil)))) (msNil))))) (mNotT (mTru (mCall (F__law_is_read_right tb) (msCons (mCall F__law_bent (msCons (mVar 1) (msCons (mVar 4) (msNil)))) (msNil)))))) (sRet (mC (.bool false))) (sNil)))))
def b_law (tb : Nat → Addr) : MS := sSeq (sAsg (mCall F__law_feed (msCons (mVar 0) (msNil))) (tgName 1)) (sSeq (sFor [2, 3, 4, 5] (mRng1 (mC (.int 16))) (tgName 2) ((l0_law tb))) (sRet (mAnd (mCmp .Eq (mLc (mIter (mCall F__law_hand msNil)) (.nm 4) (mNotT (mTru (mCall (F__law_is_read_right tb) (msCons (mVar 4) (msNil))))) (mVar 4) [4]) (mLst (msNil))) (mCall (F__law_are_refused tb) msNil))))
def F_law (tb : Nat → Addr) : Fn := fnP 6 (b_law tb)
end Gstampahead_k76_events_written
set_option Elab.async false
set_option linter.all false
set_option maxRecDepth 100000
set_option maxHeartbeats 4000000
namespace Gstampahead_k76_events_written
open PySem PySem.Spec Pv
open L2 hiding keyOf
open PyProof.Rows hiding St signs
def fd (cs : List Pv.D) (sp lf dr : Int) : MO := .dct [(.inr "cells", .list cs), (.inr "spot", .int sp), (.inr "left", .int lf), (.inr "drawn", .int dr)]
section
variable {cs : List Pv.D} {sp lf dr v m : Int} {st pre : Sto}
theorem pre_at (pre st : Sto) (m : MO) : (pre ++ m :: st)[pre.length]? = some m := by simp
theorem fd_cells : fIx (Rf pre.length) (.str "cells") (pre ++ fd cs sp lf dr :: st) = .ok (.list cs) (pre ++ fd cs sp lf dr :: st) := by
  unfold fIx dlook; simp [keyOf, lookD, pre_at, fd]
theorem fd_spot : fIx (Rf pre.length) (.str "spot") (pre ++ fd cs sp lf dr :: st) = .ok (.int sp) (pre ++ fd cs sp lf dr :: st) := by
  unfold fIx dlook; simp [keyOf, lookD, pre_at, fd]
theorem fd_left : fIx (Rf pre.length) (.str "left") (pre ++ fd cs sp lf dr :: st) = .ok (.int lf) (pre ++ fd cs sp lf dr :: st) := by
  unfold fIx dlook; simp [keyOf, lookD, pre_at, fd]
theorem fd_drawn : fIx (Rf pre.length) (.str "drawn") (pre ++ fd cs sp lf dr :: st) = .ok (.int dr) (pre ++ fd cs sp lf dr :: st) := by
  unfold fIx dlook; simp [keyOf, lookD, pre_at, fd]
theorem set_spot : setO (pre ++ fd cs sp lf dr :: st) (Rf pre.length) (.str "spot") (.int v) = some (pre ++ fd cs v lf dr :: st) := by
  unfold setO; simp [keyOf, putD, sizeLine_eq, pre_at, fd]
theorem set_left : setO (pre ++ fd cs sp lf dr :: st) (Rf pre.length) (.str "left") (.int v) = some (pre ++ fd cs sp v dr :: st) := by
  unfold setO; simp [keyOf, putD, sizeLine_eq, pre_at, fd]
theorem set_drawn : setO (pre ++ fd cs sp lf dr :: st) (Rf pre.length) (.str "drawn") (.int v) = some (pre ++ fd cs sp lf v :: st) := by
  unfold setO; simp [keyOf, putD, sizeLine_eq, pre_at, fd]
theorem fd_ok {g : Nat → Option Pv.D} (h : IntsD cs) : fzO g (fd cs sp lf dr) = some (fd cs sp lf dr) := by
  have e := fzL_clean (g := g) cs (ints_lay h)
  unfold fd
  show (fzP g _).map MO.dct = _
  simp [fzP, e, fz]
def mixA (c d : Int) : Int := (c % 1000000777 * 5 + 78415 * d + 799) % 2147483171
def mixB (a d : Int) : Int := (a * a + 87919 * d + 895) % 2147483543
def mixC (b : Int) : Int := (b * b + 773 * b) % 2147483353 / 16
theorem q_draw (hcs : IntsD cs) (hl : cs.length ≤ 63) (h0 : 0 < m) (h1 : m < 1073741824) :
    ∃ r sp' lf' dr', F__law_draw [Rf pre.length, .int m] (pre ++ fd cs sp lf dr :: st) = .ok (.int r) (pre ++ fd cs sp' lf' dr' :: st) ∧ 0 ≤ r ∧ r < m := by
  have bd : ∀ x : Int, 0 ≤ x % m ∧ x % m < m := fun x => ⟨Int.emod_nonneg _ (by omega), Int.emod_lt_of_pos _ h0⟩
  have m1 : ∀ x : Int, -18446744073709551616 < x % 2147483171 := fun x => by omega
  have m2 : ∀ x : Int, x % 2147483171 < 18446744073709551616 := fun x => by omega
  have m3 : ∀ x : Int, -18446744073709551616 < x % 2147483543 := fun x => by omega
  have m4 : ∀ x : Int, x % 2147483543 < 18446744073709551616 := fun x => by omega
  have fin : ∀ (d : Pv.D) (sp lf dr : Int), finR (pre.length + (st.length + 1)) (.ok d (pre ++ fd cs sp lf dr :: st)) = .ok d (pre ++ fd cs sp lf dr :: st) := fun d sp lf dr => fin_same (by simp)
  unfold F__law_draw b__law_draw
  simp only [fnP_e]
  by_cases hlf : 0 < lf
  · refine ⟨lf % m, sp, lf / m, dr + 1, ?_, bd _⟩
    simp [startD, fd_drawn, set_drawn, fd_left, dInt, dInt2, hlf, h0, h1, set_left, fin]
  · by_cases hc : cs = []
    · subst hc
      refine ⟨mixC (mixB (mixA 399425 (dr + 1)) (dr + 1)) % m, sp + 1, lf, dr + 1, ?_, bd _⟩
      simp [startD, fd_drawn, set_drawn, fd_left, dInt, dInt2, hlf, h0, h1, fd_spot, fd_cells, set2, set_spot, mkLst, dMulS, m1, m2, m3, m4, mixA, mixB, mixC, fin]
    · obtain ⟨c, hc2⟩ := at_mod (st := pre ++ fd cs (sp + 1) lf (dr + 1) :: st) (j := sp) hcs hc
      have hp : 0 < cs.length := Nat.pos_of_ne_zero fun z => hc (List.length_eq_zero_iff.mp z)
      have hne : cs.isEmpty = false := by cases cs with | nil => exact absurd rfl hc | cons _ _ => rfl
      have e1 : dCmp .NotEq (.list cs) (.list []) = some (.bool true) := by rw [cmp_ne_nilL (ints_lay hcs), hne]; rfl
      by_cases hb : 1000000000000000000 ≤ c
      · by_cases hs : sp < (cs.length : Int)
        · refine ⟨c % m, sp + 1, c / m, dr + 1, ?_, bd _⟩
          simp [startD, fd_drawn, set_drawn, fd_left, dInt, dInt2, hlf, h0, h1, fd_spot, fd_cells, set2, set_spot, mkLst, e1, dLen, hp, hc2, hb, hs, set_left, fin]
        · refine ⟨mixC (mixB (mixA c (dr + 1)) (dr + 1)) % m, sp + 1, lf, dr + 1, ?_, bd _⟩
          simp [startD, fd_drawn, set_drawn, fd_left, dInt, dInt2, hlf, h0, h1, fd_spot, fd_cells, set2, set_spot, mkLst, e1, dLen, hp, hc2, hb, hs, dMulS, m1, m2, m3, m4, mixA, mixB, mixC, fin]
      · refine ⟨mixC (mixB (mixA c (dr + 1)) (dr + 1)) % m, sp + 1, lf, dr + 1, ?_, bd _⟩
        simp [startD, fd_drawn, set_drawn, fd_left, dInt, dInt2, hlf, h0, h1, fd_spot, fd_cells, set2, set_spot, mkLst, e1, dLen, hp, hc2, hb, dMulS, m1, m2, m3, m4, mixA, mixB, mixC, fin]
theorem q_feed {ns : List Int} (hn : ns.length ≤ 63) (st : Sto) : F__law_feed [Gs (ns.map .int)] st = .ok (Rf st.length) (st ++ [fd (ns.map .int) 0 0 0]) := by
  unfold F__law_feed b__law_feed
  rw [fnK_e]
  have cut : cutD (ns.map PyData.int) none (some 63) = ns.map .int := by
    rw [show (some (63 : Int)) = some (((63 : Nat)) : Int) from rfl, cut_to, List.take_of_length_le (by rw [List.length_map]; exact hn)]
  have lc : mLc (mIter (mSl (mVar 0) (moNone) (moSome (mC (.int 63))))) (.nm 1) (tYesM) (mInt (mVar 1)) [1] [some (Gs (ns.map .int)), none] st = .ok (.list (ns.map .int)) st := by
    have := mLc_all (mi := mIter (mSl (mVar 0) (moNone) (moSome (mC (.int 63))))) (t := .nm 1) (te := mInt (mVar 1)) (vs := [1]) (sl := [some (Gs (ns.map .int)), none]) (st := st) (keep := always) (ds := ns.map .int) id (by simp [fSl, cut]) trivial (by rw [List.length_map]; exact sz_le (by omega)) fun d hd => by
      obtain ⟨i, _, rfl⟩ := List.mem_map.mp hd
      exact ⟨_, rfl, by simp [wipeD, dInt]⟩
    rw [this, List.map_id]
  simp [startD, mDct, pairsM, keyOf, mergeD, putD, fd, lc]
theorem ints_ns (ns : List Int) : IntsD (ns.map PyData.int) := fun c hc => by
  obtain ⟨i, _, e⟩ := List.mem_map.mp hc
  exact ⟨i, e.symm⟩
theorem q_any {xs : List Pv.D} (hcs : IntsD cs) (hl : cs.length ≤ 63) (hne : xs ≠ []) (hx : xs.length ≤ 1000000) :
    ∃ x sp' lf' dr', F__law_any [Rf pre.length, .list xs] (pre ++ fd cs sp lf dr :: st) = .ok x (pre ++ fd cs sp' lf' dr' :: st) ∧ x ∈ xs := by
  have hp : 0 < xs.length := Nat.pos_of_ne_zero fun z => hne (List.length_eq_zero_iff.mp z)
  obtain ⟨r, sp', lf', dr', e, h0, h1⟩ := q_draw (pre := pre) (sp := sp) (lf := lf) (dr := dr) (st := st) (m := (xs.length : Int)) hcs hl (by omega) (by omega)
  obtain ⟨j, hj⟩ : ∃ j : Nat, r = (j : Int) := ⟨_, (Int.toNat_of_nonneg h0).symm⟩
  subst hj
  have hlt : j < xs.length := by omega
  have fin : ∀ (d : Pv.D) (sp lf dr : Int), finR (pre.length + (st.length + 1)) (.ok d (pre ++ fd cs sp lf dr :: st)) = .ok d (pre ++ fd cs sp lf dr :: st) := fun d sp lf dr => fin_same (by simp)
  refine ⟨xs[j], sp', lf', dr', ?_, List.getElem_mem hlt⟩
  unfold F__law_any b__law_any
  rw [fnP_e]
  simp [startD, e, ix_l (List.getElem?_eq_getElem hlt), fin]
end
end Gstampahead_k76_events_written
set_option Elab.async false
set_option linter.all false
set_option maxRecDepth 100000
set_option maxHeartbeats 1000000
set_option pp.maxSteps 1500
namespace Gstampahead_k76_events_written
open PySem PySem.Spec Pv
open L2 hiding keyOf
open PyProof.Rows hiding St signs cutD pairD
section
theorem szB {n : Nat} (h : n ≤ 100000) : n ≤ sizeLine := Nat.le_trans h (by decide)
variable {α : Type} {keep : Sto → Prop} [DecidablePred keep] {t : CT} {tt : MT} {te : M} {mi : MI} {vs : List Nat} {sl : Sl} {st : Sto}
theorem mLc_ifB (xs : List α) (g f : α → Pv.D) (p : α → Bool) (hi : mi sl st = .ok ⟨xs.map g, keep⟩ st) (hk : keep st) (hz : xs.length ≤ 100000)
    (h : ∀ x ∈ xs, ∃ sl2, ctSet t (g x) (wipeD sl vs) = some sl2 ∧ tt sl2 st = .ok (p x) st ∧ (p x = true → te sl2 st = .ok (f x) st)) : mLc mi t tt te vs sl st = .ok (.list ((xs.filter p).map f)) st := by
  unfold mLc lcR
  rw [hi]
  simp only [R.bind_ok, lcL_at g f p hk h]
  rw [if_pos]
  · rfl
  · rw [List.length_map]; exact Nat.le_trans (List.length_filter_le _ _) (szB hz)
theorem mLc_atB (xs : List α) (g f : α → Pv.D) (hi : mi sl st = .ok ⟨xs.map g, keep⟩ st) (hk : keep st) (hz : xs.length ≤ 100000)
    (h : ∀ x ∈ xs, ∃ sl2, ctSet t (g x) (wipeD sl vs) = some sl2 ∧ te sl2 st = .ok (f x) st) : mLc mi t tYesM te vs sl st = .ok (.list (xs.map f)) st := by
  have := mLc_ifB (tt := tYesM) xs g f (fun _ => true) hi hk hz fun x hx => let ⟨a, b, c⟩ := h x hx; ⟨a, b, rfl, fun _ => c⟩
  rw [this, List.filter_eq_self.mpr fun _ _ => rfl]
end
section
variable {st : Sto}
open PySem.NumText in
def isDig (c : Nat) : Bool := decide (c ∈ (Str.ofString "0123456789").cps.toList)
theorem isDig_iff (c : Nat) : isDig c = true ↔ 48 ≤ c ∧ c ≤ 57 := by
  have e : (Str.ofString "0123456789").cps.toList = [48, 49, 50, 51, 52, 53, 54, 55, 56, 57] := by decide +kernel
  unfold isDig
  rw [e, decide_eq_true_eq]
  simp only [List.mem_cons, List.not_mem_nil, or_false]
  omega
theorem in_dig (c : Nat) : dCmp .In (.str ⟨#[c]⟩) (.str "0123456789") = some (.bool (isDig c)) := by
  show some (PyData.bool (strIn ⟨#[c]⟩ "0123456789")) = _
  unfold strIn isDig
  rw [PySem.StrLaws.found_one]
theorem notin_dig (c : Nat) : dCmp .NotIn (.str ⟨#[c]⟩) (.str "0123456789") = some (.bool (!isDig c)) := by
  show some (PyData.bool (!strIn ⟨#[c]⟩ "0123456789")) = _
  unfold strIn isDig
  rw [PySem.StrLaws.found_one]
def allDig (z : Str) : Bool := z.cps.toList.all isDig
def valT (z : Str) : Nat := PySem.NumText.digitsVal z.cps.toList
theorem len_cps (z : Str) : z.cps.toList.length = z.length := by simp [Str.length]
theorem int_dig {z : Str} (h : allDig z = true) (h1 : 1 ≤ z.length) (h2 : z.length ≤ 60) : dInt (.str z) = some (.int (valT z : Int)) := by
  show (if z.length ≤ 640 then (PySem.intText? z).map PyData.int else none) = _
  rw [if_pos (by omega), PySem.intText_digits (fun c hc => (isDig_iff c).mp (List.all_eq_true.mp h c hc)) (fun e => by have := len_cps z; rw [e] at this; simp at this; omega) (by omega)]
  rfl
/-- the number that a word writes -/
def numT (z : Str) : Option Nat := if 1 ≤ z.length ∧ z.length ≤ 60 ∧ allDig z = true then (if z.cps.toList.head? = some 48 ∧ ¬ (z == Str.ofString "0") = true then none else some (valT z)) else none
theorem head_eq {z : Str} {c : Nat} (h : z.cps.toList.head? = some c) (x : Nat) : ((⟨#[c]⟩ : Str) == ⟨#[x]⟩) = decide (z.cps.toList.head? = some x) := by
  rw [h]
  have : ((⟨#[c]⟩ : Str) == ⟨#[x]⟩) = decide ((⟨#[c]⟩ : Str) = ⟨#[x]⟩) := by
    rw [Bool.eq_iff_iff]; simp
  rw [this]
  congr 1
  simp
theorem ix_s0 {z : Str} {c : Nat} (hl : z.length ≤ 100000) (h : z.cps.toList.head? = some c) (st : Sto) : fIx (.str z) (.int 0) st = .ok (.str ⟨#[c]⟩) st := by
  have e : dIx (.str z) (.int 0) = some (.str ⟨#[c]⟩) := by
    show (if z.length ≤ sizeLine then (atI z.cps.toList 0).map fun c => PyData.str ⟨#[c]⟩ else none) = _
    rw [if_pos (szB hl)]
    cases hz : z.cps.toList with
    | nil => rw [hz] at h; cases h
    | cons a l =>
      rw [hz] at h
      cases h
      unfold atI ixN
      simp
  unfold fIx dlook
  simp [e]
theorem head_some {z : Str} (h : 1 ≤ z.length) : ∃ c, z.cps.toList.head? = some c := by
  have := len_cps z
  cases hz : z.cps.toList with
  | nil => rw [hz] at this; simp at this; omega
  | cons a l => exact ⟨a, rfl⟩
theorem lc_signs (z : Str) (hl : z.length ≤ 100000) (s1 : Option Pv.D) (st : Sto) : mLc (mIter (mVar 0)) (.nm 1) (tYesM) (mCmp .In (mVar 1) (mC (.str "0123456789"))) [1] [some (.str z), s1] st = .ok (.list (z.cps.toList.map fun c => .bool (isDig c))) st := by
  refine mLc_atB (keep := always) z.cps.toList (fun c => .str ⟨#[c]⟩) _ (by simp; rfl) trivial (by rw [len_cps]; exact hl) fun c _ => ⟨_, rfl, ?_⟩
  have e := in_dig c
  simp -implicitDefEqProofs [wipeD, e]
theorem chain_len {n : Nat} : ∀ (a : M) (sl : Sl) (st : Sto), a sl st = .ok (.int (n : Int)) st → mTb (mChain .LtE .LtE (mC (.int 1)) a (mC (.int 60))) sl st = .ok (decide (1 ≤ n) && decide (n ≤ 60)) st := by
  intro a sl st h
  by_cases h1 : 1 ≤ n
  · have h1' : (1 : Int) ≤ (n : Int) := by omega
    by_cases h2 : n ≤ 60
    · have h2' : (n : Int) ≤ 60 := by omega
      simp -implicitDefEqProofs [h, h1', h2', h1, h2]
    · have h2' : ¬ (n : Int) ≤ 60 := by omega
      simp -implicitDefEqProofs [h, h1', h2', h1, h2]
  · have h1' : ¬ (1 : Int) ≤ (n : Int) := by omega
    simp -implicitDefEqProofs [h, h1', h1]
theorem cmp_s (a b : Str) : dCmp .Eq (.str a) (.str b) = some (.bool (a == b)) := rfl
theorem cmp_sn (a b : Str) : dCmp .NotEq (.str a) (.str b) = some (.bool (!(a == b))) := rfl
def optI : Option Nat → Pv.D
  | none => .none
  | some n => .int (n : Int)
theorem q_number_of {z : Str} (hl : z.length ≤ 100000) : F_number_of [.str z] st = .ok (optI (numT z)) st := by
  have hs : z.length ≤ sizeLine := szB hl
  have ln : ∀ st, mLen (mVar 0) [some (.str z), none] st = .ok (.int (z.length : Int)) st := fun st => by simp [len_s hs]
  have lc := lc_signs z hl none st
  have ch := chain_len (mLen (mVar 0)) [some (.str z), none] st (ln st)
  unfold F_number_of b_number_of
  rw [fnP_e]
  unfold numT
  by_cases h1 : 1 ≤ z.length ∧ z.length ≤ 60
  · rw [show (decide (1 ≤ z.length) && decide (z.length ≤ 60)) = true by simp [h1]] at ch
    cases hd : allDig z with
    | false =>
      have al : dAll (.list (z.cps.toList.map fun c => PyData.bool (isDig c))) = some (.bool false) := by rw [all_map]; exact congrArg (fun b => some (PyData.bool b)) hd
      simp -implicitDefEqProofs [-e_tb, startD, ch, lc, al, h1, optI]
    | true =>
      have al : dAll (.list (z.cps.toList.map fun c => PyData.bool (isDig c))) = some (.bool true) := by rw [all_map]; exact congrArg (fun b => some (PyData.bool b)) hd
      obtain ⟨c, hc⟩ := head_some h1.1
      have i0 := fun st => ix_s0 hl hc st
      have e0 : dCmp .Eq (.str ⟨#[c]⟩) (.str "0") = some (.bool (decide (z.cps.toList.head? = some 48))) := by
        rw [cmp_s]; exact congrArg (fun b => some (PyData.bool b)) (head_eq hc 48)
      have e1 := cmp_sn z "0"
      have iv := int_dig hd h1.1 h1.2
      by_cases g1 : z.cps.toList.head? = some 48
      · cases g2 : z == Str.ofString "0" with
        | false => simp -implicitDefEqProofs [-e_tb, startD, ch, lc, al, h1, i0, e0, e1, g1, g2, optI]; simp -implicitDefEqProofs [i0, e0, e1, g1, g2]
        | true => simp -implicitDefEqProofs [-e_tb, startD, ch, lc, al, h1, i0, e0, e1, g1, g2, optI]; simp -implicitDefEqProofs [i0, e0, e1, g1, g2, iv]
      · simp -implicitDefEqProofs [-e_tb, startD, ch, lc, al, h1, i0, e0, e1, g1, optI]; simp -implicitDefEqProofs [i0, e0, e1, g1, iv]
  · have : (decide (1 ≤ z.length) && decide (z.length ≤ 60)) = false := by
      rw [Bool.and_eq_false_iff, decide_eq_false_iff_not, decide_eq_false_iff_not]
      omega
    rw [this] at ch
    have hn : ¬ (1 ≤ z.length ∧ z.length ≤ 60 ∧ allDig z = true) := fun h => h1 ⟨h.1, h.2.1⟩
    rw [if_neg hn]
    simp -implicitDefEqProofs [-e_tb, startD, ch, optI]
end
section
theorem spl_le (S : List Nat) : ∀ (k : Nat) (acc L : List Nat), ∀ p ∈ TL.spl S k acc L, p.length ≤ acc.length + L.length
  | k, acc, [], p, hp => by
    rw [TL.spl_nil] at hp
    rw [List.mem_singleton.mp hp]; omega
  | 0, acc, c :: r, p, hp => by
    unfold TL.spl at hp
    split at hp
    · rcases List.mem_cons.mp hp with q | q
      · rw [q]; omega
      · have := spl_le S _ [] r p q
        simp at this ⊢; omega
    · have := spl_le S 0 (acc ++ [c]) r p hp
      simp at this ⊢; omega
  | k + 1, acc, _ :: r, p, hp => by
    unfold TL.spl at hp
    have := spl_le S k acc r p hp
    simp at this ⊢; omega
theorem spl_cnt (S : List Nat) : ∀ (k : Nat) (acc L : List Nat), (TL.spl S k acc L).length ≤ L.length + 1
  | k, acc, [] => by rw [TL.spl_nil]; simp
  | 0, acc, c :: r => by
    unfold TL.spl
    split
    · have := spl_cnt S (S.length - 1) [] r
      simp; omega
    · have := spl_cnt S 0 (acc ++ [c]) r
      simp; omega
  | k + 1, acc, _ :: r => by
    unfold TL.spl
    have := spl_cnt S k acc r
    simp; omega
theorem split_small (z y : Str) (hy : TL.tl y ≠ []) (hk : y.cps.all (· < 256) = true) : (∀ p ∈ Txt.split z y, p.length ≤ z.length) ∧ (Txt.split z y).length ≤ z.length + 1 := by
  have e := TL.split_spl z y hy (TL.kind_ok hk)
  have lz : (TL.tl z).length = z.length := (TL.len_tl z).symm
  constructor
  · intro p hp
    have : TL.tl p ∈ (Txt.split z y).map TL.tl := List.mem_map.mpr ⟨p, hp, rfl⟩
    rw [e] at this
    have := spl_le _ 0 [] _ _ this
    rw [TL.len_tl p]
    simp only [List.length_nil, Nat.zero_add] at this
    omega
  · have h := spl_cnt (TL.tl y) 0 [] (TL.tl z)
    rw [← e, List.length_map] at h
    omega
end
end Gstampahead_k76_events_written
set_option Elab.async false
set_option linter.all false
set_option maxRecDepth 100000
set_option maxHeartbeats 1000000
set_option pp.maxSteps 1500
namespace Gstampahead_k76_events_written
open PySem PySem.Spec Pv
open L2 hiding keyOf
open PyProof.Rows hiding St signs cutD pairD
def sgn (d : Pv.D) : Bool := match d with | .str a => strIn a "abcdefghijklmnopqrstuvwxyz" | _ => false
def isInt : Pv.D → Bool | .int _ => true | _ => false
def isNum : Pv.D → Bool | .int i => decide (0 ≤ i) | _ => false
def isName : Pv.D → Bool | .str z => decide (1 ≤ z.length) && (decide (z.length ≤ 8) && (Pv.signs z).all sgn) | _ => false
section
variable {st : Sto} {x : Pv.D}
theorem q_int (h : Cl x) : F_is_integer [x] st = .ok (.bool (isInt x)) st := by
  unfold F_is_integer b_is_integer
  rw [fnP_e]
  cases x with
  | dict k => exact h.nodict.elim
  | _ => simp [startD, Ty.sub, isInt]
theorem q_num (h : Cl x) : F_is_number [x] st = .ok (.bool (isNum x)) st := by
  unfold F_is_number b_is_number
  rw [fnP_e]
  cases x with
  | dict k => exact h.nodict.elim
  | _ => simp [startD, isInt, isNum, q_int h]
theorem signs_len (z : Str) : (Pv.signs z).length = z.length := by unfold Pv.signs; simp [Str.length]
theorem q_name (h : Cl x) : F_is_name [x] st = .ok (.bool (isName x)) st := by
  unfold F_is_name b_is_name
  rw [fnP_e]
  cases x with
  | dict k => exact h.nodict.elim
  | str z =>
    have hl := h.str_len
    have e : mLc (mIter (mVar 0)) (.nm 1) tYesM (mCmp .In (mVar 1) (mC (.str "abcdefghijklmnopqrstuvwxyz"))) [1] [some (.str z), none] st = .ok (.list ((Pv.signs z).map fun d => .bool (sgn d))) st := by
      refine mLc_all (keep := always) (ds := signs z) (fun d => .bool (sgn d)) (by simp) trivial (by rw [signs_len]; exact hl) fun d hd => ?_
      unfold Pv.signs at hd
      obtain ⟨c, hc, e⟩ := List.mem_map.mp hd
      subst e
      exact ⟨_, rfl, by simp [wipeD, dCmp, dIn, obD, sgn]⟩
    by_cases h1 : 1 ≤ z.length
    · by_cases h2 : z.length ≤ 8
      · have h1' : (1 : Int) ≤ (z.length : Int) := by omega
        have h2' : (z.length : Int) ≤ 8 := by omega
        simp [startD, Ty.sub, len_s hl, h1', h2', e, all_map, isName, h1, h2]
      · have h1' : (1 : Int) ≤ (z.length : Int) := by omega
        have h2' : ¬ (z.length : Int) ≤ 8 := by omega
        simp [startD, Ty.sub, len_s hl, h1', h2', isName, h1, h2]
    · have h1' : ¬ (1 : Int) ≤ (z.length : Int) := by omega
      simp [startD, Ty.sub, len_s hl, h1', isName, h1]
  | _ => simp [startD, Ty.sub, isName]
end
end Gstampahead_k76_events_written
set_option Elab.async false
set_option linter.all false
set_option maxRecDepth 100000
set_option maxHeartbeats 1000000
set_option pp.maxSteps 1500
namespace Gstampahead_k76_events_written
open PySem PySem.Spec Pv
open L2 hiding keyOf
open PyProof.Rows hiding St signs cutD pairD
section
variable {st : Sto}
theorem notin_abc (c : Nat) : dCmp .NotIn (.str ⟨#[c]⟩) (.str "abcdefghijklmnopqrstuvwxyz") = some (.bool (!sgn (.str ⟨#[c]⟩))) := rfl
end
end Gstampahead_k76_events_written
set_option Elab.async false
set_option linter.all false
set_option maxRecDepth 100000
set_option maxHeartbeats 1000000
set_option pp.maxSteps 1500
namespace Gstampahead_k76_events_written
open PySem PySem.Spec Pv
open L2 hiding keyOf
open PyProof.Rows hiding St signs cutD pairD
section
variable {st : Sto}
def valK (k z : Str) : Pv.D := if (k == Str.ofString "name" || k == Str.ofString "rule") = true then .str z else if (z == Str.ofString "-") = true then .none else optI (numT z)
/-- words that may be read -/
structure WsOk (ws : List Str) : Prop where
  len : ws.length ≤ 100000
  ok : ∀ z ∈ ws, Cl (.str z) ∧ z.length ≤ 100000
theorem WsOk.at (h : WsOk ws) {i : Nat} (hi : i < ws.length) : Cl (.str (ws.getD i "")) ∧ (ws.getD i "").length ≤ 100000 := h.ok _ (by
  rw [List.getD_eq_getElem?_getD, List.getElem?_eq_getElem hi]; exact List.getElem_mem _)
theorem ws_ix {ws : List Str} {i : Nat} (hi : i < ws.length) (s : Sto) : fIx (.list (ws.map .str)) (.int (i : Int)) s = .ok (.str (ws.getD i "")) s := ix_l (by
  rw [List.getElem?_map, List.getElem?_eq_getElem hi, List.getD_eq_getElem?_getD, List.getElem?_eq_getElem hi]; rfl)
theorem ws_len (ws : List Str) (s : Sto) : dLen (deref s (.list (ws.map .str))) = some (.int (ws.length : Int)) := by
  show some (PyData.int ((ws.map PyData.str).length : Int)) = _
  rw [List.length_map]
def badX (line : Int) (j : Nat) : XV := ("InvalidText", [("field", .int (j : Int)), ("line", .int line)])
end
end Gstampahead_k76_events_written
set_option Elab.async false
set_option linter.all false
set_option maxRecDepth 100000
set_option maxHeartbeats 1000000
set_option pp.maxSteps 1500
namespace Gstampahead_k76_events_written
open PySem PySem.Spec Pv
open L2 hiding keyOf
open PyProof.Rows hiding St signs cutD pairD
section
variable {st : Sto}
def valsT (ws ks : List Str) : List Pv.D := (List.range ks.length).map fun i => valK (ks.getD i "") (ws.getD (i + 1) "")
end
end Gstampahead_k76_events_written
set_option Elab.async false
set_option linter.all false
set_option maxRecDepth 100000
set_option maxHeartbeats 1000000
set_option pp.maxSteps 1500
namespace Gstampahead_k76_events_written
open PySem PySem.Spec Pv
open L2 hiding keyOf
open PyProof.Rows hiding St signs cutD pairD
section
variable {st : Sto}
def ksOf (w : Str) : List Str := if (w == Str.ofString "host") = true then ["name", "number", "number", "rate"] else if (w == Str.ofString "road") = true then ["name", "name", "number"] else ["bound", "rule"]
theorem in_strs {al : List Str} (ha : PyData.canLayAll0 (al.map PyData.str) = true) {z : Str} (hz : (PyData.str z).canLay0 = true) : dCmp .NotIn (.str z) (.list (al.map .str)) = some (.bool (!al.contains z)) := by
  have d0 : (PyData.str z).depth = 0 := rfl
  have e : dIn (.str z) (.list (al.map .str)) = some (al.contains z) := by
    show (if (PyData.canLayAll0 (al.map .str) && (PyData.str z).canLay0 && decide (min (PyData.depthAll (al.map .str)) (PyData.str z).depth ≤ 64)) = true then _ else none) = _
    rw [ha, hz, d0, Nat.min_zero, if_pos (by decide)]
    congr 1
    induction al with
    | nil => rfl
    | cons a al ih =>
      rw [List.map_cons, List.any_cons, List.contains_cons, ih (by
        have : ((PyData.str a).canLay0 && PyData.canLayAll0 (al.map .str)) = true := ha
        rw [Bool.and_eq_true] at this; exact this.2)]
      congr 1
      show (a == z) = (z == a)
      by_cases q : a = z
      · subst q; simp
      · rw [beq_eq_false_iff_ne.mpr q, beq_eq_false_iff_ne.mpr fun w => q w.symm]
  show obD ((dIn (.str z) (.list (al.map .str))).map (!·)) = _
  rw [e]; rfl
end
end Gstampahead_k76_events_written
set_option Elab.async false
set_option linter.all false
set_option maxRecDepth 100000
set_option maxHeartbeats 1000000
set_option pp.maxSteps 1500
namespace Gstampahead_k76_events_written
open PySem PySem.Spec Pv
open L2 hiding keyOf
open PyProof.Rows hiding St signs cutD pairD
section
variable {st : Sto}
theorem spl_ne (S : List Nat) : ∀ (k : Nat) (acc L : List Nat), 1 ≤ (TL.spl S k acc L).length := by
  intro k acc L
  induction L generalizing k acc with
  | nil => rw [TL.spl_nil]; exact Nat.le_refl _
  | cons a L ih =>
    cases k with
    | zero =>
      unfold TL.spl
      split
      · rw [List.length_cons]; omega
      · exact ih _ _
    | succ k => unfold TL.spl; exact ih _ _
theorem spl_sub (S : List Nat) : ∀ (k : Nat) (acc L : List Nat), ∀ q ∈ TL.spl S k acc L, ∀ c ∈ q, c ∈ acc ∨ c ∈ L := by
  intro k acc L
  induction L generalizing k acc with
  | nil => intro q hq c hc; rw [TL.spl_nil] at hq; rw [List.mem_singleton.mp hq] at hc; exact .inl hc
  | cons a L ih =>
    intro q hq c hc
    cases k with
    | zero =>
      unfold TL.spl at hq
      split at hq
      · rcases List.mem_cons.mp hq with r | r
        · rw [r] at hc; exact .inl hc
        · rcases ih _ _ q r c hc with t | t
          · cases t
          · exact .inr (List.mem_cons_of_mem _ t)
      · rcases ih _ _ q hq c hc with t | t
        · rcases List.mem_append.mp t with u | u
          · exact .inl u
          · exact .inr (by rw [List.mem_singleton.mp u]; exact List.mem_cons_self)
        · exact .inr (List.mem_cons_of_mem _ t)
    | succ k =>
      unfold TL.spl at hq
      rcases ih _ _ q hq c hc with t | t
      · exact .inl t
      · exact .inr (List.mem_cons_of_mem _ t)
/-- a text that may be read -/
structure TxOk (z : Str) : Prop where
  lay : (PyData.str z).canLay0 = true
  len : z.length ≤ 90000
theorem lay_iff {z : Str} : (PyData.str z).canLay0 = true ↔ ∀ c ∈ z.cps.toList, c < 0x110000 := by
  simp only [PyData.canLay0, PyData.strOk, Array.all_eq_true', decide_eq_true_eq, Array.mem_toList_iff]
theorem TxOk.cl {z : Str} (h : TxOk z) : Cl (.str z) := (Bd.str (n := 900004) (k := 60) (b := 0) h.lay (by have := h.len; omega)).ok.mono (by decide) (Nat.le_refl _)
theorem split_ok {z y : Str} (h : TxOk z) (hy : TL.tl y ≠ []) (hk : y.cps.all (· < 256) = true) : (∀ p ∈ Txt.split z y, TxOk p) ∧ (Txt.split z y).length ≤ 90001 ∧ 1 ≤ (Txt.split z y).length := by
  obtain ⟨a, b⟩ := split_small z y hy hk
  have es := TL.split_spl z y hy (TL.kind_ok hk)
  have hl := h.len
  refine ⟨fun p hp => ⟨?_, by have := a p hp; omega⟩, by omega, ?_⟩
  · rw [lay_iff]
    intro c hc
    have hm : TL.tl p ∈ (Txt.split z y).map TL.tl := List.mem_map.mpr ⟨p, hp, rfl⟩
    rw [es] at hm
    rcases spl_sub _ _ _ _ _ hm c hc with t | t
    · cases t
    · exact lay_iff.mp h.lay c t
  · rw [← List.length_map (f := TL.tl), es]
    exact spl_ne _ _ _ _
def wsS (l : Str) : List Str := Txt.split l (Str.ofString " ")
def lnS (z : Str) : List Str := Txt.split z (Str.ofString "\n")
theorem ws_ok {l : Str} (h : TxOk l) : WsOk (wsS l) ∧ 1 ≤ (wsS l).length := by
  obtain ⟨a, b, c⟩ := split_ok h (y := Str.ofString " ") (by decide +kernel) (by decide +kernel)
  exact ⟨⟨by show (Txt.split _ _).length ≤ _; omega, fun z hz => ⟨(a z hz).cl, by have := (a z hz).len; omega⟩⟩, c⟩
theorem q_split {z : Str} (h : TxOk z) (st : Sto) : fSplit z (.str " ") st = .ok (.list ((wsS z).map .str)) st ∧ fSplit z (.str "\n") st = .ok (.list ((lnS z).map .str)) st := by
  have hl := h.len
  have hz : z.length + 2 ≤ sizeLine := szB (n := z.length + 2) (by omega)
  exact ⟨if_pos ⟨by decide +kernel, hz⟩, if_pos ⟨by decide +kernel, hz⟩⟩
/-- how far the reading has come -/
structure RdS where
  before : Str
  hosts : List Pv.D
  roads : List Pv.D
  mosts : List Pv.D
def RdS.add (s : RdS) (w : Str) (d : Pv.D) : RdS := ⟨w, if (w == Str.ofString "host") = true then s.hosts ++ [d] else s.hosts, if (w == Str.ofString "road") = true then s.roads ++ [d] else s.roads, if (w == Str.ofString "most") = true then s.mosts ++ [d] else s.mosts⟩
def headL : List Str := ["host", "road", "most"]
theorem in_strsT {al : List Str} (ha : PyData.canLayAll0 (al.map PyData.str) = true) {z : Str} (hz : (PyData.str z).canLay0 = true) : dCmp .NotIn (.str z) (.tuple (al.map .str)) = some (.bool (!al.contains z)) := in_strs ha hz
end
end Gstampahead_k76_events_written
set_option Elab.async false
set_option linter.all false
set_option maxRecDepth 100000
set_option maxHeartbeats 1000000
set_option pp.maxSteps 1500
namespace Gstampahead_k76_events_written
open PySem PySem.Spec Pv
open L2 hiding keyOf
open PyProof.Rows hiding St signs cutD pairD
section
variable {st : Sto}
theorem seqN {a b : MS} {sl sl' : Sl} {st st' : Sto} {r : RS} (h1 : a sl st = .nx sl' st') (h2 : b sl' st' = r) : sSeq a b sl st = r := by rw [e_seq, h1]; exact h2
theorem asgN {m : M} {i : Nat} {sl sl' : Sl} {st : Sto} {d : Pv.D} (h : m sl st = .ok d st) (e : sl.set i (some d) = sl') : sAsg m (tgName i) sl st = .nx sl' st := by rw [e_asg, h, ← e]; rfl
/-- the lists that grow are not too long -/
def RdS.small (s : RdS) (m : Nat) : Prop := s.hosts.length ≤ m ∧ s.roads.length ≤ m ∧ s.mosts.length ≤ m
theorem RdS.small_add {s : RdS} {m : Nat} (h : s.small m) (w : Str) (d : Pv.D) : (s.add w d).small (m + 1) := by
  obtain ⟨a, b, c⟩ := h
  unfold RdS.add
  refine ⟨?_, ?_, ?_⟩
  all_goals
    simp only
    split
    · rw [List.length_append, List.length_singleton]; omega
    · omega
end
end Gstampahead_k76_events_written
set_option Elab.async false
set_option linter.all false
set_option maxRecDepth 100000
set_option maxHeartbeats 1000000
set_option pp.maxSteps 1500
namespace Gstampahead_k76_events_written
open PySem PySem.Spec Pv
open L2 hiding keyOf
open PyProof.Rows hiding St signs cutD pairD
section
variable {st : Sto}
/-- what the reading keeps -/
structure RdOk (s : RdS) (m : Nat) : Prop where
  bf : s.before ∈ Str.ofString "" :: headL
  sm : s.small m
  lh : PyData.canLayAll0 s.hosts = true
  lr : PyData.canLayAll0 s.roads = true
  lm : ∀ d ∈ s.mosts, ∃ a b, d = .tuple [a, b] ∧ a.canLay0 = true ∧ b.canLay0 = true
  ms : s.before = Str.ofString "most" → s.mosts ≠ []
theorem optI_lay (o : Option Nat) : (optI o).canLay0 = true := by cases o <;> rfl
theorem valK_lay {k z : Str} (h : (PyData.str z).canLay0 = true) : (valK k z).canLay0 = true := by
  unfold valK
  split
  · exact h
  · split
    · rfl
    · exact optI_lay _
theorem vals_lay {ws ks : List Str} (h : WsOk ws) : PyData.canLayAll0 (valsT ws ks) = true := (layAll_iff _).mpr fun d hd => by
  obtain ⟨i, hi, rfl⟩ := List.mem_map.mp hd
  refine valK_lay ?_
  by_cases c : i + 1 < ws.length
  · exact (h.at c).1.lay
  · rw [List.getD_eq_getElem?_getD, List.getElem?_eq_none (by omega)]; kernel_rfl
theorem layAll_snoc {l : List Pv.D} {d : Pv.D} (h : PyData.canLayAll0 l = true) (hd : d.canLay0 = true) : PyData.canLayAll0 (l ++ [d]) = true := (layAll_iff _).mpr fun e he => by
  rcases List.mem_append.mp he with q | q
  · exact (layAll_iff _).mp h e q
  · rw [List.mem_singleton.mp q]; exact hd
theorem ks_most : ksOf (Str.ofString "most") = ([Str.ofString "bound", Str.ofString "rule"] : List Str) := by kernel_rfl
theorem RdOk.step {s : RdS} {m : Nat} (h : RdOk s m) {w : Str} (hw : w ∈ headL) {ws : List Str} (wo : WsOk ws) : RdOk (s.add w (.tuple (valsT ws (ksOf w)))) (m + 1) := by
  have lv : (PyData.tuple (valsT ws (ksOf w))).canLay0 = true := vals_lay wo
  refine ⟨List.mem_cons_of_mem _ hw, RdS.small_add h.sm _ _, ?_, ?_, ?_, ?_⟩
  · unfold RdS.add
    simp only
    split
    · exact layAll_snoc h.lh lv
    · exact h.lh
  · unfold RdS.add
    simp only
    split
    · exact layAll_snoc h.lr lv
    · exact h.lr
  · unfold RdS.add
    simp only
    split
    · rename_i c
      have cw : w = Str.ofString "most" := by simpa using c
      intro d hd
      rcases List.mem_append.mp hd with q | q
      · exact h.lm d q
      · rw [List.mem_singleton.mp q, cw, ks_most]
        have l2 : PyData.canLayAll0 (valsT ws [Str.ofString "bound", Str.ofString "rule"]) = true := vals_lay wo
        refine ⟨_, _, rfl, ?_, ?_⟩
        · exact (layAll_iff _).mp l2 _ List.mem_cons_self
        · exact (layAll_iff _).mp l2 _ (List.mem_cons_of_mem _ List.mem_cons_self)
    · exact h.lm
  · intro e
    have e : w = Str.ofString "most" := e
    unfold RdS.add
    simp only
    rw [if_pos (by rw [e]; exact beq_self_eq_true _)]
    simp
end
end Gstampahead_k76_events_written
set_option Elab.async false
set_option linter.all false
set_option maxRecDepth 100000
set_option maxHeartbeats 1000000
set_option pp.maxSteps 1500
namespace Gstampahead_k76_events_written
open PySem PySem.Spec Pv
open L2 hiding keyOf
open PyProof.Rows hiding St signs cutD pairD
section
variable {st : Sto}
theorem num_int {z : Str} {n : Nat} (h : numT z = some n) : dInt (.str z) = some (.int (n : Int)) := by
  unfold numT at h
  split at h
  · rename_i c
    split at h
    · cases h
    · cases h
      exact int_dig c.2.2 c.1 c.2.1
  · cases h
end
end Gstampahead_k76_events_written
set_option Elab.async false
set_option linter.all false
set_option maxRecDepth 100000
set_option maxHeartbeats 1000000
set_option pp.maxSteps 1500
set_option Elab.async false
set_option linter.all false
set_option maxRecDepth 100000
set_option maxHeartbeats 1000000
set_option pp.maxSteps 1500
set_option Elab.async false
set_option linter.all false
set_option maxRecDepth 100000
set_option maxHeartbeats 1000000
set_option pp.maxSteps 1500
namespace Gstampahead_k76_events_written
open PySem PySem.Spec Pv
open L2 hiding keyOf
open PyProof.Rows hiding St signs cutD pairD
section
variable {st : Sto}
theorem val_lt : ∀ (cs : List Nat) (acc : Nat), (∀ c ∈ cs, 48 ≤ c ∧ c ≤ 57) → cs.foldl (fun acc c => acc * 10 + (c - 48)) acc < (acc + 1) * 10 ^ cs.length
  | [], acc, _ => by simp
  | c :: cs, acc, h => by
    have hc := h c List.mem_cons_self
    have := val_lt cs (acc * 10 + (c - 48)) fun d hd => h d (List.mem_cons_of_mem _ hd)
    rw [List.foldl_cons, List.length_cons, Nat.pow_succ]
    refine Nat.lt_of_lt_of_le this ?_
    rw [Nat.mul_comm (10 ^ cs.length) 10, ← Nat.mul_assoc]
    exact Nat.mul_le_mul_right _ (by omega)
theorem numT_lt {z : Str} {n : Nat} (h : numT z = some n) : n < 10 ^ 60 := by
  unfold numT at h
  split at h
  · rename_i hc
    split at h
    · cases h
    · cases h
      have := val_lt z.cps.toList 0 fun c hx => (isDig_iff c).mp (List.all_eq_true.mp hc.2.2 c hx)
      rw [len_cps] at this
      have this : valT z < 10 ^ z.length := by simpa [valT, PySem.NumText.digitsVal] using this
      exact Nat.lt_of_lt_of_le this (Nat.pow_le_pow_right (by decide) hc.2.1)
  · cases h
theorem bd_strL {z : Str} (h : (PyData.str z).canLay0 = true) (hl : z.length ≤ 8) : Ok (.str z) 84 0 := (Bd.str (n := 84) (k := 0) (b := 0) h (by omega)).ok
theorem int60 {n : Nat} (h : n < 10 ^ 60) : Ok (.int (n : Int)) 84 0 := (Bd.int (b := 10 ^ 60) (k := 0) (by omega) (by decide)).ok.mono (by decide) (Nat.le_refl _)
theorem Ok.tup2 {a b : Pv.D} {w x k : Nat} (ha : Ok a w k) (hb : Ok b x k) : Ok (.tuple [a, b]) (w + x + 12) (k + 1) := by
  refine ⟨(layAll_iff _).mpr fun e he => ?_, ?_, ?_⟩
  · simp only [List.mem_cons, List.not_mem_nil, or_false] at he
    rcases he with rfl | rfl
    · exact ha.lay
    · exact hb.lay
  · have := ha.wt; have := hb.wt
    show wt a + 4 + (wt b + 4 + 0) + 4 ≤ _
    omega
  · show PyData.depthAll [a, b] + 1 ≤ k + 1
    have := (depthAll_le [a, b] k).mpr fun e he => by
      simp only [List.mem_cons, List.not_mem_nil, or_false] at he
      rcases he with rfl | rfl
      · exact ha.dp
      · exact hb.dp
    omega
end
end Gstampahead_k76_events_written
set_option Elab.async false
set_option linter.all false
set_option maxRecDepth 100000
set_option maxHeartbeats 1000000
set_option pp.maxSteps 1500
namespace Gstampahead_k76_events_written
open PySem PySem.Spec Pv
open L2 hiding keyOf
open PyProof.Rows hiding St signs cutD pairD
section
variable {cs : List Pv.D} {sp lf dr : Int} {pre : Sto}
theorem cutL_to {ds : List Pv.D} {j : Nat} {st : Sto} : fSl none (some (j : Int)) (.list ds) st = .ok (.list (ds.take j)) st := by
  show R.ok (PyData.list (Pv.cutD ds none (some (j : Int)))) st = _
  rw [cut_to]
theorem cutL_from {ds : List Pv.D} {j : Nat} {st : Sto} : fSl (some (j : Int)) none (.list ds) st = .ok (.list (ds.drop j)) st := by
  show R.ok (PyData.list (Pv.cutD ds (some (j : Int)) none)) st = _
  rw [cut_from]
end
end Gstampahead_k76_events_written
set_option Elab.async false
set_option linter.all false
set_option maxRecDepth 100000
set_option maxHeartbeats 1000000
set_option pp.maxSteps 1500
namespace Gstampahead_k76_events_written
open PySem PySem.Spec Pv
open L2 hiding keyOf
open PyProof.Rows hiding St signs cutD pairD
section
variable {cs : List Pv.D} {pre st : Sto}
structure SOk (L : Nat) (z : Str) : Prop where
  lay : (PyData.str z).canLay0 = true
  len : z.length ≤ L
theorem SOk.mono {L M : Nat} {z : Str} (h : SOk L z) (hl : L ≤ M) : SOk M z := ⟨h.lay, Nat.le_trans h.len hl⟩
theorem SOk.tx {L : Nat} {z : Str} (h : SOk L z) (hl : L ≤ 90000) : TxOk z := ⟨h.lay, Nat.le_trans h.len hl⟩
theorem lay_cat2 {a b : Str} (ha : (PyData.str a).canLay0 = true) (hb : (PyData.str b).canLay0 = true) : (PyData.str (a ++ b)).canLay0 = true := by
  rw [lay_iff] at *
  intro c hc
  have hc : c ∈ (a.cps ++ b.cps).toList := hc
  rw [Array.toList_append, List.mem_append] at hc
  exact hc.elim (ha c) (hb c)
theorem len_cat (a b : Str) : (a ++ b).length = a.length + b.length := PySem.Str.length_append a b
theorem SOk.cat {L M : Nat} {a b : Str} (ha : SOk L a) (hb : SOk M b) : SOk (L + M) (a ++ b) := ⟨lay_cat2 ha.lay hb.lay, by rw [len_cat]; have := ha.len; have := hb.len; omega⟩
theorem lay_ofS (s : String) : (PyData.str (Str.ofString s)).canLay0 = true := by
  rw [lay_iff, Str.ofString_eq_toList]
  intro c hc
  have hc : c ∈ s.toList.map Char.toNat := by simpa using hc
  obtain ⟨a, _, rfl⟩ := List.mem_map.mp hc
  have hv : a.toNat.isValidChar := a.valid
  unfold Nat.isValidChar at hv
  omega
theorem lay_join {sep : Str} (hs : (PyData.str sep).canLay0 = true) : ∀ {ts : List Str}, (∀ t ∈ ts, (PyData.str t).canLay0 = true) → (PyData.str (Txt.join sep ts)).canLay0 = true := by
  intro ts h
  rw [TL.join_eq]
  induction ts with
  | nil => exact lay_ofS ""
  | cons x r ih =>
    cases r with
    | nil => exact h x List.mem_cons_self
    | cons y r => exact lay_cat2 (lay_cat2 (h x List.mem_cons_self) hs) (ih fun t ht => h t (List.mem_cons_of_mem _ ht))
/-- how long the texts are, each with what divides them -/
def lenJ (ls : List Str) : Nat := (ls.map fun p => p.length + 1).sum
theorem lenJ_nil : lenJ [] = 0 := rfl
theorem lenJ_cons (l : Str) (ls : List Str) : lenJ (l :: ls) = l.length + 1 + lenJ ls := by unfold lenJ; rw [List.map_cons, List.sum_cons]
theorem lenJ_app (a b : List Str) : lenJ (a ++ b) = lenJ a + lenJ b := by unfold lenJ; rw [List.map_append, List.sum_append]
theorem lenJ_cut (ls : List Str) (n : Nat) : lenJ (ls.take n) + lenJ (ls.drop n) = lenJ ls := by rw [← lenJ_app, List.take_append_drop]
theorem lenJ_rev (ls : List Str) : lenJ ls.reverse = lenJ ls := by
  induction ls with
  | nil => rfl
  | cons a r ih => rw [List.reverse_cons, lenJ_app, ih, lenJ_cons, lenJ_cons, lenJ_nil]; omega
theorem lenJ_at {ls : List Str} {n : Nat} {l : Str} (h : ls[n]? = some l) : lenJ (ls.take n) + (l.length + 1) + lenJ (ls.drop (n + 1)) = lenJ ls := by
  have e : ls.drop n = l :: ls.drop (n + 1) := by
    obtain ⟨hn, rfl⟩ := List.getElem?_eq_some_iff.mp h
    exact List.drop_eq_getElem_cons hn
  have := lenJ_cut ls n
  rw [e, lenJ_cons] at this
  omega
theorem lenJ_len (ls : List Str) : ls.length ≤ lenJ ls := by
  induction ls with
  | nil => exact Nat.le_refl _
  | cons a r ih => rw [lenJ_cons, List.length_cons]; omega
theorem join_J {sep : Str} (h : sep.length = 1) (ls : List Str) : (Txt.join sep ls).length ≤ lenJ ls ∧ (ls.map (·.length)).sum + ls.length * sep.length = lenJ ls := by
  have e : (ls.map (·.length)).sum + ls.length * sep.length = lenJ ls := by
    rw [h]
    induction ls with
    | nil => rfl
    | cons a r ih => rw [lenJ_cons, List.map_cons, List.sum_cons, List.length_cons]; omega
  exact ⟨by rw [TL.join_eq, ← e]; exact StrLaws.join_length_le sep ls, e⟩
theorem spl_J {s : Nat} : ∀ (L acc : List Nat), ((TL.spl [s] 0 acc L).map fun p => p.length + 1).sum = acc.length + L.length + 1
  | [], acc => by rw [TL.spl_nil]; simp
  | c :: r, acc => by
    unfold TL.spl
    split
    · rw [List.map_cons, List.sum_cons, show [s].length - 1 = 0 from rfl, spl_J r []]
      simp; omega
    · rw [spl_J r]
      simp; omega
theorem split_J {z y : Str} {s : Nat} (hy : TL.tl y = [s]) (hk : y.cps.all (· < 256) = true) : lenJ (Txt.split z y) = z.length + 1 := by
  have e := TL.split_spl z y (by rw [hy]; simp) (TL.kind_ok hk)
  rw [hy] at e
  have h := spl_J (s := s) (TL.tl z) []
  rw [← e, List.map_map] at h
  have f : ((fun p : List Nat => p.length + 1) ∘ TL.tl) = fun p : Str => p.length + 1 := by funext p; simp [TL.len_tl]
  rw [f] at h
  unfold lenJ
  rw [h, TL.len_tl z]; simp
theorem ws_J (z : Str) : lenJ (wsS z) = z.length + 1 := split_J (s := 32) (by decide +kernel) (by decide +kernel)
/-- texts that may be joined -/
structure LsOk (L : Nat) (ls : List Str) : Prop where
  lay : ∀ l ∈ ls, (PyData.str l).canLay0 = true
  len : lenJ ls ≤ L
theorem LsOk.app {L M : Nat} {a b : List Str} (ha : LsOk L a) (hb : LsOk M b) : LsOk (L + M) (a ++ b) := ⟨fun l hl => (List.mem_append.mp hl).elim (ha.lay l) (hb.lay l), by rw [lenJ_app]; have := ha.len; have := hb.len; omega⟩
theorem LsOk.mono {L M : Nat} {a : List Str} (h : LsOk L a) (hl : L ≤ M) : LsOk M a := ⟨h.lay, Nat.le_trans h.len hl⟩
theorem LsOk.join {L : Nat} {ls : List Str} (h : LsOk L ls) {sep : Str} (hs : sep.length = 1) (hl : (PyData.str sep).canLay0 = true) : SOk L (Txt.join sep ls) := ⟨lay_join hl h.lay, Nat.le_trans (join_J hs ls).1 h.len⟩
theorem fJoin_ok {L : Nat} {ls : List Str} (h : LsOk L ls) (hL : L ≤ 100000) {sep : Str} (hs : sep.length = 1) (s : Sto) : fJoin sep (.list (ls.map .str)) s = .ok (.str (Txt.join sep ls)) s := by
  show lift (joinD sep (ls.map .str)) s = _
  unfold joinD
  rw [strsOfD_map]
  simp only
  rw [if_pos]
  · rfl
  · rw [(join_J hs ls).2]; exact Nat.le_trans h.len (Nat.le_trans hL (by decide))
theorem LsOk.small {L : Nat} {ls : List Str} (h : LsOk L ls) : ls.length ≤ L := Nat.le_trans (lenJ_len ls) h.len
theorem LsOk.at {L : Nat} {ls : List Str} (h : LsOk L ls) {n : Nat} {l : Str} (e : ls[n]? = some l) : SOk L l := ⟨h.lay l (List.mem_of_getElem? e), by have := lenJ_at e; have := h.len; omega⟩
theorem LsOk.cut {L : Nat} {ls : List Str} (h : LsOk L ls) (n : Nat) : LsOk (lenJ (ls.take n)) (ls.take n) ∧ LsOk (lenJ (ls.drop n)) (ls.drop n) := ⟨⟨fun l hl => h.lay l (List.mem_of_mem_take hl), Nat.le_refl _⟩, ⟨fun l hl => h.lay l (List.mem_of_mem_drop hl), Nat.le_refl _⟩⟩
theorem LsOk.one {L : Nat} {l : Str} (h : SOk L l) : LsOk (L + 1) [l] := ⟨fun x hx => by rw [List.mem_singleton.mp hx]; exact h.lay, by rw [lenJ_cons, lenJ_nil]; have := h.len; omega⟩
theorem LsOk.laid {L : Nat} {ls : List Str} (h : LsOk L ls) : PyData.canLayAll0 (ls.map PyData.str) = true := (layAll_iff _).mpr fun d hd => by
  obtain ⟨l, hl, rfl⟩ := List.mem_map.mp hd
  exact h.lay l hl
theorem ws_ls {L : Nat} {z : Str} (h : SOk L z) (hL : L ≤ 90000) : LsOk (L + 1) (wsS z) := ⟨fun l hl => (split_ok (h.tx hL) (y := Str.ofString " ") (by decide +kernel) (by decide +kernel)).1 l hl |>.lay, by rw [ws_J]; have := h.len; omega⟩
theorem add_B {a b : List Str} (h : a.length + b.length ≤ 100000) (s : Sto) : fAdd (.list (a.map .str)) (.list (b.map .str)) s = .ok (.list ((a ++ b).map .str)) s := by
  show lift (if (a.map PyData.str).length + (b.map PyData.str).length ≤ sizeLine then some (PyData.list (a.map PyData.str ++ b.map PyData.str)) else none) s = _
  rw [List.length_map, List.length_map, if_pos (szB h), List.map_append]; rfl
theorem add_sB {a b : Str} (h : a.length + b.length ≤ 100000) (s : Sto) : fAdd (.str a) (.str b) s = .ok (.str (a ++ b)) s := by
  show lift (if a.length + b.length ≤ sizeLine then some (PyData.str (a ++ b)) else none) s = _
  rw [if_pos (szB h)]; rfl
theorem slB_to {ls : List Str} {j : Nat} (s : Sto) : fSl none (some (j : Int)) (.list (ls.map .str)) s = .ok (.list ((ls.take j).map .str)) s := by
  rw [List.map_take]; exact cutL_to
theorem slB_from {ls : List Str} {j : Nat} (s : Sto) : fSl (some (j : Int)) none (.list (ls.map .str)) s = .ok (.list ((ls.drop j).map .str)) s := by
  rw [List.map_drop]; exact cutL_from
theorem slB_mid {ls : List Str} {i j : Nat} (h : i ≤ ls.length) (s : Sto) : fSl (some (i : Int)) (some (j : Int)) (.list (ls.map .str)) s = .ok (.list (((ls.drop i).take (j - i)).map .str)) s := by
  show R.ok (PyData.list (Pv.cutD (ls.map .str) (some (i : Int)) (some (j : Int)))) s = _
  rw [cut_mid (by rw [List.length_map]; exact h), ← List.map_drop, ← List.map_take]
theorem sIx_nat2 (n d j : Nat) : HT.sIx n d (some (j : Int)) = min j n := by
  unfold HT.sIx
  simp only
  rw [if_neg (by omega), Int.toNat_natCast]
theorem cutS_len2 (z : Str) (lo hi : Option Int) : (cutS z lo hi).length = min (HT.sIx z.length z.length hi - HT.sIx z.length 0 lo) (z.length - HT.sIx z.length 0 lo) := by
  rw [← len_cps]
  unfold cutS
  simp only [List.length_take, List.length_drop, len_cps]
theorem cut_lay2 {z : Str} (h : (PyData.str z).canLay0 = true) (lo hi : Option Int) : (PyData.str (cutS z lo hi)).canLay0 = true := by
  rw [lay_iff] at *
  intro c hc
  unfold cutS at hc
  have hc : c ∈ List.take _ (List.drop _ z.cps.toList) := hc
  exact h c (List.mem_of_mem_drop (List.mem_of_mem_take hc))
theorem cut_a2 {z : Str} (hz : (PyData.str z).canLay0 = true) (c : Nat) : SOk (min c z.length) (cutS z none (some (c : Int))) := ⟨cut_lay2 hz _ _, by rw [cutS_len2, sIx_nat2]; show min (min c z.length - 0) _ ≤ _; omega⟩
theorem cut_b2 {z : Str} (hz : (PyData.str z).canLay0 = true) (c : Nat) : SOk (z.length - c) (cutS z (some (c : Int)) none) := ⟨cut_lay2 hz _ _, by rw [cutS_len2, sIx_nat2]; show min (z.length - _) _ ≤ _; omega⟩
theorem slB_str {z : Str} (h : z.length ≤ 100000) (lo hi : Option Int) (s : Sto) : fSl lo hi (.str z) s = .ok (.str (cutS z lo hi)) s := by
  show (if z.length ≤ sizeLine then _ else _) = _
  rw [if_pos (szB h)]
end
end Gstampahead_k76_events_written
set_option Elab.async false
set_option linter.all false
set_option maxRecDepth 100000
set_option maxHeartbeats 1000000
set_option pp.maxSteps 1500
namespace Gstampahead_k76_events_written
open PySem PySem.Spec Pv
open L2 hiding keyOf
open PyProof.Rows hiding St signs cutD pairD
section
variable {cs : List Pv.D} {pre st : Sto}
def lsD (ls : List Str) : Pv.D := .list (ls.map .str)
theorem ls_len (ls : List Str) (S : Sto) : dLen (deref S (lsD ls)) = some (.int (ls.length : Int)) := ws_len ls S
theorem ls_add {a b : List Str} (h : a.length + b.length ≤ 100000) (S : Sto) : fAdd (lsD a) (lsD b) S = .ok (lsD (a ++ b)) S := add_B h S
theorem ls_to (ls : List Str) (j : Nat) (S : Sto) : fSl none (some (j : Int)) (lsD ls) S = .ok (lsD (ls.take j)) S := slB_to S
theorem ls_fr (ls : List Str) (j : Nat) (S : Sto) : fSl (some (j : Int)) none (lsD ls) S = .ok (lsD (ls.drop j)) S := slB_from S
theorem ls_fr1 (ls : List Str) (j : Nat) (S : Sto) : fSl (some ((j : Int) + 1)) none (lsD ls) S = .ok (lsD (ls.drop (j + 1))) S := slB_from (j := j + 1) S
theorem ls_join {L : Nat} {ls : List Str} (h : LsOk L ls) (hL : L ≤ 100000) {sep : Str} (hs : sep.length = 1) (S : Sto) : fJoin sep (lsD ls) S = .ok (.str (Txt.join sep ls)) S := fJoin_ok h hL hs S
theorem ls_one (w : Str) (S : Sto) : mkLst [.str w] S = .ok (lsD [w]) S := if_pos (sz_le (show 1 ≤ 1000 by decide))
/-- a list of texts with one thing changed -/
theorem bend_ok {L : Nat} {ls : List Str} (h : LsOk L ls) (n : Nat) : LsOk L (ls.take n ++ ls.drop (n + 1)) ∧ LsOk (2 * L) (ls.take (n + 1) ++ ls.drop n) ∧ LsOk L (ls.take n ++ ((ls.drop n).take 2).reverse ++ ls.drop (n + 2)) ∧ LsOk L (ls.take (n + 1)) ∧
    ∀ w M, SOk M w → LsOk (L + M + 1) (ls.take n ++ [w] ++ ls.drop n) ∧ LsOk (L + M + 1) (ls.take n ++ [w] ++ ls.drop (n + 1)) := by
  have hl := h.len
  have a1 := lenJ_cut ls n
  have a2 := lenJ_cut ls (n + 1)
  have a3 := lenJ_cut (ls.drop n) 2
  have a4 : lenJ (ls.drop (n + 1)) ≤ lenJ (ls.drop n) := by
    have := lenJ_cut (ls.drop n) 1
    rw [List.drop_drop] at this
    omega
  rw [List.drop_drop] at a3
  obtain ⟨p, q⟩ := h.cut n
  obtain ⟨p1, q1⟩ := h.cut (n + 1)
  obtain ⟨p2, q2⟩ := h.cut (n + 2)
  have md : LsOk (lenJ ((ls.drop n).take 2)) ((ls.drop n).take 2).reverse := ⟨fun l hl => q.lay l (List.mem_of_mem_take (List.mem_reverse.mp hl)), by rw [lenJ_rev]; exact Nat.le_refl _⟩
  refine ⟨(p.app q1).mono (by omega), (p1.app q).mono (by omega), ((p.app md).app q2).mono (by omega), p1.mono (by omega), fun w M hw => ⟨((p.app (LsOk.one hw)).app q).mono (by omega), ((p.app (LsOk.one hw)).app q1).mono (by omega)⟩⟩
end
end Gstampahead_k76_events_written
set_option Elab.async false
set_option linter.all false
set_option maxRecDepth 100000
set_option maxHeartbeats 1000000
set_option pp.maxSteps 1500
namespace Gstampahead_k76_events_written
open PySem PySem.Spec Pv
open L2 hiding keyOf
open PyProof.Rows hiding St signs cutD pairD
section
variable {cs : List Pv.D} {pre st : Sto}
def tS (i : Int) : Str := Str.ofString (toString i)
def numB (i : Int) : Prop := 0 ≤ i ∧ i.natAbs < 10 ^ 60
theorem tS_ok {i : Int} (h : numB i) : SOk 60 (tS i) := ⟨lay_ofS _, toString_length_le h.1 (by decide) (by
  have := h.2
  have : (i.natAbs : Int) < ((10 ^ 60 : Nat) : Int) := by exact_mod_cast this
  have e : ((10 ^ 60 : Nat) : Int) = 10 ^ 60 := by decide
  have := h.1
  omega)⟩
theorem nameS {z : Str} (h : nameB z = true) : SOk 8 z := ⟨(name_lay h).1, (name_lay h).2⟩
theorem LsOk.cons {L M : Nat} {l : Str} {ls : List Str} (h : SOk L l) (t : LsOk M ls) : LsOk (L + 1 + M) (l :: ls) := ⟨fun x hx => (List.mem_cons.mp hx).elim (fun e => e ▸ h.lay) (t.lay x), by rw [lenJ_cons]; have := h.len; have := t.len; omega⟩
theorem LsOk.nil : LsOk 0 [] := ⟨fun _ h => (nomatch h), Nat.le_refl _⟩
theorem LsOk.all {M : Nat} : ∀ {ls : List Str}, (∀ l ∈ ls, SOk M l) → LsOk (ls.length * (M + 1)) ls
  | [], _ => by rw [List.length_nil, Nat.zero_mul]; exact LsOk.nil
  | a :: r, h => ((LsOk.cons (h a List.mem_cons_self) (LsOk.all fun l hl => h l (List.mem_cons_of_mem _ hl)))).mono (by rw [List.length_cons, Nat.succ_mul]; omega)
theorem w_blank : (PyData.str " ").canLay0 = true ∧ (Str.ofString " ").length = 1 := ⟨by kernel_rfl, by decide +kernel⟩
end
end Gstampahead_k76_events_written
set_option Elab.async false
set_option linter.all false
set_option maxRecDepth 100000
set_option maxHeartbeats 1000000
set_option pp.maxSteps 1500
namespace Gstampahead_k76_events_written
open PySem PySem.Spec Pv
open L2 hiding keyOf
open PyProof.Rows hiding St signs cutD pairD
section
variable {st : Sto}
theorem ext_last10 {ds es : List Pv.D} (h : ds.length + es.length ≤ 1000) : fExt (Rf st.length) (.list es) (st ++ [.lst ds]) = .ok .none (st ++ [.lst (ds ++ es)]) := by
  unfold fExt
  simp [Rf, deref, sz_le h]
end
section
variable {sl : Sl} {st : Sto}
theorem tl_inj {a b : Str} (h : TL.tl a = TL.tl b) : a = b := by
  have := TL.map_tl_inj (l := [a]) (m := [b]) (by simp [h])
  simpa using this
end
end Gstampahead_k76_events_written
set_option Elab.async false
set_option linter.all false
set_option maxRecDepth 100000
set_option maxHeartbeats 1000000
set_option pp.maxSteps 1500
namespace Gstampahead_k76_events_written
open PySem PySem.Spec Pv
open L2 hiding keyOf
open PyProof.Rows hiding St signs cutD pairD
section
theorem numL_head {n : Nat} (h : 0 < n) : (TL.numL n).head? ≠ some 48 := by
  induction n using Nat.strongRecOn with
  | _ n ih =>
    by_cases h1 : n < 10
    · rw [TL.numL_lt h1]
      intro e
      have : 48 + n = 48 := by simpa using e
      omega
    · rw [TL.numL_step (by omega)]
      have := ih (n / 10) (by omega) (by omega)
      cases hz : TL.numL (n / 10) with
      | nil => exact absurd hz (TL.numL_ne _)
      | cons a l => rw [hz] at this; simpa using this
theorem tl_tS {i : Int} (h : 0 ≤ i) : TL.tl (tS i) = TL.numL i.natAbs := by
  have e : i = ((i.natAbs : Nat) : Int) := by omega
  unfold tS
  conv => lhs; rw [e]
  exact TL.tl_num _
theorem numT_back {i : Int} (h : numB i) : numT (tS i) = some i.natAbs := by
  have e := tl_tS h.1
  have e' : (tS i).cps.toList = TL.numL i.natAbs := e
  have l1 : (tS i).length ≤ 60 := (tS_ok h).len
  have l0 : 1 ≤ (tS i).length := by
    rw [← len_cps, e']
    cases hz : TL.numL i.natAbs with
    | nil => exact absurd hz (TL.numL_ne _)
    | cons a l => simp
  have ad : allDig (tS i) = true := by
    unfold allDig
    rw [e', List.all_eq_true]
    exact fun c hc => (isDig_iff c).mpr (TL.numL_digits _ c hc)
  unfold numT
  rw [if_pos ⟨l0, l1, ad⟩, if_neg]
  · unfold valT; rw [e', TL.numL_val]
  · rw [e']
    rintro ⟨q1, q2⟩
    by_cases h0 : 0 < i.natAbs
    · exact numL_head h0 q1
    · have : i = 0 := by omega
      subst this
      exact q2 (by kernel_rfl)
theorem free_name {z : Str} (h : nameB z = true) {s : Nat} (hs : s < 97) : s ∉ TL.tl z := by
  unfold nameB at h
  simp only [Bool.and_eq_true, decide_eq_true_eq, List.all_eq_true] at h
  intro hm
  have := (h.2.2 s hm).1
  omega
theorem split_sp {ws : List Str} (hne : ws ≠ []) (h : ∀ w ∈ ws, 32 ∉ TL.tl w) : wsS (Txt.join " " ws) = ws := TL.split_join (s := 32) (S := []) (by kernel_rfl) (by decide +kernel) hne h
theorem sgn_ok {c : Nat} (h : 97 ≤ c ∧ c ≤ 122) : sgn (.str ⟨#[c]⟩) = true := by
  have : ∀ c ∈ List.range' 97 26, sgn (.str ⟨#[c]⟩) = true := by decide +kernel
  exact this c (by simp; omega)
theorem name_is {z : Str} (h : nameB z = true) : isName (.str z) = true := by
  unfold nameB at h
  simp only [Bool.and_eq_true, decide_eq_true_eq, List.all_eq_true] at h
  unfold isName
  simp only [Bool.and_eq_true, decide_eq_true_eq, List.all_eq_true]
  refine ⟨h.1, h.2.1, fun d hd => ?_⟩
  unfold Pv.signs at hd
  obtain ⟨c, hc, rfl⟩ := List.mem_map.mp hd
  exact sgn_ok (h.2.2 c hc)
end
end Gstampahead_k76_events_written
set_option Elab.async false
set_option linter.all false
set_option maxRecDepth 100000
set_option maxHeartbeats 1000000
set_option pp.maxSteps 1500
namespace Gstampahead_k76_events_written
open PySem PySem.Spec Pv
open L2 hiding keyOf
open PyProof.Rows hiding St signs cutD pairD
section
variable {st : Sto}
def lowT (z : Str) : Bool := cutS z none (some 1) == Str.ofString "-"
/-- the integer that a word writes -/
def intT (z : Str) : Option Int := if lowT z = true then (match numT (cutS z (some 1) none) with | some (n + 1) => some (-((n + 1 : Nat) : Int)) | _ => none) else (match numT z with | none => none | some n => some (n : Int))
def optZ : Option Int → Pv.D
  | none => .none
  | some n => .int n
theorem q_integer_of {z : Str} (hl : z.length ≤ 100000) : F_integer_of [.str z] st = .ok (optZ (intT z)) st := by
  have hs : z.length ≤ sizeLine := szB hl
  have c1 : ∀ st, fSl none (some 1) (.str z) st = .ok (.str (cutS z none (some 1))) st := fun st => by show (if z.length ≤ sizeLine then _ else _) = _; rw [if_pos hs]
  have c2 : ∀ st, fSl (some 1) none (.str z) st = .ok (.str (cutS z (some 1) none)) st := fun st => by show (if z.length ≤ sizeLine then _ else _) = _; rw [if_pos hs]
  have cl : (cutS z (some 1) none).length ≤ 100000 := Nat.le_trans (L2.cutS_length z _ _) hl
  have q1 := fun st => q_number_of (st := st) hl
  have q2 := fun st => q_number_of (st := st) cl
  have cn := cmp_sn (cutS z none (some 1)) "-"
  unfold F_integer_of b_integer_of
  rw [fnP_e]
  unfold intT lowT
  cases hw : cutS z none (some 1) == Str.ofString "-" with
  | false =>
    rw [hw] at cn
    cases hn : numT z with
    | none => simp -implicitDefEqProofs [startD, c1, cn, q1, hn, optI, optZ]
    | some n => simp -implicitDefEqProofs [startD, c1, cn, q1, hn, optI, optZ]
  | true =>
    rw [hw] at cn
    cases hn : numT (cutS z (some 1) none) with
    | none => simp -implicitDefEqProofs [startD, c1, cn, c2, q2, hn, optI, optZ]
    | some n =>
      cases n with
      | zero => simp -implicitDefEqProofs [startD, c1, cn, c2, q2, hn, optI, optZ]
      | succ n =>
        have h0 : ¬ ((n : Int) + 1 = 0) := by omega
        simp -implicitDefEqProofs [startD, c1, cn, c2, q2, hn, optI, optZ, dNeg, h0]
theorem want_t (w : Str) (st : Sto) : F_want [.bool true, .str w] st = .ok .none st := by
  unfold F_want b_want
  rw [fnP_e]
  simp -implicitDefEqProofs [startD]
theorem want_f (hs : StC st) (w : Str) : F_want [.bool false, .str w] st = .exc ("NotUsable", [("at", .int (-1)), ("word", .str w)]) st := by
  unfold F_want b_want
  rw [fnP_e]
  have exc : finR st.length (.exc ("NotUsable", [("at", .int (-1)), ("word", .str w)]) st) = .exc ("NotUsable", [("at", .int (-1)), ("word", .str w)]) st := fin_excN
  simp -implicitDefEqProofs [startD, excOf, dNeg, exc]
end
end Gstampahead_k76_events_written
set_option Elab.async false
set_option linter.all false
set_option maxRecDepth 100000
set_option maxHeartbeats 1000000
set_option pp.maxSteps 1500
namespace Gstampahead_k76_events_written
open PySem PySem.Spec Pv
open L2 hiding keyOf
open PyProof.Rows hiding St signs cutD pairD
section
variable {st : Sto}
def kindE : List Str := ["name", "other", "integer", "number", "letter"]
def partT (w k p : Str) : Option Pv.D :=
  if (k == Str.ofString "name" || k == Str.ofString "other") = true then (if (isName (.str w) && (k == Str.ofString "name" || !(w == p))) = true then some (.str w) else none)
  else if (k == Str.ofString "letter" && w == Str.ofString "-") = true then some .none
  else if (k == Str.ofString "integer") = true then (intT w).map .int
  else (numT w).map fun (n : Nat) => PyData.int (n : Int)
def optL : Option Pv.D → Pv.D
  | none => .list []
  | some d => .list [d]
theorem q_part_of {w k p : Str} (hw : Cl (.str w)) (hl : w.length ≤ 100000) (hk : k ∈ kindE) : F_part_of [.str w, .str k, .str p] st = .ok (optL (partT w k p)) st := by
  have qn := q_name (st := st) hw
  have q1 := fun S => q_number_of (st := S) hl
  have q2 := fun S => q_integer_of (st := S) hl
  have m0 : ∀ S, mkLst [] S = .ok (.list []) S := fun S => if_pos (sz_le (show 0 ≤ 1000 by decide))
  have m1 : ∀ a S, mkLst [a] S = .ok (.list [a]) S := fun a S => if_pos (sz_le (show 1 ≤ 1000 by decide))
  have mt : ∀ a b S, mkTup [a, b] S = .ok (.tuple [a, b]) S := fun _ _ S => if_pos (sz_le (show 2 ≤ 1000 by decide))
  have cp := cmp_sn w p
  have cd := cmp_s w "-"
  have dt : ∀ ds s, deref s (.tuple ds) = .tuple ds := fun _ _ => rfl
  have n0 : isNone (.none) = true := rfl
  unfold F_part_of b_part_of
  rw [fnP_e]
  simp only [kindE, List.mem_cons, List.not_mem_nil, or_false] at hk
  rcases hk with rfl | rfl | rfl | rfl | rfl
  · have i : dCmp .In (.str "name") (.tuple [.str "name", .str "other"]) = some (.bool true) := by kernel_rfl
    have e : partT w (Str.ofString "name") p = if isName (.str w) = true then some (.str w) else none := by unfold partT; rw [if_pos (by decide +kernel)]; congr 1; rw [show (Str.ofString "name" == Str.ofString "name") = true by decide +kernel]; simp
    have c1 : dCmp .Eq (.str "name") (.str "name") = some (.bool true) := by kernel_rfl
    rw [e]
    cases hn : isName (.str w) with
    | true => rw [hn] at qn; simp -implicitDefEqProofs [startD, mt, i, qn, c1, m0, m1, optL]
    | false => rw [hn] at qn; simp -implicitDefEqProofs [startD, mt, i, qn, c1, m0, m1, optL]
  · have i : dCmp .In (.str "other") (.tuple [.str "name", .str "other"]) = some (.bool true) := by kernel_rfl
    have e : partT w (Str.ofString "other") p = if (isName (.str w) && !(w == p)) = true then some (.str w) else none := by unfold partT; rw [if_pos (by decide +kernel)]; congr 1
    have c1 : dCmp .Eq (.str "other") (.str "name") = some (.bool false) := by kernel_rfl
    rw [e]
    cases hn : isName (.str w) with
    | true =>
      rw [hn] at qn
      cases hp : (w == p) with
      | true => rw [hp] at cp; simp -implicitDefEqProofs [startD, mt, i, qn, c1, cp, m0, m1, optL]
      | false => rw [hp] at cp; simp -implicitDefEqProofs [startD, mt, i, qn, c1, cp, m0, m1, optL]
    | false => rw [hn] at qn; simp -implicitDefEqProofs [startD, mt, i, qn, c1, m0, m1, optL]
  · have i : dCmp .In (.str "integer") (.tuple [.str "name", .str "other"]) = some (.bool false) := by kernel_rfl
    have e : partT w (Str.ofString "integer") p = (intT w).map .int := by unfold partT; rw [if_neg (by decide +kernel), if_neg (by rw [show (Str.ofString "integer" == Str.ofString "letter") = false by decide +kernel]; simp), if_pos (by decide +kernel)]
    have c1 : dCmp .Eq (.str "integer") (.str "letter") = some (.bool false) := by kernel_rfl
    have c2 : dCmp .Eq (.str "integer") (.str "integer") = some (.bool true) := by kernel_rfl
    rw [e]
    cases hi : intT w with
    | none => rw [hi] at q2; simp -implicitDefEqProofs [startD, mt, i, c1, c2, q2, optZ, m0, m1, optL, isNone]
    | some n => rw [hi] at q2; simp -implicitDefEqProofs [startD, mt, i, c1, c2, q2, optZ, m0, m1, optL, isNone]
  · have i : dCmp .In (.str "number") (.tuple [.str "name", .str "other"]) = some (.bool false) := by kernel_rfl
    have e : partT w (Str.ofString "number") p = (numT w).map fun (n : Nat) => PyData.int (n : Int) := by unfold partT; rw [if_neg (by decide +kernel), if_neg (by rw [show (Str.ofString "number" == Str.ofString "letter") = false by decide +kernel]; simp), if_neg (by decide +kernel)]
    have c1 : dCmp .Eq (.str "number") (.str "letter") = some (.bool false) := by kernel_rfl
    have c2 : dCmp .Eq (.str "number") (.str "integer") = some (.bool false) := by kernel_rfl
    rw [e]
    cases hi : numT w with
    | none => rw [hi] at q1; simp -implicitDefEqProofs [startD, mt, i, c1, c2, q1, optI, m0, m1, optL, isNone]
    | some n => rw [hi] at q1; simp -implicitDefEqProofs [startD, mt, i, c1, c2, q1, optI, m0, m1, optL, isNone]
  · have i : dCmp .In (.str "letter") (.tuple [.str "name", .str "other"]) = some (.bool false) := by kernel_rfl
    have c1 : dCmp .Eq (.str "letter") (.str "letter") = some (.bool true) := by kernel_rfl
    have c2 : dCmp .Eq (.str "letter") (.str "integer") = some (.bool false) := by kernel_rfl
    have e : partT w (Str.ofString "letter") p = if (w == Str.ofString "-") = true then some .none else (numT w).map fun (n : Nat) => PyData.int (n : Int) := by
      unfold partT
      rw [if_neg (by decide +kernel), show (Str.ofString "letter" == Str.ofString "letter" && w == Str.ofString "-") = (w == Str.ofString "-") by simp]
      congr 1
    rw [e]
    cases hd : (w == Str.ofString "-") with
    | true => rw [hd] at cd; simp -implicitDefEqProofs [startD, mt, i, c1, c2, cd, m0, m1, optL, isNone]
    | false =>
      rw [hd] at cd
      cases hi : numT w with
      | none => rw [hi] at q1; simp -implicitDefEqProofs [startD, mt, i, c1, c2, cd, q1, optI, m0, m1, optL, isNone]
      | some n => rw [hi] at q1; simp -implicitDefEqProofs [startD, mt, i, c1, c2, cd, q1, optI, m0, m1, optL, isNone]
def goE (ws : List Str) : Nat → List Str → Sum Nat (List Pv.D)
  | _, [] => .inr []
  | spot, k :: ks => match (if spot < ws.length then partT (ws.getD spot "") k (ws.getD (spot - 1) "") else none) with
    | none => .inl spot
    | some d => match goE ws (spot + 1) ks with | .inl j => .inl j | .inr ds => .inr (d :: ds)
def wordTb : List (Str × Pv.D) := [("tell", Gc [.str "name", .str "integer", .str "integer", .str "letter"]), ("clock", Gc [.str "name", .str "number", .str "number"]), ("road", Gc [.str "name", .str "other", .str "number"]), ("cut", Gc [.str "name", .str "other"])]
def kindsE (w : Str) : Option (List Str) := if (w == Str.ofString "tell") = true then some ["name", "integer", "integer", "letter"] else if (w == Str.ofString "clock") = true then some ["name", "number", "number"]
  else if (w == Str.ofString "road") = true then some ["name", "other", "number"] else if (w == Str.ofString "cut") = true then some ["name", "other"] else none
theorem word_at (w : Str) : wordTb.lookup w = (kindsE w).map fun ks => Gc (ks.map .str) := by
  unfold wordTb kindsE
  simp only [List.lookup_cons, List.lookup_nil]
  have c : ∀ a : Str, (w == a) = true ∨ (w == a) = false := fun a => by cases w == a <;> simp
  rcases c (Str.ofString "tell") with h | h <;> rw [h]
  · rfl
  · rcases c (Str.ofString "clock") with h | h <;> rw [h]
    · rfl
    · rcases c (Str.ofString "road") with h | h <;> rw [h]
      · rfl
      · rcases c (Str.ofString "cut") with h | h <;> rw [h] <;> rfl
theorem kindsE_in {w : Str} {ks : List Str} (h : kindsE w = some ks) : (∀ k ∈ ks, k ∈ kindE) ∧ 2 ≤ ks.length ∧ ks.length ≤ 4 := by
  have c : ∀ ks ∈ ([["name", "integer", "integer", "letter"], ["name", "number", "number"], ["name", "other", "number"], ["name", "other"]] : List (List Str)), (∀ k ∈ ks, k ∈ kindE) ∧ 2 ≤ ks.length ∧ ks.length ≤ 4 := by decide +kernel
  refine c ks ?_
  unfold kindsE at h
  split at h
  · cases h; simp
  · split at h
    · cases h; simp
    · split at h
      · cases h; simp
      · split at h
        · cases h; simp
        · cases h
def evT (z : Str) : Sum Nat Pv.D := match kindsE ((wsS z).getD 0 "") with
  | none => .inl 0
  | some ks => match goE (wsS z) 1 ks with
    | .inl j => .inl j
    | .inr ds => if ks.length + 1 < (wsS z).length then .inl (ks.length + 1) else .inr (.tuple (.str ((wsS z).getD 0 "") :: ds))
def eiZ (st : Sto) (z : Str) (k : Int) (ws ks : List Str) (v5 v6 v7 : Option Pv.D) : Sl := [some (.str z), some (.int k), some (.list (ws.map .str)), some (Gc (ks.map .str)), some (Rf st.length), v5, v6, v7]
theorem ei_turn {ws : List Str} (h : WsOk ws) (z : Str) (line : Int) (K : List Str) (acc : List Pv.D) (ha : acc.length ≤ 100) {k : Str} (hk : k ∈ kindE) {i : Nat} (hi : 1 ≤ i) :
    ∃ sl', (tgTup 2 (tgCons (tgName 5) (tgCons (tgName 6) (tgNil))) (.tuple [.int (i : Int), .str k]) (eiZ st z line ws K none none none) (st ++ [.lst acc])).thenS l0_event_in = (match (if i < ws.length then partT (ws.getD i "") k (ws.getD (i - 1) "") else none) with
      | none => .exc (badX line i) (st ++ [.lst acc])
      | some d => .nx sl' (st ++ [.lst (acc ++ [d])])) ∧ wipeD sl' [5, 6, 7] = eiZ st z line ws K none none none := by
  have b0 : (tgTup 2 (tgCons (tgName 5) (tgCons (tgName 6) (tgNil))) (.tuple [.int (i : Int), .str k]) (eiZ st z line ws K none none none) (st ++ [.lst acc])).thenS l0_event_in = l0_event_in (eiZ st z line ws K (some (.int (i : Int))) (some (.str k)) none) (st ++ [.lst acc]) := rfl
  rw [b0]
  have ll := ws_len ws
  have m0 : ∀ S, mkLst [] S = .ok (.list []) S := fun S => if_pos (sz_le (show 0 ≤ 1000 by decide))
  have sb : dInt2 (fun _ _ => true) (fun i j => PyData.int (i - j)) (.int (i : Int)) (.int 1) = some (.int ((i - 1 : Nat) : Int)) := by
    show some (PyData.int ((i : Int) - 1)) = _
    rw [show (i : Int) - 1 = ((i - 1 : Nat) : Int) by omega]
  have il := isLst_last st acc
  refine ⟨eiZ st z line ws K (some (.int (i : Int))) (some (.str k)) (some (optL (if i < ws.length then partT (ws.getD i "") k (ws.getD (i - 1) "") else none))), ?_, rfl⟩
  by_cases hlt : i < ws.length
  · rw [if_pos hlt]
    have ix1 := ws_ix hlt
    have ix0 := ws_ix (ws := ws) (i := i - 1) (by omega)
    have qp := q_part_of (st := st ++ [.lst acc]) (p := ws.getD (i - 1) "") (h.at hlt).1 (h.at hlt).2 hk
    have lt : dCmp .Lt (.int (i : Int)) (.int (ws.length : Int)) = some (.bool true) := by rw [cmp_lt_i, decide_eq_true (by omega)]
    unfold l0_event_in eiZ badX
    generalize ws.getD i "" = w at *
    generalize ws.getD (i - 1) "" = p at *
    generalize ((i - 1 : Nat) : Int) = i1 at *
    generalize (PyData.list (ws.map .str)) = WL at *
    generalize Gc (K.map .str) = KL at *
    cases hp : partT w k p with
    | none =>
      rw [hp] at qp
      have l0 : ∀ S, dLen (deref S (.list [])) = some (.int 0) := fun _ => rfl
      simp -implicitDefEqProofs [-cmp_lt_i, ll, lt, sb, ix1, ix0, qp, optL, l0, excOf]
    | some d =>
      rw [hp] at qp
      have l1 : ∀ S, dLen (deref S (.list [d])) = some (.int 1) := fun _ => rfl
      have ex := ext_last10 (st := st) (ds := acc) (es := [d]) (by simp; omega)
      simp -implicitDefEqProofs [-cmp_lt_i, -List.append_assoc, ll, lt, sb, ix1, ix0, qp, optL, l1, il, ex]
  · rw [if_neg hlt]
    have lt : dCmp .Lt (.int (i : Int)) (.int (ws.length : Int)) = some (.bool false) := by rw [cmp_lt_i, decide_eq_false (by omega)]
    have l0 : ∀ S, dLen (deref S (.list [])) = some (.int 0) := fun _ => rfl
    unfold l0_event_in eiZ badX
    generalize (PyData.list (ws.map .str)) = WL at *
    generalize Gc (K.map .str) = KL at *
    simp -implicitDefEqProofs [-cmp_lt_i, ll, lt, m0, l0, excOf]
theorem ei_loop {ws : List Str} (h : WsOk ws) (z : Str) (line : Int) (K : List Str) : ∀ (ks : List Str) (i : Nat) (acc : List Pv.D), (∀ k ∈ ks, k ∈ kindE) → 1 ≤ i → acc.length + ks.length ≤ 100 →
    (match goE ws i ks with
      | .inl j => ∃ acc', forL always (tgTup 2 (tgCons (tgName 5) (tgCons (tgName 6) (tgNil)))) l0_event_in [5, 6, 7] (numD i (ks.map .str)) (eiZ st z line ws K none none none) (st ++ [.lst acc]) = .exc (badX line j) (st ++ [.lst acc'])
      | .inr ds => forL always (tgTup 2 (tgCons (tgName 5) (tgCons (tgName 6) (tgNil)))) l0_event_in [5, 6, 7] (numD i (ks.map .str)) (eiZ st z line ws K none none none) (st ++ [.lst acc]) = .nx (eiZ st z line ws K none none none) (st ++ [.lst (acc ++ ds)]))
  | [], i, acc, _, _, _ => by
    show forL always _ l0_event_in [5, 6, 7] [] _ _ = _
    rw [forL_nil, List.append_nil]
  | k :: ks, i, acc, hk, hi, hl => by
    have hl' : acc.length + (ks.length + 1) ≤ 100 := by rwa [List.length_cons] at hl
    obtain ⟨sl', e, w⟩ := ei_turn (st := st) h z line K acc (by omega) (hk k List.mem_cons_self) hi
    have unf : forL always (tgTup 2 (tgCons (tgName 5) (tgCons (tgName 6) (tgNil)))) l0_event_in [5, 6, 7] (numD i ((k :: ks).map .str)) (eiZ st z line ws K none none none) (st ++ [.lst acc]) = forL always (tgTup 2 (tgCons (tgName 5) (tgCons (tgName 6) (tgNil)))) l0_event_in [5, 6, 7] (.tuple [.int (i : Int), .str k] :: numD (i + 1) (ks.map .str)) (eiZ st z line ws K none none none) (st ++ [.lst acc]) := rfl
    unfold goE
    rw [unf, forL_cons, e]
    cases hp : (if i < ws.length then partT (ws.getD i "") k (ws.getD (i - 1) "") else none) with
    | none => exact ⟨acc, rfl⟩
    | some d =>
      have ih := ei_loop h z line K ks (i + 1) (acc ++ [d]) (fun k hk' => hk k (List.mem_cons_of_mem _ hk')) (by omega) (by rw [List.length_append, List.length_singleton]; omega)
      simp only
      rw [w]
      cases hg : goE ws (i + 1) ks with
      | inl j => rw [hg] at ih; exact ih
      | inr ds =>
        rw [hg] at ih
        show _ = RS.nx (eiZ st z line ws K none none none) (st ++ [.lst (acc ++ d :: ds)])
        rw [show acc ++ d :: ds = acc ++ [d] ++ ds by simp]
        exact ih
theorem goE_len {ws : List Str} : ∀ {ks : List Str} {i : Nat} {ds : List Pv.D}, goE ws i ks = .inr ds → ds.length = ks.length ∧ (ks = [] ∨ i + ks.length ≤ ws.length)
  | [], i, ds, h => by unfold goE at h; cases h; exact ⟨rfl, .inl rfl⟩
  | k :: ks, i, ds, h => by
    unfold goE at h
    cases hp : (if i < ws.length then partT (ws.getD i "") k (ws.getD (i - 1) "") else none) with
    | none => rw [hp] at h; cases h
    | some d =>
      rw [hp] at h
      have hlt : i < ws.length := by
        by_cases c : i < ws.length
        · exact c
        · rw [if_neg c] at hp; cases hp
      cases hg : goE ws (i + 1) ks with
      | inl j => simp only [hg] at h; cases h
      | inr es =>
        simp only [hg] at h
        cases h
        obtain ⟨a, b⟩ := goE_len hg
        refine ⟨by rw [List.length_cons, List.length_cons, a], .inr ?_⟩
        rw [List.length_cons]
        rcases b with b | b
        · rw [b]; simp; omega
        · omega
theorem body_ei : b_event_in = sSeq (sAsg (mSplit (mVar 0) (mC (.str " "))) (tgName 2)) (sSeq (sIf (mTb (mInW true wordTb (mIx (mVar 2) (mC (.int 0))))) (sRaise "InvalidText" ["line", "field"] (msCons (mVar 1) (msCons (mC (.int 0)) (msNil)))) (sNil)) (sSeq (sPar2 3 4 (msCons (mIxW wordTb (mIx (mVar 2) (mC (.int 0)))) (msCons (mLstM (msCons (mIx (mVar 2) (mC (.int 0))) (msNil))) (msNil)))) (sSeq (sFor [5, 6, 7] (mEnum1 (mVar 3)) (tgTup 2 (tgCons (tgName 5) (tgCons (tgName 6) (tgNil)))) (l0_event_in)) (sSeq (sIf (mTb (mCmp .Gt (mLen (mVar 2)) (mLen (mVar 4)))) (sRaise "InvalidText" ["line", "field"] (msCons (mVar 1) (msCons (mLen (mVar 4)) (msNil)))) (sNil)) (sRet (mTuple (mVar 4))))))) := rfl
theorem q_event_in (hS : StC st) {z : Str} (hz : TxOk z) {k : Int} (hlay : ∀ d, evT z = .inr d → d.canLay0 = true) : F_event_in [.str z, .int k] st = match evT z with | .inl j => .exc (badX k j) st | .inr d => .ok d st := by
  obtain ⟨wo, w1⟩ := ws_ok hz
  have sp : ∀ S, fSplit z (.str " ") S = .ok (.list ((wsS z).map .str)) S := fun S => (q_split hz S).1
  have i0 : ∀ S, fIx (.list ((wsS z).map .str)) (.int 0) S = .ok (.str ((wsS z).getD 0 "")) S := fun S => ws_ix (ws := wsS z) (i := 0) (by omega) S
  have ll := ws_len (wsS z)
  have h0 : Cl (.str ((wsS z).getD 0 "")) := (wo.at (show 0 < (wsS z).length by omega)).1
  have p1 : (sAsg (mSplit (mVar 0) (mC (.str " "))) (tgName 2)) (startD 8 [.str z, .int k]) st = .nx [some (.str z), some (.int k), some (.list ((wsS z).map .str)), none, none, none, none, none] st := by
    refine asgN (d := .list ((wsS z).map .str)) ?_ rfl
    exact sp st
  have wa := word_at ((wsS z).getD 0 "")
  unfold F_event_in
  rw [fnP_e, body_ei]
  cases hk : kindsE ((wsS z).getD 0 "") with
  | none =>
    rw [hk] at wa
    have wa : wordTb.lookup ((wsS z).getD 0 "") = none := wa
    have ev : evT z = .inl 0 := by unfold evT; rw [hk]
    rw [seqN p1 rfl, ev]
    generalize wordTb = TB at *
    unfold badX
    generalize (wsS z).getD 0 "" = w0 at *
    generalize (PyData.list ((wsS z).map .str)) = WL at *
    have fin : finR st.length (.exc ("InvalidText", [("field", .int 0), ("line", .int k)]) st) = .exc ("InvalidText", [("field", .int 0), ("line", .int k)]) st := if_pos rfl
    simp -implicitDefEqProofs [i0, wa, excOf, fin]
  | some ks =>
    obtain ⟨kin, k2, k4⟩ := kindsE_in hk
    rw [hk] at wa
    have wa : wordTb.lookup ((wsS z).getD 0 "") = some (Gc (ks.map .str)) := wa
    have lp := ei_loop (st := st) wo z k ks ks 1 [.str ((wsS z).getD 0 "")] kin (by decide) (by simp; omega)
    have ml : ∀ x s, mkLstM [x] s = .ok (Rf s.length) (s ++ [.lst [x]]) := fun x s => by unfold mkLstM; rw [if_pos (sz_le (by simp))]
    have p2 : (sIf (mTb (mInW true wordTb (mIx (mVar 2) (mC (.int 0))))) (sRaise "InvalidText" ["line", "field"] (msCons (mVar 1) (msCons (mC (.int 0)) (msNil)))) (sNil)) [some (.str z), some (.int k), some (.list ((wsS z).map .str)), none, none, none, none, none] st = .nx [some (.str z), some (.int k), some (.list ((wsS z).map .str)), none, none, none, none, none] st := by
      generalize (wsS z).getD 0 "" = w0 at *
      generalize (PyData.list ((wsS z).map .str)) = WL at *
      generalize wordTb = TB at *
      simp -implicitDefEqProofs [i0, wa]
    have p3 : (sPar2 3 4 (msCons (mIxW wordTb (mIx (mVar 2) (mC (.int 0)))) (msCons (mLstM (msCons (mIx (mVar 2) (mC (.int 0))) (msNil))) (msNil)))) [some (.str z), some (.int k), some (.list ((wsS z).map .str)), none, none, none, none, none] st = .nx (eiZ st z k (wsS z) ks none none none) (st ++ [.lst [.str ((wsS z).getD 0 "")]]) := by
      unfold eiZ
      have s2 : ∀ (sl : Sl) (d e : Pv.D) s, set2 3 4 sl [d, e] s = .nx ((sl.set 3 (some d)).set 4 (some e)) s := fun _ _ _ _ => rfl
      generalize (wsS z).getD 0 "" = w0 at *
      generalize (PyData.list ((wsS z).map .str)) = WL at *
      generalize wordTb = TB at *
      generalize Gc (ks.map .str) = KL at *
      simp -implicitDefEqProofs [i0, wa, ml, s2]
    have it : ∀ S, (mEnum1 (mVar 3)) (eiZ st z k (wsS z) ks none none none) S = .ok ⟨numD 1 (ks.map .str), always⟩ S := fun S => rfl
    have wz : wipeD (eiZ st z k (wsS z) ks none none none) [5, 6, 7] = eiZ st z k (wsS z) ks none none none := rfl
    have top : ∀ r : RS, (sFor [5, 6, 7] (mEnum1 (mVar 3)) (tgTup 2 (tgCons (tgName 5) (tgCons (tgName 6) (tgNil)))) (l0_event_in)) (eiZ st z k (wsS z) ks none none none) (st ++ [.lst [.str ((wsS z).getD 0 "")]]) = forL always (tgTup 2 (tgCons (tgName 5) (tgCons (tgName 6) (tgNil)))) l0_event_in [5, 6, 7] (numD 1 (ks.map .str)) (eiZ st z k (wsS z) ks none none none) (st ++ [.lst [.str ((wsS z).getD 0 "")]]) := fun _ => by
      rw [e_for, it, th_ok, wz]
    have finX : ∀ j more, finR st.length (.exc (badX k j) (st ++ more)) = .exc (badX k j) st := fun j more => fin_exc hS (by simp [badX, PyData.canLay0])
    rw [seqN p1 (seqN p2 (seqN p3 rfl))]
    cases hg : goE (wsS z) 1 ks with
    | inl j =>
      rw [hg] at lp
      obtain ⟨acc', lp⟩ := lp
      have ev : evT z = .inl j := by unfold evT; rw [hk]; simp only [hg]
      rw [e_seq, top .bad, lp, ev]
      exact finX j [.lst acc']
    | inr ds =>
      rw [hg] at lp
      rw [e_seq, top .bad, lp]
      obtain ⟨dl, _⟩ := goE_len hg
      have ev : evT z = if ks.length + 1 < (wsS z).length then .inl (ks.length + 1) else .inr (.tuple (.str ((wsS z).getD 0 "") :: ds)) := by unfold evT; rw [hk]; simp only [hg]
      have hlay' : ¬ ks.length + 1 < (wsS z).length → PyData.canLay0 (.tuple (.str ((wsS z).getD 0 "") :: ds)) = true := fun c => hlay _ (by rw [ev, if_neg c])
      rw [ev]
      generalize hacc : [PyData.str ((wsS z).getD 0 "")] ++ ds = acc at *
      have accL : acc.length = ks.length + 1 := by rw [← hacc]; simp [dl]
      have l4 : ∀ S, dLen (deref (S ++ [.lst acc]) (Rf S.length)) = some (.int ((ks.length + 1 : Nat) : Int)) := fun S => by
        rw [deref_last]
        show some (PyData.int (acc.length : Int)) = _
        rw [accL]
      have gt : dCmp .Gt (.int ((wsS z).length : Int)) (.int ((ks.length + 1 : Nat) : Int)) = some (.bool (decide (ks.length + 1 < (wsS z).length))) := by
        rw [cmp_gt_i]; congr 2; rw [decide_eq_decide]; omega
      have l4 := l4 st
      show finR st.length (endR ((sSeq (sIf (mTb (mCmp .Gt (mLen (mVar 2)) (mLen (mVar 4)))) (sRaise "InvalidText" ["line", "field"] (msCons (mVar 1) (msCons (mLen (mVar 4)) (msNil)))) (sNil)) (sRet (mTuple (mVar 4)))) (eiZ st z k (wsS z) ks none none none) (st ++ [.lst acc]))) = _
      by_cases c : ks.length + 1 < (wsS z).length
      · rw [if_pos c]
        rw [decide_eq_true c] at gt
        have fx := finX (ks.length + 1) [.lst acc]
        unfold eiZ badX at *
        obtain ⟨L1, hL1⟩ : ∃ L1 : Int, L1 = ((ks.length + 1 : Nat) : Int) := ⟨_, rfl⟩
        rw [← hL1] at l4 gt fx
        generalize (PyData.list ((wsS z).map .str)) = WL at *
        generalize Gc (ks.map .str) = KL at *
        simp -implicitDefEqProofs [-cmp_gt_i, ll, l4, gt, excOf]
        exact fx.trans (by rw [hL1]; rfl)
      · rw [if_neg c]
        rw [decide_eq_false c] at gt
        have hl := hlay' c
        have ft : fTuple (Rf st.length) (st ++ [.lst acc]) = .ok (.tuple acc) (st ++ [.lst acc]) := by
          show onD1 dTuple (Rf st.length) (st ++ [.lst acc]) = _
          unfold onD1
          rw [deref_last]
          rfl
        have fo : finR st.length (.ok (.tuple acc) (st ++ [.lst acc])) = .ok (.tuple acc) st := fin_app hS (by rw [← hacc]; exact hl)
        rw [show PyData.str ((wsS z).getD 0 "") :: ds = acc from hacc]
        unfold eiZ at *
        generalize ((ks.length + 1 : Nat) : Int) = L1 at *
        generalize (PyData.list ((wsS z).map .str)) = WL at *
        generalize Gc (ks.map .str) = KL at *
        simp -implicitDefEqProofs [-cmp_gt_i, ll, l4, gt, ft]
        exact fo
theorem q_read_event (hS : StC st) {z : Str} (hz : TxOk z) (hlay : ∀ d, evT z = .inr d → d.canLay0 = true) : F_read_event [.str z] st = match evT z with | .inl j => .exc (badX 0 j) st | .inr d => .ok d st := by
  have q := q_event_in (k := 0) hS hz hlay
  have wt := want_t "text" st
  unfold F_read_event b_read_event
  rw [fnP_e]
  cases he : evT z with
  | inl j =>
    rw [he] at q
    have fin : finR st.length (.exc (badX 0 j) st) = .exc (badX 0 j) st := if_pos rfl
    have q : F_event_in [.str z, .int 0] st = .exc (badX 0 j) st := q
    obtain ⟨B, hB⟩ : ∃ B, B = badX 0 j := ⟨_, rfl⟩
    rw [← hB] at q fin
    show _ = R.exc (badX 0 j) st
    rw [← hB]
    simp -implicitDefEqProofs [startD, Ty.sub, wt, q, fin]
  | inr d =>
    rw [he] at q
    have q : F_event_in [.str z, .int 0] st = .ok d st := q
    simp -implicitDefEqProofs [startD, Ty.sub, wt, q]
theorem sub_lay {w k p : Str} (hw : (PyData.str w).canLay0 = true) {d : Pv.D} (h : partT w k p = some d) : d.canLay0 = true := by
  unfold partT at h
  split at h
  · split at h
    · cases h; exact hw
    · cases h
  · split at h
    · cases h; rfl
    · split at h
      · cases hi : intT w with
        | none => rw [hi] at h; cases h
        | some i => rw [hi] at h; cases h; rfl
      · cases hi : numT w with
        | none => rw [hi] at h; cases h
        | some i => rw [hi] at h; cases h; rfl
theorem goE_lay {ws : List Str} (hw : ∀ w ∈ ws, (PyData.str w).canLay0 = true) : ∀ {ks : List Str} {i : Nat} {ds : List Pv.D}, goE ws i ks = .inr ds → ∀ d ∈ ds, d.canLay0 = true
  | [], i, ds, h => by unfold goE at h; cases h; exact fun d hd => nomatch hd
  | k :: ks, i, ds, h => by
    unfold goE at h
    cases hp : (if i < ws.length then partT (ws.getD i "") k (ws.getD (i - 1) "") else none) with
    | none => rw [hp] at h; cases h
    | some d =>
      rw [hp] at h
      have hlt : i < ws.length := by
        by_cases c : i < ws.length
        · exact c
        · rw [if_neg c] at hp; cases hp
      rw [if_pos hlt] at hp
      cases hg : goE ws (i + 1) ks with
      | inl j => simp only [hg] at h; cases h
      | inr es =>
        simp only [hg] at h
        cases h
        intro e he
        rcases List.mem_cons.mp he with rfl | he
        · exact sub_lay (hw _ (by rw [List.getD_eq_getElem?_getD, List.getElem?_eq_getElem hlt]; exact List.getElem_mem _)) hp
        · exact goE_lay hw hg e he
theorem ev_lay {z : Str} (hz : TxOk z) : ∀ d, evT z = .inr d → d.canLay0 = true := by
  obtain ⟨wo, w1⟩ := ws_ok hz
  have hw : ∀ w ∈ wsS z, (PyData.str w).canLay0 = true := fun w h => (wo.ok w h).1.lay
  intro d h
  unfold evT at h
  split at h
  · cases h
  · split at h
    · cases h
    · rename_i ds hg
      split at h
      · cases h
      · cases h
        refine (layAll_iff _).mpr fun e he => ?_
        rcases List.mem_cons.mp he with rfl | he
        · exact (wo.at (show 0 < (wsS z).length by omega)).1.lay
        · exact goE_lay hw hg e he
end
end Gstampahead_k76_events_written
set_option Elab.async false
set_option linter.all false
set_option maxRecDepth 100000
set_option maxHeartbeats 1000000
set_option pp.maxSteps 1500
namespace Gstampahead_k76_events_written
open PySem PySem.Spec Pv
open L2 hiding keyOf
open PyProof.Rows hiding St signs cutD pairD
section
variable {st : Sto}
theorem q_lname {z : Str} (hz : Cl (.str z)) (hl : z.length ≤ 100000) : F__law_is_name [.str z] st = .ok (.bool (isName (.str z))) st := by
  have hs : z.length ≤ sizeLine := szB hl
  have lc : mLc (mIter (mVar 0)) (.nm 1) (mTb (mCmp .NotIn (mVar 1) (mC (.str "abcdefghijklmnopqrstuvwxyz")))) (mVar 1) [1] [some (.str z), none] st = .ok (.list ((z.cps.toList.filter fun c => !sgn (.str ⟨#[c]⟩)).map fun c => .str ⟨#[c]⟩)) st := by
    refine mLc_ifB (keep := always) z.cps.toList (fun c => .str ⟨#[c]⟩) _ _ (by simp; rfl) trivial (by rw [len_cps]; exact hl) fun c _ => ⟨_, rfl, ?_, fun _ => by simp [wipeD]⟩
    have e := notin_abc c
    simp -implicitDefEqProofs [wipeD, e]
  have lay : PyData.canLayAll0 ((z.cps.toList.filter fun c => !sgn (.str ⟨#[c]⟩)).map fun c => PyData.str ⟨#[c]⟩) = true := (layAll_iff _).mpr fun d hd => by
    obtain ⟨c, hc2, rfl⟩ := List.mem_map.mp hd
    have hzz : z.cps.all (· < 0x110000) = true := by simpa only [PyData.canLay0, PyData.strOk] using hz.lay
    have := Array.all_eq_true'.mp hzz c (by simpa using (List.mem_filter.mp hc2).1)
    simpa [PyData.canLay0, PyData.strOk] using this
  have eq : dCmp .Eq (.list ((z.cps.toList.filter fun c => !sgn (.str ⟨#[c]⟩)).map fun c => PyData.str ⟨#[c]⟩)) (.list []) = some (.bool ((Pv.signs z).all sgn)) := by
    have ne := cmp_ne_nilL lay
    have emp : ((z.cps.toList.filter fun c => !sgn (.str ⟨#[c]⟩)).map fun c => PyData.str ⟨#[c]⟩).isEmpty = (Pv.signs z).all sgn := by
      unfold Pv.signs
      rw [List.isEmpty_map, Bool.eq_iff_iff, List.isEmpty_iff, List.filter_eq_nil_iff, List.all_map, List.all_eq_true]
      simp
    rw [← emp, cmp_eq (by
      unfold layOk
      have l1 : (PyData.list ((z.cps.toList.filter fun c => !sgn (.str ⟨#[c]⟩)).map fun c => PyData.str ⟨#[c]⟩)).canLay0 = true := lay
      rw [l1, show (PyData.list []).canLay0 = true from rfl, Bool.true_and, Bool.true_and, decide_eq_true_eq]
      have : (PyData.list []).depth ≤ 64 := by decide
      omega)]
    cases (z.cps.toList.filter fun c => !sgn (.str ⟨#[c]⟩)).map fun c => PyData.str ⟨#[c]⟩ <;> rfl
  have mn : ∀ s, mkLst [] s = .ok (.list []) s := fun _ => if_pos (sz_le (show 0 ≤ 1000 by decide))
  have dl : ∀ ds s, deref s (.list ds) = .list ds := fun _ _ => rfl
  unfold F__law_is_name b__law_is_name
  rw [fnP_e]
  unfold isName
  generalize ((z.cps.toList.filter fun c => !sgn (.str ⟨#[c]⟩)).map fun c => PyData.str ⟨#[c]⟩) = L at *
  generalize hb : (Pv.signs z).all sgn = b at *
  by_cases h1 : 1 ≤ z.length
  · by_cases h2 : z.length ≤ 8
    · have h1' : (1 : Int) ≤ (z.length : Int) := by omega
      have h2' : (z.length : Int) ≤ 8 := by omega
      simp -implicitDefEqProofs [startD, Ty.sub, len_s hs, h1', h2', lc, eq, mn, dl, h1, h2, hb]
    · have h1' : (1 : Int) ≤ (z.length : Int) := by omega
      have h2' : ¬ (z.length : Int) ≤ 8 := by omega
      simp -implicitDefEqProofs [startD, Ty.sub, len_s hs, h1', h2', h1, h2]
  · have h1' : ¬ (1 : Int) ≤ (z.length : Int) := by omega
    simp -implicitDefEqProofs [startD, Ty.sub, len_s hs, h1', h1]
theorem q_figures {z : Str} (hc : (PyData.str z).canLay0 = true) (hl : z.length ≤ 100000) : F__law_is_figures [.str z] st = .ok (.bool (numT z).isSome) st := by
  have hs : z.length ≤ sizeLine := szB hl
  have ln : ∀ st, mLen (mVar 0) [some (.str z), none] st = .ok (.int (z.length : Int)) st := fun st => by simp [len_s hs]
  have ch := chain_len (mLen (mVar 0)) [some (.str z), none] st (ln st)
  have lc : mLc (mIter (mVar 0)) (.nm 1) (mTb (mCmp .NotIn (mVar 1) (mC (.str "0123456789")))) (mVar 1) [1] [some (.str z), none] st = .ok (.list ((z.cps.toList.filter fun c => !isDig c).map fun c => .str ⟨#[c]⟩)) st := by
    refine mLc_ifB (keep := always) z.cps.toList (fun c => .str ⟨#[c]⟩) _ _ (by simp; rfl) trivial (by rw [len_cps]; exact hl) fun c _ => ⟨_, rfl, ?_, fun _ => by simp [wipeD]⟩
    have e := notin_dig c
    simp -implicitDefEqProofs [wipeD, e]
  have lay : PyData.canLayAll0 ((z.cps.toList.filter fun c => !isDig c).map fun c => PyData.str ⟨#[c]⟩) = true := (layAll_iff _).mpr fun d hd => by
    obtain ⟨c, hc2, rfl⟩ := List.mem_map.mp hd
    have hz : z.cps.all (· < 0x110000) = true := by simpa only [PyData.canLay0, PyData.strOk] using hc
    have := Array.all_eq_true'.mp hz c (by simpa using (List.mem_filter.mp hc2).1)
    simpa [PyData.canLay0, PyData.strOk] using this
  have ne := cmp_ne_nilL lay
  have emp : ((z.cps.toList.filter fun c => !isDig c).map fun c => PyData.str ⟨#[c]⟩).isEmpty = allDig z := by
    unfold allDig
    rw [List.isEmpty_map, Bool.eq_iff_iff, List.isEmpty_iff, List.filter_eq_nil_iff, List.all_eq_true]
    simp
  rw [emp] at ne
  unfold F__law_is_figures b__law_is_figures
  rw [fnP_e]
  unfold numT
  by_cases h1 : 1 ≤ z.length ∧ z.length ≤ 60
  · rw [show (decide (1 ≤ z.length) && decide (z.length ≤ 60)) = true by simp [h1]] at ch
    cases hd : allDig z with
    | false =>
      rw [hd] at ne
      simp -implicitDefEqProofs [-e_tb, startD, ch, lc, h1, mkLst, sz_le]
      simp -implicitDefEqProofs [lc, mkLst, sz_le, ne]
    | true =>
      rw [hd] at ne
      obtain ⟨c, hc⟩ := head_some h1.1
      have i0 := fun st => ix_s0 hl hc st
      have e0 : dCmp .NotEq (.str ⟨#[c]⟩) (.str "0") = some (.bool (!decide (z.cps.toList.head? = some 48))) := by
        rw [cmp_sn]; exact congrArg (fun b => some (PyData.bool (!b))) (head_eq hc 48)
      have e1 := cmp_s z "0"
      have iv := int_dig hd h1.1 h1.2
      by_cases g1 : z.cps.toList.head? = some 48
      · cases g2 : z == Str.ofString "0" with
        | false => simp -implicitDefEqProofs [-e_tb, startD, ch, lc, h1, mkLst, sz_le]; simp -implicitDefEqProofs [lc, mkLst, sz_le, ne, i0, e0, e1, g1, g2]
        | true => simp -implicitDefEqProofs [-e_tb, startD, ch, lc, h1, mkLst, sz_le]; simp -implicitDefEqProofs [lc, mkLst, sz_le, ne, i0, e0, e1, g1, g2, iv]
      · cases g2 : z == Str.ofString "0" with
        | false => simp -implicitDefEqProofs [-e_tb, startD, ch, lc, h1, mkLst, sz_le]; simp -implicitDefEqProofs [lc, mkLst, sz_le, ne, i0, e0, e1, g1, g2, iv]
        | true => simp -implicitDefEqProofs [-e_tb, startD, ch, lc, h1, mkLst, sz_le]; simp -implicitDefEqProofs [lc, mkLst, sz_le, ne, i0, e0, e1, g1, g2, iv]
  · have : (decide (1 ≤ z.length) && decide (z.length ≤ 60)) = false := by
      rw [Bool.and_eq_false_iff, decide_eq_false_iff_not, decide_eq_false_iff_not]
      omega
    rw [this] at ch
    have hn : ¬ (1 ≤ z.length ∧ z.length ≤ 60 ∧ allDig z = true) := fun h => h1 ⟨h.1, h.2.1⟩
    rw [if_neg hn]
    simp -implicitDefEqProofs [-e_tb, startD, ch]
theorem tl_cut1 (z : Str) : TL.tl (cutS z (some 1) none) = (TL.tl z).drop 1 := by
  have hl : TL.tl z = z.cps.toList := rfl
  have : z.cps.toList.length = z.length := len_cps z
  unfold cutS TL.tl HT.sIx
  simp only
  rw [if_neg (by decide), show (1 : Int).toNat = 1 from rfl]
  rw [List.take_of_length_le (by rw [List.length_drop]; omega)]
  by_cases h : 1 ≤ z.length
  · rw [Nat.min_eq_left h]
  · have h0 : z.cps.toList = [] := List.length_eq_zero_iff.mp (by omega)
    rw [h0]; simp
theorem tl_cut0 (z : Str) : TL.tl (cutS z none (some 1)) = (TL.tl z).take 1 := by
  have : z.cps.toList.length = z.length := len_cps z
  unfold cutS TL.tl HT.sIx
  simp only
  rw [if_neg (by decide), show (1 : Int).toNat = 1 from rfl]
  rw [List.drop_zero, Nat.sub_zero]
  by_cases h : 1 ≤ z.length
  · rw [Nat.min_eq_left h]
  · have h0 : z.cps.toList = [] := List.length_eq_zero_iff.mp (by omega)
    rw [h0]; simp
theorem low_tl {z : Str} (h : lowT z = true) : TL.tl z = 45 :: TL.tl (cutS z (some 1) none) := by
  have e : cutS z none (some 1) = Str.ofString "-" := by unfold lowT at h; simpa using h
  have e2 := tl_cut0 z
  rw [e, show TL.tl (Str.ofString "-") = [45] by kernel_rfl] at e2
  rw [tl_cut1]
  cases hz : TL.tl z with
  | nil => rw [hz] at e2; cases e2
  | cons a l => rw [hz] at e2; simp at e2; rw [e2]; rfl
theorem num_zero {w : Str} (h : numT w = some 0) : w = Str.ofString "0" := by
  unfold numT at h
  split at h
  · rename_i c
    split at h
    · cases h
    · rename_i g
      obtain ⟨x, hx⟩ := head_some c.1
      by_cases x48 : x = 48
      · subst x48
        by_cases q : (w == Str.ofString "0") = true
        · simpa using q
        · exact absurd ⟨hx, q⟩ g
      · have hv : valT w = 0 := by simpa using h
        unfold valT at hv
        cases hw : w.cps.toList with
        | nil => rw [hw] at hx; cases hx
        | cons a l =>
          rw [hw] at hx hv
          have hxa : a = x := by simpa using hx
          rw [← hxa] at x48
          have ad := c.2.2
          unfold allDig at ad
          rw [hw] at ad
          have := (isDig_iff a).mp (List.all_eq_true.mp ad a List.mem_cons_self)
          have := PySem.NumText.digitsVal_pos (c := a) (cs := l) (by omega)
          omega
  · cases h
theorem low_zero {z : Str} (h : lowT z = true) : (z == Str.ofString "-0") = (cutS z (some 1) none == Str.ofString "0") := by
  have t := low_tl h
  rw [Bool.eq_iff_iff, beq_iff_eq, beq_iff_eq]
  constructor
  · intro e
    refine tl_inj ?_
    rw [e, show TL.tl (Str.ofString "-0") = [45, 48] by kernel_rfl] at t
    rw [show TL.tl (Str.ofString "0") = [48] by kernel_rfl]
    have : [48] = TL.tl (cutS z (some 1) none) := by rw [e]; simpa using t
    exact this.symm
  · intro e
    refine tl_inj ?_
    rw [t, e]; kernel_rfl
theorem q_whole {z : Str} (hc : (PyData.str z).canLay0 = true) (hl : z.length ≤ 100000) : F__law_is_whole [.str z] st = .ok (.bool (intT z).isSome) st := by
  have hs : z.length ≤ sizeLine := szB hl
  have c1 : ∀ st, fSl none (some 1) (.str z) st = .ok (.str (cutS z none (some 1))) st := fun st => by show (if z.length ≤ sizeLine then _ else _) = _; rw [if_pos hs]
  have c2 : ∀ st, fSl (some 1) none (.str z) st = .ok (.str (cutS z (some 1) none)) st := fun st => by show (if z.length ≤ sizeLine then _ else _) = _; rw [if_pos hs]
  have cl : (cutS z (some 1) none).length ≤ 100000 := Nat.le_trans (L2.cutS_length z _ _) hl
  have clay : (PyData.str (cutS z (some 1) none)).canLay0 = true := by
    rw [lay_iff] at hc ⊢
    intro c hcc
    have : c ∈ TL.tl (cutS z (some 1) none) := hcc
    rw [tl_cut1] at this
    exact hc c (List.mem_of_mem_drop this)
  have q1 := fun st => q_figures (st := st) hc hl
  have q2 := fun st => q_figures (st := st) clay cl
  have cn := cmp_s (cutS z none (some 1)) "-"
  have cz := cmp_sn z "-0"
  unfold F__law_is_whole b__law_is_whole
  rw [fnP_e]
  unfold intT
  cases hw : lowT z with
  | false =>
    have hw' : (cutS z none (some 1) == Str.ofString "-") = false := hw
    rw [hw'] at cn
    rw [if_neg (by decide)]
    cases hn : numT z with
    | none => rw [hn] at q1; simp -implicitDefEqProofs [startD, c1, cn, q1]
    | some n => rw [hn] at q1; simp -implicitDefEqProofs [startD, c1, cn, q1]
  | true =>
    have hw' : (cutS z none (some 1) == Str.ofString "-") = true := hw
    rw [hw'] at cn
    rw [if_pos rfl]
    rw [low_zero hw] at cz
    cases hn : numT (cutS z (some 1) none) with
    | none =>
      rw [hn] at q2
      simp -implicitDefEqProofs [startD, c1, cn, c2, q2]
    | some n =>
      rw [hn] at q2
      cases n with
      | zero =>
        have e : (cutS z (some 1) none == Str.ofString "0") = true := by rw [num_zero hn]; simp
        rw [e] at cz
        simp -implicitDefEqProofs [startD, c1, cn, c2, q2, cz]
      | succ n =>
        have e : (cutS z (some 1) none == Str.ofString "0") = false := by
          cases hq : (cutS z (some 1) none == Str.ofString "0") with
          | false => rfl
          | true =>
            have e : cutS z (some 1) none = Str.ofString "0" := by simpa using hq
            rw [e, show numT (Str.ofString "0") = some 0 by decide +kernel] at hn
            cases hn
        rw [e] at cz
        simp -implicitDefEqProofs [startD, c1, cn, c2, q2, cz]
theorem int_back {z : Str} {i : Int} (h : intT z = some i) : dInt (.str z) = some (.int i) := by
  unfold intT at h
  split at h
  · rename_i lo
    split at h
    · rename_i n hn
      cases h
      have t := low_tl lo
      unfold numT at hn
      split at hn
      · rename_i c
        split at hn
        · cases hn
        · have hv : valT (cutS z (some 1) none) = n + 1 := by simpa using hn
          have ad := c.2.2
          have e := PySem.intText_neg (x := z) (cs := TL.tl (cutS z (some 1) none)) t (fun x hx => (isDig_iff x).mp (List.all_eq_true.mp ad x hx)) (fun e => by
            have h1 := c.1
            rw [← len_cps] at h1
            have e : (cutS z (some 1) none).cps.toList = [] := e
            rw [e] at h1; simp at h1) (by
            have h1 : z.cps.toList.length = z.length := len_cps z
            have h2 : (cutS z (some 1) none).cps.toList.length = (cutS z (some 1) none).length := len_cps _
            have t' : z.cps.toList = 45 :: (cutS z (some 1) none).cps.toList := t
            rw [t', List.length_cons, h2] at h1
            have := c.2.1
            omega)
          have zl : z.length ≤ 640 := by
            have h1 : z.cps.toList.length = z.length := len_cps z
            have h2 : (cutS z (some 1) none).cps.toList.length = (cutS z (some 1) none).length := len_cps _
            have t' : z.cps.toList = 45 :: (cutS z (some 1) none).cps.toList := t
            rw [t', List.length_cons, h2] at h1
            have := c.2.1
            omega
          show (if z.length ≤ 640 then (PySem.intText? z).map PyData.int else none) = _
          rw [if_pos zl, e]
          show some (PyData.int (-((valT (cutS z (some 1) none) : Nat) : Int))) = _
          rw [hv]
      · cases hn
    · cases h
  · split at h
    · cases h
    · rename_i n hn
      cases h
      exact num_int hn
def fitL (s w : Str) : Bool := if (s == Str.ofString "name") = true then isName (.str w) else if (s == Str.ofString "number") = true then (numT w).isSome else if (s == Str.ofString "integer") = true then (intT w).isSome else (w == Str.ofString "-" || (numT w).isSome)
def sortL : List Str := ["name", "number", "integer", "letter"]
theorem q_lfits {w s : Str} (hw : Cl (.str w)) (hl : w.length ≤ 100000) (hk : s ∈ sortL) : F__law_fits [.str s, .str w] st = .ok (.bool (fitL s w)) st := by
  have qn := q_lname (st := st) hw hl
  have q1 := q_figures (st := st) hw.lay hl
  have q2 := q_whole (st := st) hw.lay hl
  have cd := cmp_s w "-"
  unfold F__law_fits b__law_fits
  rw [fnP_e]
  simp only [sortL, List.mem_cons, List.not_mem_nil, or_false] at hk
  rcases hk with rfl | rfl | rfl | rfl
  · have c1 : dCmp .Eq (.str "name") (.str "name") = some (.bool true) := by kernel_rfl
    have e : fitL (Str.ofString "name") w = isName (.str w) := if_pos (by decide +kernel)
    rw [e]
    simp -implicitDefEqProofs [startD, c1, qn]
  · have c1 : dCmp .Eq (.str "number") (.str "name") = some (.bool false) := by kernel_rfl
    have c2 : dCmp .Eq (.str "number") (.str "number") = some (.bool true) := by kernel_rfl
    have e : fitL (Str.ofString "number") w = (numT w).isSome := by unfold fitL; rw [if_neg (by decide +kernel), if_pos (by decide +kernel)]
    rw [e]
    simp -implicitDefEqProofs [startD, c1, c2, q1]
  · have c1 : dCmp .Eq (.str "integer") (.str "name") = some (.bool false) := by kernel_rfl
    have c2 : dCmp .Eq (.str "integer") (.str "number") = some (.bool false) := by kernel_rfl
    have c3 : dCmp .Eq (.str "integer") (.str "integer") = some (.bool true) := by kernel_rfl
    have e : fitL (Str.ofString "integer") w = (intT w).isSome := by unfold fitL; rw [if_neg (by decide +kernel), if_neg (by decide +kernel), if_pos (by decide +kernel)]
    rw [e]
    simp -implicitDefEqProofs [startD, c1, c2, c3, q2]
  · have c1 : dCmp .Eq (.str "letter") (.str "name") = some (.bool false) := by kernel_rfl
    have c2 : dCmp .Eq (.str "letter") (.str "number") = some (.bool false) := by kernel_rfl
    have c3 : dCmp .Eq (.str "letter") (.str "integer") = some (.bool false) := by kernel_rfl
    have e : fitL (Str.ofString "letter") w = (w == Str.ofString "-" || (numT w).isSome) := by unfold fitL; rw [if_neg (by decide +kernel), if_neg (by decide +kernel), if_neg (by decide +kernel)]
    rw [e]
    cases hd : (w == Str.ofString "-") with
    | true => rw [hd] at cd; simp -implicitDefEqProofs [startD, c1, c2, c3, cd]
    | false => rw [hd] at cd; simp -implicitDefEqProofs [startD, c1, c2, c3, cd, q1]
end
end Gstampahead_k76_events_written
set_option Elab.async false
set_option linter.all false
set_option maxRecDepth 100000
set_option maxHeartbeats 1000000
set_option pp.maxSteps 1500
namespace Gstampahead_k76_events_written
open PySem PySem.Spec Pv
open L2 hiding keyOf
open PyProof.Rows hiding St signs cutD pairD
section
variable {st : Sto}
def sortE (k : Str) : Str := if (k == Str.ofString "other") = true then "name" else k
theorem sort_of : sortE (Str.ofString "name") = Str.ofString "name" ∧ sortE (Str.ofString "other") = Str.ofString "name" ∧ sortE (Str.ofString "integer") = Str.ofString "integer" ∧ sortE (Str.ofString "number") = Str.ofString "number" ∧ sortE (Str.ofString "letter") = Str.ofString "letter" := by
  refine ⟨?_, ?_, ?_, ?_, ?_⟩ <;> decide +kernel
theorem sort_in {k : Str} (h : k ∈ kindE) : sortE k ∈ sortL := by
  have : ∀ k ∈ kindE, sortE k ∈ sortL := by decide +kernel
  exact this k h
theorem pt_name (w p : Str) : partT w (Str.ofString "name") p = if isName (.str w) = true then some (.str w) else none := by
  unfold partT
  rw [if_pos (by decide +kernel)]
  congr 1
  rw [show (Str.ofString "name" == Str.ofString "name") = true by decide +kernel]; simp
theorem pt_other (w p : Str) : partT w (Str.ofString "other") p = if (isName (.str w) && !(w == p)) = true then some (.str w) else none := by
  unfold partT
  rw [if_pos (by decide +kernel)]
  congr 1
theorem pt_int (w p : Str) : partT w (Str.ofString "integer") p = (intT w).map .int := by
  unfold partT
  rw [if_neg (by decide +kernel), if_neg (by rw [show (Str.ofString "integer" == Str.ofString "letter") = false by decide +kernel]; simp), if_pos (by decide +kernel)]
theorem pt_num (w p : Str) : partT w (Str.ofString "number") p = (numT w).map fun (n : Nat) => PyData.int (n : Int) := by
  unfold partT
  rw [if_neg (by decide +kernel), if_neg (by rw [show (Str.ofString "number" == Str.ofString "letter") = false by decide +kernel]; simp), if_neg (by decide +kernel)]
theorem pt_let (w p : Str) : partT w (Str.ofString "letter") p = if (w == Str.ofString "-") = true then some .none else (numT w).map fun (n : Nat) => PyData.int (n : Int) := by
  unfold partT
  rw [if_neg (by decide +kernel), show (Str.ofString "letter" == Str.ofString "letter" && w == Str.ofString "-") = (w == Str.ofString "-") by simp]
  congr 1
theorem fl_name (w : Str) : fitL (Str.ofString "name") w = isName (.str w) := if_pos (by decide +kernel)
theorem fl_num (w : Str) : fitL (Str.ofString "number") w = (numT w).isSome := by unfold fitL; rw [if_neg (by decide +kernel), if_pos (by decide +kernel)]
theorem fl_int (w : Str) : fitL (Str.ofString "integer") w = (intT w).isSome := by unfold fitL; rw [if_neg (by decide +kernel), if_neg (by decide +kernel), if_pos (by decide +kernel)]
theorem fl_let (w : Str) : fitL (Str.ofString "letter") w = (w == Str.ofString "-" || (numT w).isSome) := by unfold fitL; rw [if_neg (by decide +kernel), if_neg (by decide +kernel), if_neg (by decide +kernel)]
theorem part_fit {w k p : Str} (hk : k ∈ kindE) : (partT w k p).isSome = (fitL (sortE k) w && !(k == Str.ofString "other" && w == p)) := by
  obtain ⟨s1, s2, s3, s4, s5⟩ := sort_of
  have o1 : (Str.ofString "name" == Str.ofString "other") = false := by decide +kernel
  have o2 : (Str.ofString "other" == Str.ofString "other") = true := by decide +kernel
  have o3 : (Str.ofString "integer" == Str.ofString "other") = false := by decide +kernel
  have o4 : (Str.ofString "number" == Str.ofString "other") = false := by decide +kernel
  have o5 : (Str.ofString "letter" == Str.ofString "other") = false := by decide +kernel
  simp only [kindE, List.mem_cons, List.not_mem_nil, or_false] at hk
  rcases hk with rfl | rfl | rfl | rfl | rfl
  · rw [s1, pt_name, fl_name, o1]
    cases isName (.str w) <;> rfl
  · rw [s2, pt_other, fl_name, o2]
    cases isName (.str w) <;> cases (w == p) <;> rfl
  · rw [s3, pt_int, fl_int, o3]
    cases intT w <;> rfl
  · rw [s4, pt_num, fl_num, o4]
    cases numT w <;> rfl
  · rw [s5, pt_let, fl_let, o5]
    cases (w == Str.ofString "-") <;> cases numT w <;> rfl
theorem dash_no {w : Str} (h : (w == Str.ofString "-") = true) : numT w = none ∧ intT w = none := by
  have e : w = Str.ofString "-" := by simpa using h
  rw [e]
  exact ⟨by decide +kernel, by decide +kernel⟩
theorem val_part {w k p : Str} (hk : k ∈ kindE) {d : Pv.D} (h : partT w k p = some d) :
    ((sortE k == Str.ofString "name") = true ∧ d = .str w) ∨ ((sortE k == Str.ofString "name") = false ∧ (((w == Str.ofString "-") = true ∧ d = .none) ∨ ((w == Str.ofString "-") = false ∧ dInt (.str w) = some d))) := by
  obtain ⟨s1, s2, s3, s4, s5⟩ := sort_of
  have nd : ∀ {o : Option Nat} , (o.map fun (n : Nat) => PyData.int (n : Int)) = some d → ∃ n : Nat, o = some n ∧ d = .int (n : Int) := fun {o} h => by
    cases o with
    | none => cases h
    | some n => cases h; exact ⟨n, rfl, rfl⟩
  simp only [kindE, List.mem_cons, List.not_mem_nil, or_false] at hk
  rcases hk with rfl | rfl | rfl | rfl | rfl
  · rw [pt_name] at h
    rw [s1]
    split at h
    · cases h; exact .inl ⟨by decide +kernel, rfl⟩
    · cases h
  · rw [pt_other] at h
    rw [s2]
    split at h
    · cases h; exact .inl ⟨by decide +kernel, rfl⟩
    · cases h
  · rw [pt_int] at h
    rw [s3]
    refine .inr ⟨by decide +kernel, .inr ?_⟩
    cases hi : intT w with
    | none => rw [hi] at h; cases h
    | some i =>
      rw [hi] at h
      cases h
      refine ⟨?_, int_back hi⟩
      cases hd : (w == Str.ofString "-") with
      | false => rfl
      | true => rw [(dash_no hd).2] at hi; cases hi
  · rw [pt_num] at h
    rw [s4]
    refine .inr ⟨by decide +kernel, .inr ?_⟩
    obtain ⟨n, hn, rfl⟩ := nd h
    refine ⟨?_, num_int hn⟩
    cases hd : (w == Str.ofString "-") with
    | false => rfl
    | true => rw [(dash_no hd).1] at hn; cases hn
  · rw [pt_let] at h
    rw [s5]
    refine .inr ⟨by decide +kernel, ?_⟩
    cases hd : (w == Str.ofString "-") with
    | true => rw [hd, if_pos rfl] at h; cases h; exact .inl ⟨rfl, rfl⟩
    | false =>
      rw [hd, if_neg (by decide)] at h
      obtain ⟨n, hn, rfl⟩ := nd h
      exact .inr ⟨rfl, num_int hn⟩
def erZ (z : Str) (ws ks : List Str) (v3 v4 v5 v6 : Option Pv.D) : Sl := [some (.str z), some (.list (ws.map .str)), some (.list (ks.map fun k => .str (sortE k))), v3, v4, v5, v6]
def noE (j : Nat) : Pv.D := .tuple [.str "no", .int (j : Int)]
theorem er_turn {ws : List Str} (h : WsOk ws) (z : Str) (K : List Str) {k : Str} (hk : k ∈ kindE) {i : Nat} (hp : (k == Str.ofString "other") = (decide (i = 1) && (sortE k == Str.ofString "name"))) :
    ∃ sl', (tgTup 2 (tgCons (tgName 3) (tgCons (tgName 4) (tgNil))) (.tuple [.int (i : Int), .str (sortE k)]) (erZ z ws K none none none none) st).thenS l0__law_event_read = (match (if i + 1 < ws.length then partT (ws.getD (i + 1) "") k (ws.getD i "") else none) with
      | none => .rt (noE (i + 1)) st
      | some _ => .nx sl' st) ∧ wipeD sl' [3, 4] = erZ z ws K none none none none := by
  have b0 : (tgTup 2 (tgCons (tgName 3) (tgCons (tgName 4) (tgNil))) (.tuple [.int (i : Int), .str (sortE k)]) (erZ z ws K none none none none) st).thenS l0__law_event_read = l0__law_event_read (erZ z ws K (some (.int (i : Int))) (some (.str (sortE k))) none none) st := rfl
  rw [b0]
  refine ⟨erZ z ws K (some (.int (i : Int))) (some (.str (sortE k))) none none, ?_, rfl⟩
  have ll := ws_len ws
  have ad : ∀ s, fAdd (.int (i : Int)) (.int 1) s = .ok (.int ((i + 1 : Nat) : Int)) s := fun _ => rfl
  have mt : ∀ a b s, mkTup [a, b] s = .ok (.tuple [a, b]) s := fun _ _ _ => if_pos (sz_le (show 2 ≤ 1000 by decide))
  have pf := part_fit (w := ws.getD (i + 1) "") (p := ws.getD i "") hk
  have cs := cmp_s (sortE k) "name"
  unfold noE
  by_cases hi : i + 1 < ws.length
  · rw [if_pos hi]
    have ix := ws_ix hi
    have qf := q_lfits (st := st) (h.at hi).1 (h.at hi).2 (sort_in hk)
    have ge : dCmp .GtE (.int ((i + 1 : Nat) : Int)) (.int (ws.length : Int)) = some (.bool false) := by rw [cmp_ge_i, decide_eq_false (by omega)]
    cases hf : fitL (sortE k) (ws.getD (i + 1) "") with
    | false =>
      rw [hf] at qf
      rw [hf, Bool.false_and] at pf
      have pn : partT (ws.getD (i + 1) "") k (ws.getD i "") = none := by cases hq : partT (ws.getD (i + 1) "") k (ws.getD i "") with | none => rfl | some d => rw [hq] at pf; cases pf
      rw [pn]
      unfold l0__law_event_read erZ
      generalize ((i + 1 : Nat) : Int) = i1 at *
      generalize ws.getD (i + 1) "" = w at *
      generalize (PyData.list (ws.map .str)) = WL at *
      generalize (PyData.list (K.map fun k => .str (sortE k))) = KL at *
      generalize sortE k = sk at *
      simp -implicitDefEqProofs [-cmp_ge_i, ll, ad, ge, ix, qf, mt]
    | true =>
      rw [hf] at qf
      rw [hf, Bool.true_and] at pf
      by_cases h1 : i = 1
      · subst h1
        have ix1 := ws_ix (ws := ws) (i := 1) (by omega)
        have ce := cmp_s (ws.getD 1 "") (ws.getD 2 "")
        rw [decide_eq_true rfl, Bool.true_and] at hp
        rw [hp] at pf
        have e11 : dCmp .Eq (.int ((1 : Nat) : Int)) (.int 1) = some (.bool true) := by kernel_rfl
        cases hn : (sortE k == Str.ofString "name") with
        | false =>
          rw [hn] at pf cs
          obtain ⟨d, hd⟩ : ∃ d, partT (ws.getD (1 + 1) "") k (ws.getD 1 "") = some d := Option.isSome_iff_exists.mp (by rw [pf]; rfl)
          rw [hd]
          unfold l0__law_event_read erZ
          generalize ((1 + 1 : Nat) : Int) = i1 at *
          generalize ((1 : Nat) : Int) = i0 at *
          generalize ws.getD (1 + 1) "" = w at *
          generalize (PyData.list (ws.map .str)) = WL at *
          generalize (PyData.list (K.map fun k => .str (sortE k))) = KL at *
          generalize sortE k = sk at *
          simp -implicitDefEqProofs [-cmp_ge_i, ll, ad, ge, ix, qf, e11, cs]
        | true =>
          rw [hn] at pf cs
          have x1 : ∀ S, fIx (.list (ws.map .str)) (.int 1) S = .ok (.str (ws.getD 1 "")) S := ix1
          have x2 : ∀ S, fIx (.list (ws.map .str)) (.int 2) S = .ok (.str (ws.getD 2 "")) S := ix
          have sym : (ws.getD 2 "" == ws.getD 1 "") = (ws.getD 1 "" == ws.getD 2 "") := by rw [Bool.eq_iff_iff, beq_iff_eq, beq_iff_eq]; exact eq_comm
          rw [show (1 + 1 : Nat) = 2 from rfl] at *
          rw [sym] at pf
          cases hq : (ws.getD 1 "" == ws.getD 2 "") with
          | true =>
            rw [hq] at pf ce
            have pn : partT (ws.getD 2 "") k (ws.getD 1 "") = none := by cases hq : partT (ws.getD 2 "") k (ws.getD 1 "") with | none => rfl | some d => rw [hq] at pf; cases pf
            rw [pn]
            unfold l0__law_event_read erZ
            have ge2 : dCmp .GtE (.int 2) (.int (ws.length : Int)) = some (.bool false) := ge
            have ad2 : ∀ s, fAdd (.int ((1 : Nat) : Int)) (.int 1) s = .ok (.int 2) s := fun _ => rfl
            generalize ((1 : Nat) : Int) = i0 at *
            generalize ws.getD 2 "" = w at *
            generalize ws.getD 1 "" = p at *
            generalize (PyData.list (ws.map .str)) = WL at *
            generalize (PyData.list (K.map fun k => .str (sortE k))) = KL at *
            generalize sortE k = sk at *
            simp -implicitDefEqProofs [-cmp_ge_i, ll, ad2, ge2, x2, qf, e11, cs, x1, ce, mt]
          | false =>
            rw [hq] at pf ce
            obtain ⟨d, hd⟩ : ∃ d, partT (ws.getD 2 "") k (ws.getD 1 "") = some d := Option.isSome_iff_exists.mp (by rw [pf]; rfl)
            rw [hd]
            unfold l0__law_event_read erZ
            have ge2 : dCmp .GtE (.int 2) (.int (ws.length : Int)) = some (.bool false) := ge
            have ad2 : ∀ s, fAdd (.int ((1 : Nat) : Int)) (.int 1) s = .ok (.int 2) s := fun _ => rfl
            generalize ((1 : Nat) : Int) = i0 at *
            generalize ws.getD 2 "" = w at *
            generalize ws.getD 1 "" = p at *
            generalize (PyData.list (ws.map .str)) = WL at *
            generalize (PyData.list (K.map fun k => .str (sortE k))) = KL at *
            generalize sortE k = sk at *
            simp -implicitDefEqProofs [-cmp_ge_i, ll, ad2, ge2, x2, qf, e11, cs, x1, ce, mt]
      · rw [decide_eq_false h1, Bool.false_and] at hp
        rw [hp] at pf
        obtain ⟨d, hd⟩ : ∃ d, partT (ws.getD (i + 1) "") k (ws.getD i "") = some d := Option.isSome_iff_exists.mp (by rw [pf]; rfl)
        rw [hd]
        have e1 : dCmp .Eq (.int (i : Int)) (.int 1) = some (.bool false) := by rw [cmp_eq_i, decide_eq_false (by omega)]
        unfold l0__law_event_read erZ
        generalize ((i + 1 : Nat) : Int) = i1 at *
        generalize (i : Int) = i0 at *
        generalize ws.getD (i + 1) "" = w at *
        generalize (PyData.list (ws.map .str)) = WL at *
        generalize (PyData.list (K.map fun k => .str (sortE k))) = KL at *
        generalize sortE k = sk at *
        simp -implicitDefEqProofs [-cmp_ge_i, -cmp_eq_i, ll, ad, ge, ix, qf, e1]
  · rw [if_neg hi]
    have ge : dCmp .GtE (.int ((i + 1 : Nat) : Int)) (.int (ws.length : Int)) = some (.bool true) := by rw [cmp_ge_i, decide_eq_true (by omega)]
    unfold l0__law_event_read erZ
    generalize ((i + 1 : Nat) : Int) = i1 at *
    generalize (PyData.list (ws.map .str)) = WL at *
    generalize (PyData.list (K.map fun k => .str (sortE k))) = KL at *
    generalize sortE k = sk at *
    simp -implicitDefEqProofs [-cmp_ge_i, ll, ad, ge, mt]
def posB : Nat → List Str → Bool
  | _, [] => true
  | i, k :: ks => ((k == Str.ofString "other") == (decide (i = 1) && (sortE k == Str.ofString "name"))) && posB (i + 1) ks
theorem er_loop {ws : List Str} (h : WsOk ws) (z : Str) (K : List Str) : ∀ (ks : List Str) (i : Nat), (∀ k ∈ ks, k ∈ kindE) → posB i ks = true →
    forL always (tgTup 2 (tgCons (tgName 3) (tgCons (tgName 4) (tgNil)))) l0__law_event_read [3, 4] (numD i (ks.map fun k => .str (sortE k))) (erZ z ws K none none none none) st = match goE ws (i + 1) ks with
      | .inl j => .rt (noE j) st
      | .inr _ => .nx (erZ z ws K none none none none) st
  | [], i, _, _ => by
    show forL always _ l0__law_event_read [3, 4] [] _ _ = _
    rw [forL_nil]; rfl
  | k :: ks, i, hk, hp => by
    unfold posB at hp
    rw [Bool.and_eq_true, beq_iff_eq] at hp
    obtain ⟨sl', e, w⟩ := er_turn (st := st) h z K (hk k List.mem_cons_self) hp.1
    have unf : forL always (tgTup 2 (tgCons (tgName 3) (tgCons (tgName 4) (tgNil)))) l0__law_event_read [3, 4] (numD i ((k :: ks).map fun k => .str (sortE k))) (erZ z ws K none none none none) st = forL always (tgTup 2 (tgCons (tgName 3) (tgCons (tgName 4) (tgNil)))) l0__law_event_read [3, 4] (.tuple [.int (i : Int), .str (sortE k)] :: numD (i + 1) (ks.map fun k => .str (sortE k))) (erZ z ws K none none none none) st := rfl
    unfold goE
    rw [unf, forL_cons, e]
    rw [show i + 1 - 1 = i from rfl]
    cases hq : (if i + 1 < ws.length then partT (ws.getD (i + 1) "") k (ws.getD i "") else none) with
    | none => rfl
    | some d =>
      have ih := er_loop h z K ks (i + 1) (fun k hk' => hk k (List.mem_cons_of_mem _ hk')) hp.2
      simp only
      rw [w, ih]
      cases hg : goE ws (i + 1 + 1) ks <;> rfl
end
end Gstampahead_k76_events_written
set_option Elab.async false
set_option linter.all false
set_option maxRecDepth 100000
set_option maxHeartbeats 1000000
set_option pp.maxSteps 1500
namespace Gstampahead_k76_events_written
open PySem PySem.Spec Pv
open L2 hiding keyOf
open PyProof.Rows hiding St signs cutD pairD
section
variable {st : Sto}
theorem goE_at {ws : List Str} : ∀ {ks : List Str} {i : Nat} {ds : List Pv.D}, goE ws i ks = .inr ds → ∀ j, j < ks.length → partT (ws.getD (i + j) "") (ks.getD j "") (ws.getD (i + j - 1) "") = some (ds.getD j .none) ∧ i + j < ws.length
  | [], i, ds, h, j, hj => by simp at hj
  | k :: ks, i, ds, h, j, hj => by
    unfold goE at h
    cases hp : (if i < ws.length then partT (ws.getD i "") k (ws.getD (i - 1) "") else none) with
    | none => rw [hp] at h; cases h
    | some d =>
      rw [hp] at h
      have hlt : i < ws.length := by
        by_cases c : i < ws.length
        · exact c
        · rw [if_neg c] at hp; cases hp
      rw [if_pos hlt] at hp
      cases hg : goE ws (i + 1) ks with
      | inl j => simp only [hg] at h; cases h
      | inr es =>
        simp only [hg] at h
        cases h
        cases j with
        | zero => exact ⟨hp, hlt⟩
        | succ j =>
          have := goE_at hg j (by simpa using hj)
          rw [show i + 1 + j = i + (j + 1) by omega] at this
          exact this
theorem er2_turn {ws : List Str} (z : Str) (K : List Str) (found : List Pv.D) (hf : found.length ≤ 100) {j : Nat} (hj : j < K.length) (hw : j + 1 < ws.length) {p : Str} {d : Pv.D} (hk : K.getD j "" ∈ kindE) (h : partT (ws.getD (j + 1) "") (K.getD j "") p = some d) :
    ∃ sl', (tgName 3 (.int (j : Int)) (erZ z ws K none none (some (Rf st.length)) none) (st ++ [.lst found])).thenS l1__law_event_read = .nx sl' (st ++ [.lst (found ++ [d])]) ∧ wipeD sl' [3, 6] = erZ z ws K none none (some (Rf st.length)) none := by
  have b0 : (tgName 3 (.int (j : Int)) (erZ z ws K none none (some (Rf st.length)) none) (st ++ [.lst found])).thenS l1__law_event_read = l1__law_event_read (erZ z ws K (some (.int (j : Int))) none (some (Rf st.length)) none) (st ++ [.lst found]) := rfl
  rw [b0]
  refine ⟨erZ z ws K (some (.int (j : Int))) none (some (Rf st.length)) (some (.str (ws.getD (j + 1) ""))), ?_, rfl⟩
  have ad : ∀ s, fAdd (.int (j : Int)) (.int 1) s = .ok (.int ((j + 1 : Nat) : Int)) s := fun _ => rfl
  have ix := ws_ix hw
  have ixK : ∀ S, fIx (.list (K.map fun k => .str (sortE k))) (.int (j : Int)) S = .ok (.str (sortE (K.getD j ""))) S := fun S => ix_l (by
    rw [List.getElem?_map, List.getElem?_eq_getElem hj, List.getD_eq_getElem?_getD, List.getElem?_eq_getElem hj]; rfl)
  have cs := cmp_s (sortE (K.getD j "")) "name"
  have cd := cmp_s (ws.getD (j + 1) "") "-"
  have il := isLst_last st found
  have ap := app_last st found d (by omega)
  have v := val_part hk h
  have es : ∀ (a : M) sl st, mInt a sl st = (a sl st).bind fun x st => onD1 dInt x st := fun _ _ _ => rfl
  have dr : ∀ (i : Str) S, deref S (.str i) = .str i := fun _ _ => rfl
  unfold l1__law_event_read erZ
  generalize ((j + 1 : Nat) : Int) = j1 at *
  generalize ws.getD (j + 1) "" = w at *
  generalize sortE (K.getD j "") = sk at *
  generalize (PyData.list (ws.map .str)) = WL at *
  generalize (PyData.list (K.map fun k => .str (sortE k))) = KL at *
  rcases v with ⟨v1, rfl⟩ | ⟨v1, ⟨v2, rfl⟩ | ⟨v2, v3⟩⟩
  · rw [v1] at cs
    simp -implicitDefEqProofs [-List.append_assoc, ad, ix, ixK, cs, il, ap]
  · rw [v1] at cs; rw [v2] at cd
    simp -implicitDefEqProofs [-List.append_assoc, ad, ix, ixK, cs, cd, il, ap]
  · rw [v1] at cs; rw [v2] at cd
    simp -implicitDefEqProofs [-List.append_assoc, ad, ix, ixK, cs, cd, il, ap, es, dr, v3]
theorem er2_loop {ws : List Str} (z : Str) (K : List Str) (v : Nat → Pv.D) (hk : ∀ k ∈ K, k ∈ kindE) : ∀ (js : List Nat) (found : List Pv.D), found.length + js.length ≤ 100 → (∀ j ∈ js, j < K.length ∧ j + 1 < ws.length ∧ ∃ p, partT (ws.getD (j + 1) "") (K.getD j "") p = some (v j)) →
    forL always (tgName 3) l1__law_event_read [3, 6] (js.map fun (j : Nat) => PyData.int (j : Int)) (erZ z ws K none none (some (Rf st.length)) none) (st ++ [.lst found]) = .nx (erZ z ws K none none (some (Rf st.length)) none) (st ++ [.lst (found ++ js.map v)])
  | [], found, _, _ => by rw [List.map_nil, forL_nil, List.map_nil, List.append_nil]
  | j :: js, found, hl, h => by
    have hl' : found.length + (js.length + 1) ≤ 100 := by rwa [List.length_cons] at hl
    obtain ⟨h1, h2, p, h3⟩ := h j List.mem_cons_self
    obtain ⟨sl', e, w⟩ := er2_turn (st := st) z K found (by omega) h1 h2 (hk _ (by rw [List.getD_eq_getElem?_getD, List.getElem?_eq_getElem h1]; exact List.getElem_mem _)) h3
    rw [List.map_cons, forL_cons, e]
    show forL always _ _ _ _ (wipeD sl' [3, 6]) _ = _
    rw [w, er2_loop z K v hk js (found ++ [v j]) (by rw [List.length_append, List.length_singleton]; omega) fun x hx => h x (List.mem_cons_of_mem _ hx)]
    simp
def rdE : Sum Nat Pv.D → Pv.D
  | .inl j => noE j
  | .inr d => .tuple [.str "told", d]
theorem kindsE_pos {w : Str} {ks : List Str} (h : kindsE w = some ks) : posB 0 ks = true ∧ ks.getD 0 "" = Str.ofString "name" := by
  have c : ∀ ks ∈ ([["name", "integer", "integer", "letter"], ["name", "number", "number"], ["name", "other", "number"], ["name", "other"]] : List (List Str)), posB 0 ks = true ∧ ks.getD 0 "" = Str.ofString "name" := by decide +kernel
  refine c ks ?_
  unfold kindsE at h
  split at h
  · cases h; simp
  · split at h
    · cases h; simp
    · split at h
      · cases h; simp
      · split at h
        · cases h; simp
        · cases h
theorem in_of_nin {x y : Pv.D} {b : Bool} (h : dCmp .NotIn x y = some (.bool b)) : dCmp .In x y = some (.bool (!b)) := by
  have h : obD ((dIn x y).map (!·)) = some (.bool b) := h
  show obD (dIn x y) = _
  cases hd : dIn x y with
  | none => rw [hd] at h; cases h
  | some c => rw [hd] at h; cases c <;> cases b <;> first | rfl | cases h
theorem told_lay {d : Pv.D} (h : d.canLay0 = true) : (PyData.tuple [.str "told", d]).canLay0 = true := by
  show PyData.canLayAll0 [PyData.str "told", d] = true
  exact (layAll_iff _).mpr fun e he => by
    simp only [List.mem_cons, List.not_mem_nil, or_false] at he
    rcases he with rfl | rfl
    · kernel_rfl
    · exact h
theorem q_event_read (hS : StC st) {z : Str} (hz : TxOk z) : F__law_event_read [.str z] st = .ok (rdE (evT z)) st := by
  obtain ⟨wo, w1⟩ := ws_ok hz
  have sp : ∀ S, fSplit z (.str " ") S = .ok (.list ((wsS z).map .str)) S := fun S => (q_split hz S).1
  have i0 : ∀ S, fIx (.list ((wsS z).map .str)) (.int 0) S = .ok (.str ((wsS z).getD 0 "")) S := fun S => ws_ix (ws := wsS z) (i := 0) (by omega) S
  have ll := ws_len (wsS z)
  have h0 : Cl (.str ((wsS z).getD 0 "")) := (wo.at (show 0 < (wsS z).length by omega)).1
  have m0 : ∀ S, mkLst [] S = .ok (.list []) S := fun S => if_pos (sz_le (show 0 ≤ 1000 by decide))
  have m1 : ∀ a S, mkLst [a] S = .ok (.list [a]) S := fun a S => if_pos (sz_le (show 1 ≤ 1000 by decide))
  have m2 : ∀ a b S, mkLst [a, b] S = .ok (.list [a, b]) S := fun a b S => if_pos (sz_le (show 2 ≤ 1000 by decide))
  have m3 : ∀ a b c S, mkLst [a, b, c] S = .ok (.list [a, b, c]) S := fun a b c S => if_pos (sz_le (show 3 ≤ 1000 by decide))
  have m4 : ∀ a b c d S, mkLst [a, b, c, d] S = .ok (.list [a, b, c, d]) S := fun a b c d S => if_pos (sz_le (show 4 ≤ 1000 by decide))
  have mt : ∀ a b s, mkTup [a, b] s = .ok (.tuple [a, b]) s := fun _ _ _ => if_pos (sz_le (show 2 ≤ 1000 by decide))
  have al : ∀ xs ys : List Pv.D, xs.length + ys.length ≤ 1000 → ∀ S, fAdd (.list xs) (.list ys) S = .ok (.list (xs ++ ys)) S := fun xs ys h S => add_lls h S
  have dt : ∀ ds s, deref s (.tuple ds) = .tuple ds := fun _ _ => rfl
  have s2 : ∀ (sl : Sl) (d e : Pv.D) s, set2 1 2 sl [d, e] s = .nx ((sl.set 1 (some d)).set 2 (some e)) s := fun _ _ _ _ => rfl
  have p1 : (sPar2 1 2 (msCons (mSplit (mVar 0) (mC (.str " "))) (msCons (mLst (msNil)) (msNil)))) (startD 7 [.str z]) st = .nx [some (.str z), some (.list ((wsS z).map .str)), some (.list []), none, none, none, none] st := by
    rw [show startD 7 [.str z] = [some (.str z), none, none, none, none, none, none] from rfl]
    generalize (PyData.list ((wsS z).map .str)) = WL at *
    simp -implicitDefEqProofs [sp, m0, s2]
  obtain ⟨C, hC⟩ : ∃ C : MS, C = (sIf (mTb (mCmp .Eq (mIx (mVar 1) (mC (.int 0))) (mC (.str "tell")))) (sAsg (mLst (msCons (mC (.str "name")) (msCons (mC (.str "integer")) (msCons (mC (.str "integer")) (msCons (mC (.str "letter")) (msNil)))))) (tgName 2)) (sIf (mTb (mCmp .Eq (mIx (mVar 1) (mC (.int 0))) (mC (.str "clock")))) (sAsg (mLst (msCons (mC (.str "name")) (msCons (mC (.str "number")) (msCons (mC (.str "number")) (msNil))))) (tgName 2)) (sIf (mTb (mCmp .In (mIx (mVar 1) (mC (.int 0))) (mTup (msCons (mC (.str "road")) (msCons (mC (.str "cut")) (msNil)))))) (sAsg (mAdd (mLst (msCons (mC (.str "name")) (msCons (mC (.str "name")) (msNil)))) (mIf (mTb (mCmp .Eq (mIx (mVar 1) (mC (.int 0))) (mC (.str "road")))) (mLst (msCons (mC (.str "number")) (msNil))) (mLst (msNil)))) (tgName 2)) (sRet (mTup (msCons (mC (.str "no")) (msCons (mC (.int 0)) (msNil)))))))) := ⟨_, rfl⟩
  have p2 : C [some (.str z), some (.list ((wsS z).map .str)), some (.list []), none, none, none, none] st = match kindsE ((wsS z).getD 0 "") with
      | none => .rt (noE 0) st
      | some ks => .nx (erZ z (wsS z) ks none none none none) st := by
    rw [hC]
    unfold kindsE noE erZ
    have c1 := cmp_s ((wsS z).getD 0 "") "tell"
    have c2 := cmp_s ((wsS z).getD 0 "") "clock"
    have c3 := cmp_s ((wsS z).getD 0 "") "road"
    have nin := in_of_nin (in_strsT (al := ["road", "cut"]) (by kernel_rfl) h0.lay)
    have so := sort_of
    generalize (wsS z).getD 0 "" = w0 at *
    generalize (PyData.list ((wsS z).map .str)) = WL at *
    have e1 : (([Str.ofString "name", Str.ofString "integer", Str.ofString "integer", Str.ofString "letter"] : List Str).map fun k => PyData.str (sortE k)) = [.str "name", .str "integer", .str "integer", .str "letter"] := by kernel_rfl
    have e2 : (([Str.ofString "name", Str.ofString "number", Str.ofString "number"] : List Str).map fun k => PyData.str (sortE k)) = [.str "name", .str "number", .str "number"] := by kernel_rfl
    have e3 : (([Str.ofString "name", Str.ofString "other", Str.ofString "number"] : List Str).map fun k => PyData.str (sortE k)) = [.str "name", .str "name", .str "number"] := by kernel_rfl
    have e4 : (([Str.ofString "name", Str.ofString "other"] : List Str).map fun k => PyData.str (sortE k)) = [.str "name", .str "name"] := by kernel_rfl
    have nin : dCmp .In (.str w0) (.tuple [.str "road", .str "cut"]) = some (.bool (w0 == Str.ofString "road" || (w0 == Str.ofString "cut"))) := by
      rw [show (PyData.tuple [.str "road", .str "cut"]) = .tuple ((["road", "cut"] : List Str).map .str) from rfl, nin]
      simp [List.contains_cons]
      rw [Bool.eq_iff_iff]; simp
    cases h1 : (w0 == Str.ofString "tell") with
    | true =>
      rw [h1] at c1
      simp only [if_true, e1]
      simp -implicitDefEqProofs [i0, c1, m4]
    | false =>
      rw [h1] at c1
      cases h2 : (w0 == Str.ofString "clock") with
      | true =>
        rw [h2] at c2
        simp only [if_true, Bool.false_eq_true, if_false, e2]
        simp -implicitDefEqProofs [i0, c1, c2, m3]
      | false =>
        rw [h2] at c2
        cases h3 : (w0 == Str.ofString "road") with
        | true =>
          rw [h3] at c3 nin
          simp only [if_true, Bool.false_eq_true, if_false, e3]
          simp -implicitDefEqProofs [i0, c1, c2, c3, nin, mt, dt, m2, m1, al]
        | false =>
          rw [h3] at c3 nin
          cases h4 : (w0 == Str.ofString "cut") with
          | true =>
            rw [h4] at nin
            simp only [if_true, Bool.false_eq_true, if_false, e4]
            simp -implicitDefEqProofs [i0, c1, c2, c3, nin, mt, dt, m2, m0, al]
          | false =>
            rw [h4] at nin
            simp only [Bool.false_eq_true, if_false]
            simp -implicitDefEqProofs [i0, c1, c2, c3, nin, mt, dt]
  have top : b__law_event_read = sSeq (sPar2 1 2 (msCons (mSplit (mVar 0) (mC (.str " "))) (msCons (mLst (msNil)) (msNil)))) (sSeq C (sSeq (sFor [3, 4] (mEnum (mVar 2)) (tgTup 2 (tgCons (tgName 3) (tgCons (tgName 4) (tgNil)))) (l0__law_event_read)) (sSeq (sIf (mTb (mCmp .Gt (mLen (mVar 1)) (mAdd (mLen (mVar 2)) (mC (.int 1))))) (sRet (mTup (msCons (mC (.str "no")) (msCons (mAdd (mLen (mVar 2)) (mC (.int 1))) (msNil))))) (sNil)) (sSeq (sAsg (mLstM (msCons (mIx (mVar 1) (mC (.int 0))) (msCons (mIx (mVar 1) (mC (.int 1))) (msNil)))) (tgName 5)) (sSeq (sFor [3, 6] (mRng2 (mC (.int 1)) (mLen (mVar 2))) (tgName 3) (l1__law_event_read)) (sRet (mTup (msCons (mC (.str "told")) (msCons (mTuple (mVar 5)) (msNil)))))))))) := by rw [hC]; rfl
  have elay := ev_lay hz
  unfold F__law_event_read
  rw [fnP_e, top, seqN p1 rfl]
  have noF : ∀ j, finR st.length (.ok (noE j) st) = .ok (noE j) st := fun j => fin_same rfl
  cases hk : kindsE ((wsS z).getD 0 "") with
  | none =>
    have ev : evT z = .inl 0 := by unfold evT; rw [hk]
    rw [hk] at p2
    rw [ev, e_seq, p2]
    exact noF 0
  | some ks =>
    obtain ⟨kin, k2, k4⟩ := kindsE_in hk
    obtain ⟨kp, k0⟩ := kindsE_pos hk
    rw [hk] at p2
    have lp := er_loop (st := st) wo z ks ks 0 kin kp
    rw [Nat.zero_add] at lp
    have it : ∀ S, (mEnum (mVar 2)) (erZ z (wsS z) ks none none none none) S = .ok ⟨numD 0 (ks.map fun k => .str (sortE k)), always⟩ S := fun S => rfl
    have wz : wipeD (erZ z (wsS z) ks none none none none) [3, 4] = erZ z (wsS z) ks none none none none := rfl
    rw [seqN p2 rfl, e_seq, e_for, it, th_ok, wz, lp]
    cases hg : goE (wsS z) 1 ks with
    | inl j =>
      have ev : evT z = .inl j := by unfold evT; rw [hk]; simp only [hg]
      rw [ev]
      exact noF j
    | inr ds =>
      have ev : evT z = if ks.length + 1 < (wsS z).length then .inl (ks.length + 1) else .inr (.tuple (.str ((wsS z).getD 0 "") :: ds)) := by unfold evT; rw [hk]; simp only [hg]
      obtain ⟨dl, dw⟩ := goE_len hg
      have at_ := goE_at hg
      have lk : ∀ S, dLen (deref S (.list (ks.map fun k => .str (sortE k)))) = some (.int (ks.length : Int)) := fun S => by
        show some (PyData.int ((ks.map fun k => PyData.str (sortE k)).length : Int)) = _
        rw [List.length_map]
      have ad : ∀ s, fAdd (.int (ks.length : Int)) (.int 1) s = .ok (.int ((ks.length + 1 : Nat) : Int)) s := fun _ => rfl
      have gt : dCmp .Gt (.int ((wsS z).length : Int)) (.int ((ks.length + 1 : Nat) : Int)) = some (.bool (decide (ks.length + 1 < (wsS z).length))) := by
        rw [cmp_gt_i]; congr 2; rw [decide_eq_decide]; omega
      show finR st.length (endR ((sSeq (sIf (mTb (mCmp .Gt (mLen (mVar 1)) (mAdd (mLen (mVar 2)) (mC (.int 1))))) _ (sNil)) _) (erZ z (wsS z) ks none none none none) st)) = _
      by_cases c : ks.length + 1 < (wsS z).length
      · rw [if_pos c] at ev
        rw [decide_eq_true c] at gt
        rw [ev]
        have nf := noF (ks.length + 1)
        show _ = R.ok (noE (ks.length + 1)) st
        unfold noE at nf ⊢
        unfold erZ
        obtain ⟨L1, hL1⟩ : ∃ L1 : Int, L1 = ((ks.length + 1 : Nat) : Int) := ⟨_, rfl⟩
        rw [← hL1] at ad gt nf
        rw [show ((ks.length + 1 : Nat) : Int) = L1 from hL1.symm]
        generalize (PyData.list ((wsS z).map .str)) = WL at *
        generalize (PyData.list (ks.map fun k => .str (sortE k))) = KL at *
        simp -implicitDefEqProofs [-cmp_gt_i, ll, lk, ad, gt, mt]
      · rw [if_neg c] at ev
        rw [decide_eq_false c] at gt
        rw [ev]
        have el := elay _ ev
        have q2 : (sIf (mTb (mCmp .Gt (mLen (mVar 1)) (mAdd (mLen (mVar 2)) (mC (.int 1))))) (sRet (mTup (msCons (mC (.str "no")) (msCons (mAdd (mLen (mVar 2)) (mC (.int 1))) (msNil))))) (sNil)) (erZ z (wsS z) ks none none none none) st = .nx (erZ z (wsS z) ks none none none none) st := by
          unfold erZ
          generalize ((ks.length + 1 : Nat) : Int) = L1 at *
          generalize (PyData.list ((wsS z).map .str)) = WL at *
          generalize (PyData.list (ks.map fun k => .str (sortE k))) = KL at *
          simp -implicitDefEqProofs [-cmp_gt_i, ll, lk, ad, gt]
        have wl : 1 < (wsS z).length := by 
          rcases dw with dw | dw
          · rw [dw] at k2; simp at k2
          · omega
        have ix1 : ∀ S, fIx (.list ((wsS z).map .str)) (.int 1) S = .ok (.str ((wsS z).getD 1 "")) S := fun S => ws_ix (ws := wsS z) (i := 1) wl S
        have ml : ∀ x y s, mkLstM [x, y] s = .ok (Rf s.length) (s ++ [.lst [x, y]]) := fun x y s => by unfold mkLstM; rw [if_pos (sz_le (by simp))]
        have q3 : (sAsg (mLstM (msCons (mIx (mVar 1) (mC (.int 0))) (msCons (mIx (mVar 1) (mC (.int 1))) (msNil)))) (tgName 5)) (erZ z (wsS z) ks none none none none) st = .nx (erZ z (wsS z) ks none none (some (Rf st.length)) none) (st ++ [.lst [.str ((wsS z).getD 0 ""), .str ((wsS z).getD 1 "")]]) := by
          unfold erZ
          generalize (wsS z).getD 0 "" = w0 at *
          generalize (wsS z).getD 1 "" = w1 at *
          generalize (PyData.list ((wsS z).map .str)) = WL at *
          generalize (PyData.list (ks.map fun k => .str (sortE k))) = KL at *
          simp -implicitDefEqProofs [i0, ix1, ml]
        have lp2 := er2_loop (st := st) (ws := wsS z) z ks (fun j => ds.getD j .none) kin (List.range' 1 (ks.length - 1)) [.str ((wsS z).getD 0 ""), .str ((wsS z).getD 1 "")] (by simp; omega) fun j hj => by
          have hj' : 1 ≤ j ∧ j < ks.length := by simp at hj; omega
          obtain ⟨a1, a2⟩ := at_ j hj'.2
          rw [show 1 + j = j + 1 by omega] at a1 a2
          exact ⟨hj'.2, a2, _, a1⟩
        have rg : ∀ S, (mRng2 (mC (.int 1)) (mLen (mVar 2))) (erZ z (wsS z) ks none none (some (Rf st.length)) none) S = .ok ⟨(List.range' 1 (ks.length - 1)).map fun (k : Nat) => PyData.int (k : Int), always⟩ S := fun S => rng2_at (i := 1) (j := ks.length) rfl (by
          show (lift (dLen (deref S (.list (ks.map fun k => .str (sortE k))))) S : R Pv.D) = _
          rw [lk]; rfl) (by decide) (by omega)
        have wz2 : wipeD (erZ z (wsS z) ks none none (some (Rf st.length)) none) [3, 6] = erZ z (wsS z) ks none none (some (Rf st.length)) none := rfl
        have fnd : [PyData.str ((wsS z).getD 0 ""), .str ((wsS z).getD 1 "")] ++ (List.range' 1 (ks.length - 1)).map (fun j => ds.getD j .none) = .str ((wsS z).getD 0 "") :: ds := by
          obtain ⟨a1, a2⟩ := at_ 0 (by omega)
          rw [k0, pt_name] at a1
          have d0 : ds.getD 0 .none = .str ((wsS z).getD 1 "") := by
            split at a1
            · have := (Option.some.inj a1).symm; simpa using this
            · cases a1
          match ds, dl, d0 with
          | [], dl, _ => simp at dl; omega
          | a :: r, dl, d0 =>
            have d0 : a = .str ((wsS z).getD 1 "") := d0
            rw [← d0]
            have hr : r.length = ks.length - 1 := by simp at dl; omega
            rw [← hr]
            have : (List.range' 1 r.length).map (fun j => (a :: r).getD j .none) = r := by
              rw [List.range'_eq_map_range, List.map_map]
              refine List.ext_getElem (by simp) fun n h1 h2 => ?_
              simp [Nat.add_comm 1 n]
              rw [List.getElem?_eq_getElem h2]; rfl
            rw [this]; rfl
        rw [seqN q2 (seqN q3 rfl), e_seq, e_for, rg, th_ok, wz2, lp2, fnd]
        generalize hacc : PyData.str ((wsS z).getD 0 "") :: ds = acc at *
        have ft : fTuple (Rf st.length) (st ++ [.lst acc]) = .ok (.tuple acc) (st ++ [.lst acc]) := by
          show onD1 dTuple (Rf st.length) (st ++ [.lst acc]) = _
          unfold onD1
          rw [deref_last]
          rfl
        have fo : finR st.length (.ok (.tuple [.str "told", .tuple acc]) (st ++ [.lst acc])) = .ok (.tuple [.str "told", .tuple acc]) st := fin_app hS (told_lay el)
        show finR st.length (endR ((sRet _) (erZ z (wsS z) ks none none (some (Rf st.length)) none) (st ++ [.lst acc]))) = _
        unfold erZ
        generalize (PyData.list ((wsS z).map .str)) = WL at *
        generalize (PyData.list (ks.map fun k => .str (sortE k))) = KL at *
        simp -implicitDefEqProofs [ft, mt]
        exact fo
end
end Gstampahead_k76_events_written
set_option Elab.async false
set_option linter.all false
set_option maxRecDepth 100000
set_option maxHeartbeats 1000000
set_option pp.maxSteps 1500
namespace Gstampahead_k76_events_written
open PySem PySem.Spec Pv
open L2 hiding keyOf
open PyProof.Rows hiding St signs cutD pairD
section
variable {st : Sto}
theorem q_heardB (hs : StC st) (l f : Int) : sF__law_heard (.exc ("InvalidText", [("field", .int f), ("line", .int l)]) st) = .ok (.tuple [.str "text", .int l, .int f]) st := by
  unfold sF__law_heard saidR
  dsimp only
  rw [if_pos (by decide)]
  unfold handR b__law_heard
  have z : ∀ st : Sto, finR st.length (R.ok (.tuple [.str "text", .int l, .int f]) st) = .ok (.tuple [.str "text", .int l, .int f]) st := fun st => by unfold finR; simp
  simp -implicitDefEqProofs [okOnly, slE, exD, mkLst, mkLstM, isLst, fApp, isLstD, fCnt, cntD, mkTup, deref, sz_le, sz_lt, PyData.canLayAll0, PyData.canLay0, PyData.depthAll, PyData.depth, PyData.eqv, fIx, dlook, dIx, atI, ixN, dAddT, nmD, List.lookup_cons, startD, z, add_lls, nin_list]
theorem q_heardU (hs : StC st) (w : Str) (k : Int) : sF__law_heard (.exc ("NotUsable", [("at", .int k), ("word", .str w)]) st) = .ok (.tuple [.str "use", .str w, .int k]) st := by
  unfold sF__law_heard saidR
  dsimp only
  rw [if_pos (by decide)]
  unfold handR b__law_heard
  have z : ∀ st : Sto, finR st.length (R.ok (.tuple [.str "use", .str w, .int k]) st) = .ok (.tuple [.str "use", .str w, .int k]) st := fun st => by unfold finR; simp
  simp -implicitDefEqProofs [okOnly, slE, exD, mkLst, mkLstM, isLst, fApp, isLstD, fCnt, cntD, mkTup, deref, sz_le, sz_lt, PyData.canLayAll0, PyData.canLay0, PyData.depthAll, PyData.depth, PyData.eqv, fIx, dlook, dIx, atI, ixN, dAddT, nmD, List.lookup_cons, startD, z, add_lls, nin_list]
theorem q_heardT (d : Pv.D) : sF__law_heard (.ok d st) = .ok (.tuple [.str "told", d]) st := rfl
theorem intT_lt {z : Str} {i : Int} (h : intT z = some i) : i.natAbs < 10 ^ 60 := by
  unfold intT at h
  split at h
  · cases hn : numT (cutS z (some 1) none) with
    | none => rw [hn] at h; cases h
    | some n =>
      rw [hn] at h
      cases n with
      | zero => cases h
      | succ n =>
        cases h
        have := numT_lt hn
        omega
  · cases hn : numT z with
    | none => rw [hn] at h; cases h
    | some n =>
      rw [hn] at h
      cases h
      have := numT_lt hn
      omega
theorem part_ok {w k p : Str} (hw : (PyData.str w).canLay0 = true) (hk : k ∈ kindE) {d : Pv.D} (h : partT w k p = some d) : Ok d 84 0 := by
  have nm : isName (.str w) = true → Ok (.str w) 84 0 := fun h => bd_strL hw (by
    unfold isName at h
    simp only [Bool.and_eq_true, decide_eq_true_eq] at h
    exact h.2.1)
  have nn : ∀ {d : Pv.D}, ((numT w).map fun (n : Nat) => PyData.int (n : Int)) = some d → Ok d 84 0 := fun {d} h => by
    cases hn : numT w with
    | none => rw [hn] at h; cases h
    | some n => rw [hn] at h; cases h; exact int60 (numT_lt hn)
  simp only [kindE, List.mem_cons, List.not_mem_nil, or_false] at hk
  rcases hk with rfl | rfl | rfl | rfl | rfl
  · rw [pt_name] at h
    split at h
    · rename_i c; cases h; exact nm c
    · cases h
  · rw [pt_other] at h
    split at h
    · rename_i c; cases h; exact nm (Bool.and_eq_true_iff.mp c).1
    · cases h
  · rw [pt_int] at h
    cases hi : intT w with
    | none => rw [hi] at h; cases h
    | some i =>
      rw [hi] at h; cases h
      exact (Bd.int (b := 10 ^ 60) (k := 0) (Nat.le_of_lt (intT_lt hi)) (by decide)).ok.mono (by decide) (Nat.le_refl _)
  · rw [pt_num] at h; exact nn h
  · rw [pt_let] at h
    split at h
    · cases h; exact ⟨rfl, by decide, Nat.zero_le _⟩
    · exact nn h
theorem goE_ok {ws : List Str} (hw : ∀ w ∈ ws, (PyData.str w).canLay0 = true) : ∀ {ks : List Str} {i : Nat}, (∀ k ∈ ks, k ∈ kindE) →
    match goE ws i ks with | .inl j => j < i + ks.length | .inr ds => ∀ d ∈ ds, Ok d 84 0
  | [], i, _ => by show ∀ d ∈ ([] : List Pv.D), _; exact fun d hd => nomatch hd
  | k :: ks, i, hk => by
    have ih := goE_ok hw (ks := ks) (i := i + 1) fun k hk' => hk k (List.mem_cons_of_mem _ hk')
    unfold goE
    cases hp : (if i < ws.length then partT (ws.getD i "") k (ws.getD (i - 1) "") else none) with
    | none => show i < i + (k :: ks).length; rw [List.length_cons]; omega
    | some d =>
      have hlt : i < ws.length := by
        by_cases c : i < ws.length
        · exact c
        · rw [if_neg c] at hp; cases hp
      rw [if_pos hlt] at hp
      have dk := part_ok (hw _ (by rw [List.getD_eq_getElem?_getD, List.getElem?_eq_getElem hlt]; exact List.getElem_mem _)) (hk k List.mem_cons_self) hp
      simp only
      cases hg : goE ws (i + 1) ks with
      | inl j => rw [hg] at ih; show j < i + (k :: ks).length; rw [List.length_cons]; have : j < i + 1 + ks.length := ih; omega
      | inr es =>
        rw [hg] at ih
        show ∀ e ∈ d :: es, Ok e 84 0
        intro e he
        rcases List.mem_cons.mp he with rfl | he
        · exact dk
        · exact ih e he
theorem kindsE_len {w : Str} {ks : List Str} (h : kindsE w = some ks) : w.length ≤ 5 := by
  have c : ∀ x ∈ ([Str.ofString "tell", Str.ofString "clock", Str.ofString "road", Str.ofString "cut"] : List Str), x.length ≤ 5 := by decide +kernel
  refine c w ?_
  unfold kindsE at h
  split at h
  · rename_i e; rw [show w = Str.ofString "tell" by simpa using e]; simp
  · split at h
    · rename_i e; rw [show w = Str.ofString "clock" by simpa using e]; simp
    · split at h
      · rename_i e; rw [show w = Str.ofString "road" by simpa using e]; simp
      · split at h
        · rename_i e; rw [show w = Str.ofString "cut" by simpa using e]; simp
        · cases h
theorem ev_ok {z : Str} (hz : TxOk z) : match evT z with | .inl j => j ≤ 5 | .inr d => Ok d 500 1 := by
  obtain ⟨wo, w1⟩ := ws_ok hz
  have hw : ∀ w ∈ wsS z, (PyData.str w).canLay0 = true := fun w h => (wo.ok w h).1.lay
  unfold evT
  cases hk : kindsE ((wsS z).getD 0 "") with
  | none => show 0 ≤ 5; decide
  | some ks =>
    obtain ⟨kin, k2, k4⟩ := kindsE_in hk
    have g := goE_ok hw (ks := ks) (i := 1) kin
    simp only
    cases hg : goE (wsS z) 1 ks with
    | inl j => rw [hg] at g; show j ≤ 5; have : j < 1 + ks.length := g; omega
    | inr ds =>
      rw [hg] at g
      obtain ⟨dl, _⟩ := goE_len hg
      simp only
      by_cases c : ks.length + 1 < (wsS z).length
      · rw [if_pos c]; show ks.length + 1 ≤ 5; omega
      · rw [if_neg c]
        show Ok (.tuple (.str ((wsS z).getD 0 "") :: ds)) 500 1
        have lay0 := hw ((wsS z).getD 0 "") (by rw [List.getD_eq_getElem?_getD, List.getElem?_eq_getElem (show 0 < (wsS z).length by omega)]; exact List.getElem_mem _)
        refine (Ok.tup (m := 84) (k := 0) (c := 5) (fun d hd => ?_) (by rw [List.length_cons]; omega)).mono (by decide) (Nat.le_refl _)
        rcases List.mem_cons.mp hd with rfl | hd
        · exact bd_strL lay0 (Nat.le_trans (kindsE_len hk) (by decide))
        · exact g d hd
def dueE : Sum Nat Pv.D → Pv.D
  | .inl j => .tuple [.str "text", .int 0, .int (j : Int)]
  | .inr d => .tuple [.str "told", d]
theorem due_ok {z : Str} (hz : TxOk z) : Ok (dueE (evT z)) 4000 2 := by
  have e := ev_ok hz
  cases h : evT z with
  | inl j =>
    rw [h] at e
    have e : j ≤ 5 := e
    refine (Ok.tup (m := 84) (k := 0) (c := 3) (ds := [.str "text", .int 0, .int (j : Int)]) (fun d hd => ?_) (by simp)).mono (by decide) (by decide)
    simp only [List.mem_cons, List.not_mem_nil, or_false] at hd
    rcases hd with rfl | rfl | rfl
    · exact bd_strL (by kernel_rfl) (by decide +kernel)
    · exact int60 (n := 0) (by decide)
    · exact int60 (n := j) (Nat.lt_of_le_of_lt e (by decide))
  | inr d =>
    rw [h] at e
    have e : Ok d 500 1 := e
    exact (Ok.tup2 (a := .str "told") (b := d) (w := 84) (x := 500) (k := 1) ((bd_strL (by kernel_rfl) (by decide +kernel)).mono (Nat.le_refl _) (by decide)) e).mono (by decide) (by decide)
theorem q_read_right (tb : Nat → Addr) (hs : StC st) (ht : tbOk st (tb 0) "_law_is_read_right.<locals>.<lambda>" = true) {z : Str} (hz : TxOk z) :
    F__law_is_read_right tb [.str z] st = .ok (.bool true) st := by
  have lay := ev_lay hz
  have said : ∀ (s : Sto), StC s → okOnly (sF__law_heard (F_read_event [.str z] s)) = .ok (dueE (evT z)) s := fun s h => by
    rw [q_read_event h hz lay]
    cases evT z with
    | inl j => exact congrArg okOnly (q_heardB h _ _)
    | inr d => rw [q_heardT]; rfl
  have rd := q_event_read hs hz
  have o := due_ok hz
  have mt : ∀ a b c s, mkTup [a, b, c] s = .ok (.tuple [a, b, c]) s := fun _ _ _ _ => if_pos (sz_le (show 3 ≤ 1000 by decide))
  have c1 : dCmp .Eq (.str "told") (.str "told") = some (.bool true) := by kernel_rfl
  have c2 : dCmp .Eq (.str "no") (.str "told") = some (.bool false) := by kernel_rfl
  have x0 : ∀ (a b : Pv.D) S, fIx (.tuple [a, b]) (.int 0) S = .ok a S := fun a b S => ix_t (j := 0) rfl
  have x1 : ∀ (a b : Pv.D) S, fIx (.tuple [a, b]) (.int 1) S = .ok b S := fun a b S => ix_t (j := 1) rfl
  have p1 : (sAsg (mCall F__law_event_read (msCons (mVar 0) (msNil))) (tgName 1)) [some (.str z), none, none] st = .nx [some (.str z), some (rdE (evT z)), none] st := by
    generalize rdE (evT z) = R at *
    simp -implicitDefEqProofs [rd]
  have p2 : (sAsg (mIf (mTb (mCmp .Eq (mIx (mVar 1) (mC (.int 0))) (mC (.str "told")))) (mVar 1) (mTup (msCons (mC (.str "text")) (msCons (mC (.int 0)) (msCons (mIx (mVar 1) (mC (.int 1))) (msNil)))))) (tgName 1)) [some (.str z), some (rdE (evT z)), none] st = .nx [some (.str z), some (dueE (evT z)), none] st := by
    cases evT z with
    | inl j => unfold rdE noE dueE; simp -implicitDefEqProofs [x0, x1, c2, mt]
    | inr d => unfold rdE dueE; simp -implicitDefEqProofs [x0, c1]
  obtain ⟨x, ex⟩ : ∃ x, x = dueE (evT z) := ⟨_, rfl⟩
  rw [← ex] at said o p2
  have ly : ∀ ds : List Pv.D, (∀ d ∈ ds, Ok d 4000 2) → PyData.canLayAll0 ds = true := fun ds h => (layAll_iff _).mpr fun d hd => (h d hd).lay
  have s1 : StC (st ++ [.lst [x]]) := hs.lst (ly _ (by simp [o]))
  have ts : tbOk (st ++ [.lst [x]]) (tb 0) "_law_is_read_right.<locals>.<lambda>" = true := by rw [tbOk_app rfl]; exact ht
  have ml : ∀ s, mkLstM [x] s = .ok (Rf s.length) (s ++ [.lst [x]]) := fun s => by unfold mkLstM; rw [if_pos (sz_le (by simp))]
  have ml2 : ∀ s, mkLst [x, x] s = .ok (.list [x, x]) s := fun s => by unfold mkLst; rw [if_pos (sz_le (by simp))]
  have il := fun xs => isLst_last st xs
  have ap : fApp (Rf st.length) x (st ++ [.lst [x]]) = .ok .none (st ++ [.lst [x, x]]) := app_last st [x] x (by simp)
  have o5 : Ok (.list [x, x]) (2 ^ 24) 7 := (Ok.lst (m := 4000) (k := 2) (c := 2) (by simp [o]) (by simp)).mono (by decide) (by decide)
  obtain ⟨zz, hzz⟩ : ∃ zz : Str, ∀ S, reprD S (.list [x, x]) = some (.str zz) := ⟨_, fun S => repr_ok o5 (by decide) (by decide) S⟩
  have rl : reprD (st ++ [.lst [x, x]]) (Rf st.length) = some (.str zz) := by rw [repr_last, hzz]
  have r0 : ∀ a : Pv.D, perm [0] [a] = [a] := fun _ => rfl
  have cz : dCmp .Eq (.str zz) (.str zz) = some (.bool true) := by rw [cmp_s]; simp
  have fin := fin_app (more := [.lst [x, x]]) (d := .bool true) hs rfl
  unfold F__law_is_read_right b__law_is_read_right
  rw [fnP_e, show startD 3 [.str z] = [some (.str z), none, none] from rfl, seqN p1 (seqN p2 rfl)]
  simp -implicitDefEqProofs [ht, said _ hs, ml, il, r0, ts, said _ s1, ap, ml2, rl, hzz, cz]
  exact fin
end
end Gstampahead_k76_events_written
set_option Elab.async false
set_option linter.all false
set_option maxRecDepth 100000
set_option maxHeartbeats 1000000
set_option pp.maxSteps 1500
namespace Gstampahead_k76_events_written
open PySem PySem.Spec Pv
open L2 hiding keyOf
open PyProof.Rows hiding St signs cutD pairD
section
variable {st : Sto}
def num9 : List Int := [0, 1, 2, 9, 10, 60, 100, 10 ^ 59, 10 ^ 60 - 1]
def int13 : List Int := num9 ++ [-1, -10, -10 ^ 59, 1 - 10 ^ 60]
theorem int_ok : ∀ m ∈ int13, intT (tS m) = some m ∧ (tS m).length ≤ 61 ∧ (PyData.str (tS m)).canLay0 = true ∧ m.natAbs < 10 ^ 61 ∧ 32 ∉ TL.tl (tS m) := by
  intro m hm
  simp only [int13, num9, List.cons_append, List.nil_append, List.mem_cons, List.not_mem_nil, or_false] at hm
  rcases hm with rfl | rfl | rfl | rfl | rfl | rfl | rfl | rfl | rfl | rfl | rfl | rfl | rfl
  all_goals exact ⟨by decide +kernel, by decide +kernel, by decide +kernel, by decide +kernel, by decide +kernel⟩
theorem num_ok : ∀ m ∈ num9, numB m := by
  intro m hm
  simp only [num9, List.mem_cons, List.not_mem_nil, or_false] at hm
  rcases hm with rfl | rfl | rfl | rfl | rfl | rfl | rfl | rfl | rfl
  all_goals exact ⟨by decide, by decide +kernel⟩
inductive Deed where
  | tell (n : Str) (a b : Int) (l : Option Int)
  | clock (n : Str) (a b : Int)
  | road (n m : Str) (a : Int)
  | cut (n m : Str)
def letS : Option Int → Str
  | none => "-"
  | some k => tS k
def pairs : Deed → List (Pv.D × Str)
  | .tell n a b l => [(.str "tell", "tell"), (.str n, n), (.int a, tS a), (.int b, tS b), (dOpt l, letS l)]
  | .clock n a b => [(.str "clock", "clock"), (.str n, n), (.int a, tS a), (.int b, tS b)]
  | .road n m a => [(.str "road", "road"), (.str n, n), (.str m, m), (.int a, tS a)]
  | .cut n m => [(.str "cut", "cut"), (.str n, n), (.str m, m)]
def dDeed (d : Deed) : Pv.D := .tuple ((pairs d).map (·.1))
def wordsD (d : Deed) : List Str := (pairs d).map (·.2)
def lineE (d : Deed) : Str := Txt.join " " (wordsD d)
def DeedOk : Deed → Prop
  | .tell n a b l => nameB n = true ∧ a ∈ int13 ∧ b ∈ int13 ∧ ∀ k, l = some k → k ∈ num9
  | .clock n a b => nameB n = true ∧ a ∈ num9 ∧ b ∈ num9
  | .road n m a => nameB n = true ∧ nameB m = true ∧ n ≠ m ∧ a ∈ num9
  | .cut n m => nameB n = true ∧ nameB m = true ∧ n ≠ m
def EW (p : Pv.D × Str) : Prop := (p.1 = .none ∧ p.2 = Str.ofString "-") ∨ p.1 = .str p.2 ∨ ∃ i : Int, p.1 = .int i ∧ i.natAbs < 10 ^ 62 ∧ p.2 = tS i
theorem num_int13 {m : Int} (h : m ∈ num9) : m ∈ int13 := List.mem_append_left _ h
theorem ew_int {m : Int} (h : m ∈ int13) : EW (.int m, tS m) := .inr (.inr ⟨m, rfl, Nat.lt_trans (int_ok m h).2.2.2.1 (by decide), rfl⟩)
theorem ew_let {l : Option Int} (h : ∀ k, l = some k → k ∈ num9) : EW (dOpt l, letS l) := by
  cases l with
  | none => exact .inl ⟨rfl, rfl⟩
  | some k => exact ew_int (num_int13 (h k rfl))
theorem ew_all {d : Deed} (h : DeedOk d) : ∀ p ∈ pairs d, EW p := by
  intro p hp
  cases d with
  | tell n a b l =>
    simp only [pairs, List.mem_cons, List.not_mem_nil, or_false] at hp
    rcases hp with rfl | rfl | rfl | rfl | rfl
    · exact .inr (.inl rfl)
    · exact .inr (.inl rfl)
    · exact ew_int h.2.1
    · exact ew_int h.2.2.1
    · exact ew_let h.2.2.2
  | clock n a b =>
    simp only [pairs, List.mem_cons, List.not_mem_nil, or_false] at hp
    rcases hp with rfl | rfl | rfl | rfl
    · exact .inr (.inl rfl)
    · exact .inr (.inl rfl)
    · exact ew_int (num_int13 h.2.1)
    · exact ew_int (num_int13 h.2.2)
  | road n m a =>
    simp only [pairs, List.mem_cons, List.not_mem_nil, or_false] at hp
    rcases hp with rfl | rfl | rfl | rfl
    · exact .inr (.inl rfl)
    · exact .inr (.inl rfl)
    · exact .inr (.inl rfl)
    · exact ew_int (num_int13 h.2.2.2)
  | cut n m =>
    simp only [pairs, List.mem_cons, List.not_mem_nil, or_false] at hp
    rcases hp with rfl | rfl | rfl
    · exact .inr (.inl rfl)
    · exact .inr (.inl rfl)
    · exact .inr (.inl rfl)
theorem heads_ok : ∀ w ∈ ([Str.ofString "tell", Str.ofString "clock", Str.ofString "road", Str.ofString "cut", Str.ofString "-"] : List Str), SOk 61 w ∧ 32 ∉ TL.tl w := by
  intro w hw
  simp only [List.mem_cons, List.not_mem_nil, or_false] at hw
  rcases hw with rfl | rfl | rfl | rfl | rfl
  all_goals exact ⟨⟨by kernel_rfl, by decide +kernel⟩, by decide +kernel⟩
theorem word_ok {d : Deed} (h : DeedOk d) : ∀ w ∈ wordsD d, SOk 61 w ∧ 32 ∉ TL.tl w := by
  have nm : ∀ {n : Str}, nameB n = true → SOk 61 n ∧ 32 ∉ TL.tl n := fun h => ⟨(nameS h).mono (by decide), free_name h (by decide)⟩
  have ni : ∀ {m : Int}, m ∈ int13 → SOk 61 (tS m) ∧ 32 ∉ TL.tl (tS m) := fun h => ⟨⟨(int_ok _ h).2.2.1, (int_ok _ h).2.1⟩, (int_ok _ h).2.2.2.2⟩
  intro w hw
  cases d with
  | tell n a b l =>
    simp only [wordsD, pairs, List.map_cons, List.map_nil, List.mem_cons, List.not_mem_nil, or_false] at hw
    rcases hw with rfl | rfl | rfl | rfl | rfl
    · exact heads_ok _ (by simp)
    · exact nm h.1
    · exact ni h.2.1
    · exact ni h.2.2.1
    · cases l with
      | none => exact heads_ok (Str.ofString "-") (by simp)
      | some k => exact ni (num_int13 (h.2.2.2 k rfl))
  | clock n a b =>
    simp only [wordsD, pairs, List.map_cons, List.map_nil, List.mem_cons, List.not_mem_nil, or_false] at hw
    rcases hw with rfl | rfl | rfl | rfl
    · exact heads_ok _ (by simp)
    · exact nm h.1
    · exact ni (num_int13 h.2.1)
    · exact ni (num_int13 h.2.2)
  | road n m a =>
    simp only [wordsD, pairs, List.map_cons, List.map_nil, List.mem_cons, List.not_mem_nil, or_false] at hw
    rcases hw with rfl | rfl | rfl | rfl
    · exact heads_ok _ (by simp)
    · exact nm h.1
    · exact nm h.2.1
    · exact ni (num_int13 h.2.2.2)
  | cut n m =>
    simp only [wordsD, pairs, List.map_cons, List.map_nil, List.mem_cons, List.not_mem_nil, or_false] at hw
    rcases hw with rfl | rfl | rfl
    · exact heads_ok _ (by simp)
    · exact nm h.1
    · exact nm h.2.1
theorem words_len (d : Deed) : (pairs d).length ≤ 5 ∧ wordsD d ≠ [] := by cases d <;> simp [pairs, wordsD]
theorem line_ls {d : Deed} (h : DeedOk d) : LsOk 310 (wordsD d) := by
  have := LsOk.all fun w hw => (word_ok h w hw).1
  refine this.mono ?_
  have := (words_len d).1
  unfold wordsD
  rw [List.length_map]
  omega
theorem line_ok {d : Deed} (h : DeedOk d) : SOk 310 (lineE d) := (line_ls h).join w_blank.2 w_blank.1
theorem line_ws {d : Deed} (h : DeedOk d) : wsS (lineE d) = wordsD d := split_sp (words_len d).2 fun w hw => (word_ok h w hw).2
theorem lc_words {d : Deed} (h : DeedOk d) (S : Sto) : mLc (mIter (mVar 0)) (.nm 1) (tYesM) (mIf (mTb (mIsN (mVar 1))) (mC (.str "-")) (mStrA (mVar 1))) [1] [some (dDeed d), none] S = .ok (.list ((wordsD d).map .str)) S := by
  have e : (wordsD d).map PyData.str = (pairs d).map fun p => PyData.str p.2 := by unfold wordsD; rw [List.map_map]; rfl
  rw [e]
  refine mLc_atB (keep := always) (pairs d) (·.1) _ (by unfold dDeed; simp) trivial (by have := (words_len d).1; omega) fun p hp => ⟨_, rfl, ?_⟩
  have dr : ∀ (i : Int) S, deref S (.int i) = .int i := fun _ _ => rfl
  have ds : ∀ (i : Str) S, deref S (.str i) = .str i := fun _ _ => rfl
  rcases ew_all h p hp with ⟨h1, h2⟩ | h1 | ⟨i, h1, h2, h3⟩
  · rw [h1, h2]; simp -implicitDefEqProofs [wipeD, isNone]
  · rw [h1]
    have s1 : dStrA (.str p.2) = some (.str p.2) := rfl
    simp -implicitDefEqProofs [wipeD, isNone, ds, s1]
  · rw [h1, h3]
    have s1 : dStrA (.int i) = some (.str (tS i)) := by show (if i.natAbs < 10 ^ 62 then _ else _) = _; rw [if_pos h2]; rfl
    simp -implicitDefEqProofs [wipeD, isNone, dr, s1]
theorem q_line {d : Deed} (h : DeedOk d) : F__law_line [dDeed d] st = .ok (.str (lineE d)) st := by
  have lc := lc_words h st
  have jn : ∀ S, fJoin " " (.list ((wordsD d).map .str)) S = .ok (.str (lineE d)) S := fun S => fJoin_ok (line_ls h) (by decide) w_blank.2 S
  unfold F__law_line b__law_line
  rw [fnP_e, show startD 2 [dDeed d] = [some (dDeed d), none] from rfl]
  generalize dDeed d = N at *
  generalize PyData.list ((wordsD d).map PyData.str) = L at *
  simp -implicitDefEqProofs [lc, jn]
theorem q_live {d : Deed} (h : DeedOk d) : F_is_live_event [dDeed d] st = .ok (.bool true) st := by
  have nm : ∀ {n : Str}, nameB n = true → ∀ S, F_is_name [.str n] S = .ok (.bool true) S := fun {n} h S => by
    rw [q_name (bd_strL (name_lay h).1 (name_lay h).2 |>.mono (by decide) (by decide)), name_is h]
  have ci : ∀ {m : Int}, m ∈ int13 → Cl (.int m) := fun {m} h => cl_int (Nat.lt_trans (int_ok m h).2.2.2.1 (by decide))
  have qi : ∀ {m : Int}, m ∈ int13 → ∀ S, F_is_integer [.int m] S = .ok (.bool true) S := fun {m} h S => q_int (ci h)
  have qn : ∀ {m : Int}, m ∈ num9 → ∀ S, F_is_number [.int m] S = .ok (.bool true) S := fun {m} h S => by
    rw [q_num (ci (num_int13 h)), show isNum (.int m) = true from decide_eq_true (num_ok m h).1]
  have two : ∀ {n m : Str}, nameB n = true → nameB m = true → n ≠ m → ∀ S, F_are_two [.str n, .str m] S = .ok (.bool true) S := fun {n m} h1 h2 h3 S => by
    have a := nm h1 S
    have b := nm h2 S
    have c : dCmp .NotEq (.str n) (.str m) = some (.bool true) := by rw [cmp_sn, show (n == m) = false by simpa using h3]; rfl
    unfold F_are_two b_are_two
    rw [fnP_e]
    simp -implicitDefEqProofs [startD, a, b, c]
  have x0 : ∀ (a : Pv.D) (l : List Pv.D) S, fIx (.tuple (a :: l)) (.int 0) S = .ok a S := fun a l S => ix_t (j := 0) rfl
  have x1 : ∀ (a b : Pv.D) (l : List Pv.D) S, fIx (.tuple (a :: b :: l)) (.int 1) S = .ok b S := fun a b l S => ix_t (j := 1) rfl
  have x2 : ∀ (a b c : Pv.D) (l : List Pv.D) S, fIx (.tuple (a :: b :: c :: l)) (.int 2) S = .ok c S := fun a b c l S => ix_t (j := 2) rfl
  have ln : ∀ (l : List Pv.D) S, dLen (deref S (.tuple l)) = some (.int (l.length : Int)) := fun _ _ => rfl
  have s2 : ∀ (sl : Sl) (d e : Pv.D) s, set2 1 2 sl [d, e] s = .nx ((sl.set 1 (some d)).set 2 (some e)) s := fun _ _ _ _ => rfl
  have cut5 : ∀ (a b c d e : Pv.D) S, fSl (some 1) none (.tuple [a, b, c, d, e]) S = .ok (.tuple [b, c, d, e]) S := fun _ _ _ _ _ _ => rfl
  have cut4 : ∀ (a b c d : Pv.D) S, fSl (some 1) none (.tuple [a, b, c, d]) S = .ok (.tuple [b, c, d]) S := fun _ _ _ _ _ => rfl
  have h11 : dCmp .Eq (.str "tell") (.str "tell") = some (.bool true) := by kernel_rfl
  have h21 : dCmp .Eq (.str "clock") (.str "tell") = some (.bool false) := by kernel_rfl
  have h22 : dCmp .Eq (.str "clock") (.str "clock") = some (.bool true) := by kernel_rfl
  have h31 : dCmp .Eq (.str "road") (.str "tell") = some (.bool false) := by kernel_rfl
  have h32 : dCmp .Eq (.str "road") (.str "clock") = some (.bool false) := by kernel_rfl
  have h33 : dCmp .Eq (.str "road") (.str "road") = some (.bool true) := by kernel_rfl
  have h41 : dCmp .Eq (.str "cut") (.str "tell") = some (.bool false) := by kernel_rfl
  have h42 : dCmp .Eq (.str "cut") (.str "clock") = some (.bool false) := by kernel_rfl
  have h43 : dCmp .Eq (.str "cut") (.str "road") = some (.bool false) := by kernel_rfl
  have h44 : dCmp .Eq (.str "cut") (.str "cut") = some (.bool true) := by kernel_rfl
  cases d with
  | tell n a b l =>
    obtain ⟨g1, g2, g3, g4⟩ := h
    have lt : ∀ S, F_is_letter [dOpt l] S = .ok (.bool true) S := fun S => by
      unfold F_is_letter b_is_letter
      rw [fnP_e]
      cases l with
      | none => simp -implicitDefEqProofs [startD, dOpt, isNone]
      | some k =>
        have := qn (g4 k rfl)
        simp -implicitDefEqProofs [startD, dOpt, isNone, this]
    have e1 := nm g1
    have e2 := qi g2
    have e3 := qi g3
    have td : ∀ S, F_is_told [.tuple [.str n, .int a, .int b, dOpt l]] S = .ok (.bool true) S := fun S => by
      have tg : ∀ S, tgTup 4 (tgCons (tgName 1) (tgCons (tgName 2) (tgCons (tgName 3) (tgCons (tgName 4) tgNil)))) (.tuple [.str n, .int a, .int b, dOpt l]) [some (.tuple [.str n, .int a, .int b, dOpt l]), none, none, none, none] S = .ok [some (.tuple [.str n, .int a, .int b, dOpt l]), some (.str n), some (.int a), some (.int b), some (dOpt l)] S := fun S => rfl
      generalize dOpt l = L at *
      unfold F_is_told b_is_told
      rw [fnP_e, show startD 5 [.tuple [.str n, .int a, .int b, L]] = [some (.tuple [.str n, .int a, .int b, L]), none, none, none, none] from rfl]
      simp -implicitDefEqProofs [tg, e1, e2, e3, lt]
    show F_is_live_event [.tuple [.str "tell", .str n, .int a, .int b, dOpt l]] st = _
    generalize dOpt l = L at *
    unfold F_is_live_event b_is_live_event
    rw [fnP_e]
    simp -implicitDefEqProofs [startD, tyD, Ty.sub, ln, x0, s2, h11, cut5, td]
  | clock n a b =>
    obtain ⟨g1, g2, g3⟩ := h
    have e1 := nm g1
    have e2 := qn g2
    have e3 := qn g3
    have td : ∀ S, F_is_clocked [.tuple [.str n, .int a, .int b]] S = .ok (.bool true) S := fun S => by
      have tg : ∀ S, tgTup 3 (tgCons (tgName 1) (tgCons (tgName 2) (tgCons (tgName 3) tgNil))) (.tuple [.str n, .int a, .int b]) [some (.tuple [.str n, .int a, .int b]), none, none, none] S = .ok [some (.tuple [.str n, .int a, .int b]), some (.str n), some (.int a), some (.int b)] S := fun S => rfl
      unfold F_is_clocked b_is_clocked
      rw [fnP_e, show startD 4 [.tuple [.str n, .int a, .int b]] = [some (.tuple [.str n, .int a, .int b]), none, none, none] from rfl]
      simp -implicitDefEqProofs [tg, e1, e2, e3]
    show F_is_live_event [.tuple [.str "clock", .str n, .int a, .int b]] st = _
    unfold F_is_live_event b_is_live_event
    rw [fnP_e]
    simp -implicitDefEqProofs [startD, tyD, Ty.sub, ln, x0, s2, h21, h22, cut4, td]
  | road n m a =>
    obtain ⟨g1, g2, g3, g4⟩ := h
    have e1 := two g1 g2 g3
    have e3 := qn g4
    have td : ∀ S, F_is_led [.tuple [.str n, .str m, .int a]] S = .ok (.bool true) S := fun S => by
      have tg : ∀ S, tgTup 3 (tgCons (tgName 1) (tgCons (tgName 2) (tgCons (tgName 3) tgNil))) (.tuple [.str n, .str m, .int a]) [some (.tuple [.str n, .str m, .int a]), none, none, none] S = .ok [some (.tuple [.str n, .str m, .int a]), some (.str n), some (.str m), some (.int a)] S := fun S => rfl
      unfold F_is_led b_is_led
      rw [fnP_e, show startD 4 [.tuple [.str n, .str m, .int a]] = [some (.tuple [.str n, .str m, .int a]), none, none, none] from rfl]
      simp -implicitDefEqProofs [tg, e1, e3]
    show F_is_live_event [.tuple [.str "road", .str n, .str m, .int a]] st = _
    unfold F_is_live_event b_is_live_event
    rw [fnP_e]
    simp -implicitDefEqProofs [startD, tyD, Ty.sub, ln, x0, s2, h31, h32, h33, cut4, td]
  | cut n m =>
    obtain ⟨g1, g2, g3⟩ := h
    have e1 := two g1 g2 g3
    show F_is_live_event [.tuple [.str "cut", .str n, .str m]] st = _
    unfold F_is_live_event b_is_live_event
    rw [fnP_e]
    simp -implicitDefEqProofs [startD, tyD, Ty.sub, ln, x0, x1, x2, s2, h41, h42, h43, h44, e1]
theorem q_eline {d : Deed} (h : DeedOk d) : F_event_line [dDeed d] st = .ok (.str (lineE d)) st := by
  have lc := lc_words h
  have lv := q_live (st := st) h
  have wt := want_t "event" st
  have jn : ∀ S, fJoin " " (.list ((wordsD d).map .str)) S = .ok (.str (lineE d)) S := fun S => fJoin_ok (line_ls h) (by decide) w_blank.2 S
  unfold F_event_line b_event_line
  rw [fnP_e, show startD 2 [dDeed d] = [some (dDeed d), none] from rfl]
  generalize dDeed d = N at *
  generalize PyData.list ((wordsD d).map PyData.str) = L at *
  simp -implicitDefEqProofs [lv, wt, lc, jn]
theorem goE_step {ws : List Str} {i : Nat} {k : Str} {ks : List Str} {d : Pv.D} {ds : List Pv.D} (h : i < ws.length) (hp : partT (ws.getD i "") k (ws.getD (i - 1) "") = some d) (hg : goE ws (i + 1) ks = .inr ds) : goE ws i (k :: ks) = .inr (d :: ds) := by
  unfold goE
  rw [if_pos h, hp]
  simp only [hg]
theorem pt_n {n : Str} (h : nameB n = true) (p : Str) : partT n (Str.ofString "name") p = some (.str n) := by rw [pt_name, if_pos (name_is h)]
theorem pt_i {m : Int} (h : m ∈ int13) (p : Str) : partT (tS m) (Str.ofString "integer") p = some (.int m) := by rw [pt_int, (int_ok m h).1]; rfl
theorem pt_k {m : Int} (h : m ∈ num9) (p : Str) : partT (tS m) (Str.ofString "number") p = some (.int m) := by
  rw [pt_num, numT_back (num_ok m h)]
  show some (PyData.int ((m.natAbs : Nat) : Int)) = _
  rw [show ((m.natAbs : Nat) : Int) = m by have := (num_ok m h).1; omega]
theorem pt_l {l : Option Int} (h : ∀ k, l = some k → k ∈ num9) (p : Str) : partT (letS l) (Str.ofString "letter") p = some (dOpt l) := by
  rw [pt_let]
  cases l with
  | none => rfl
  | some k =>
    show (if (tS k == Str.ofString "-") = true then _ else (numT (tS k)).map fun (n : Nat) => PyData.int (n : Int)) = _
    have e := numT_back (num_ok k (h k rfl))
    rw [if_neg (fun q => by rw [(dash_no q).1] at e; cases e), e]
    show some (PyData.int ((k.natAbs : Nat) : Int)) = some (.int k)
    rw [show ((k.natAbs : Nat) : Int) = k by have := (num_ok k (h k rfl)).1; omega]
theorem ev_back {d : Deed} (h : DeedOk d) : evT (lineE d) = .inr (dDeed d) := by
  unfold evT
  rw [line_ws h]
  have nil : ∀ (ws : List Str) (i : Nat), goE ws i [] = .inr [] := fun _ _ => rfl
  cases d with
  | tell n a b l =>
    obtain ⟨g1, g2, g3, g4⟩ := h
    have k : kindsE ((wordsD (.tell n a b l)).getD 0 "") = some [Str.ofString "name", Str.ofString "integer", Str.ofString "integer", Str.ofString "letter"] := by kernel_rfl
    have g : goE (wordsD (.tell n a b l)) 1 [Str.ofString "name", Str.ofString "integer", Str.ofString "integer", Str.ofString "letter"] = .inr [.str n, .int a, .int b, dOpt l] :=
      goE_step (show 1 < 5 by decide) (pt_n g1 _) (goE_step (show 2 < 5 by decide) (pt_i g2 _) (goE_step (show 3 < 5 by decide) (pt_i g3 _) (goE_step (show 4 < 5 by decide) (pt_l g4 _) (nil _ _))))
    rw [k]
    simp only [g]
    rfl
  | clock n a b =>
    obtain ⟨g1, g2, g3⟩ := h
    have k : kindsE ((wordsD (.clock n a b)).getD 0 "") = some [Str.ofString "name", Str.ofString "number", Str.ofString "number"] := by kernel_rfl
    have g : goE (wordsD (.clock n a b)) 1 [Str.ofString "name", Str.ofString "number", Str.ofString "number"] = .inr [.str n, .int a, .int b] :=
      goE_step (show 1 < 4 by decide) (pt_n g1 _) (goE_step (show 2 < 4 by decide) (pt_k g2 _) (goE_step (show 3 < 4 by decide) (pt_k g3 _) (nil _ _)))
    rw [k]
    simp only [g]
    rfl
  | road n m a =>
    obtain ⟨g1, g2, g3, g4⟩ := h
    have k : kindsE ((wordsD (.road n m a)).getD 0 "") = some [Str.ofString "name", Str.ofString "other", Str.ofString "number"] := by kernel_rfl
    have o : partT m (Str.ofString "other") n = some (.str m) := by rw [pt_other, name_is g2, show (m == n) = false by simpa using Ne.symm g3]; rfl
    have g : goE (wordsD (.road n m a)) 1 [Str.ofString "name", Str.ofString "other", Str.ofString "number"] = .inr [.str n, .str m, .int a] :=
      goE_step (show 1 < 4 by decide) (pt_n g1 _) (goE_step (show 2 < 4 by decide) o (goE_step (show 3 < 4 by decide) (pt_k g4 _) (nil _ _)))
    rw [k]
    simp only [g]
    rfl
  | cut n m =>
    obtain ⟨g1, g2, g3⟩ := h
    have k : kindsE ((wordsD (.cut n m)).getD 0 "") = some [Str.ofString "name", Str.ofString "other"] := by kernel_rfl
    have o : partT m (Str.ofString "other") n = some (.str m) := by rw [pt_other, name_is g2, show (m == n) = false by simpa using Ne.symm g3]; rfl
    have g : goE (wordsD (.cut n m)) 1 [Str.ofString "name", Str.ofString "other"] = .inr [.str n, .str m] :=
      goE_step (show 1 < 3 by decide) (pt_n g1 _) (goE_step (show 2 < 3 by decide) o (nil _ _))
    rw [k]
    simp only [g]
    rfl
end
end Gstampahead_k76_events_written
set_option Elab.async false
set_option linter.all false
set_option maxRecDepth 100000
set_option maxHeartbeats 1000000
set_option pp.maxSteps 1500
namespace Gstampahead_k76_events_written
open PySem PySem.Spec Pv
open L2 hiding keyOf
open PyProof.Rows hiding St signs cutD pairD
section
variable {cs : List Pv.D} {pre : Sto}
theorem if_no {c : MT} {A : MS} {sl : Sl} {st : Sto} (h : c sl st = .ok false st) : sIf c A sNil sl st = .nx sl st := by rw [e_sif, h]; rfl
theorem if_yes {c : MT} {A B : MS} {sl : Sl} {st : Sto} {r : RS} (h : c sl st = .ok true st) (k : A sl st = r) : sIf c A B sl st = r := by rw [e_sif, h]; exact k
theorem seq_rt {a b : MS} {sl : Sl} {st st' : Sto} {d : Pv.D} (h : a sl st = .rt d st') : sSeq a b sl st = .rt d st' := by rw [e_seq, h]; rfl
theorem fin_rt {n : Nat} {r : RS} {d : Pv.D} {st st' : Sto} (h : r = .rt d st) (k : finR n (.ok d st) = .ok d st') : finR n (endR r) = .ok d st' := by rw [h]; exact k
def titL : List Str := ["a", "amy", "zzzzzzzz", "tell", "clock", "most", "abcdefgh", "q"]
def farL : List Str := titL ++ [Str.ofString "road", Str.ofString "cut", Str.ofString "host"]
theorem tit_ok : (∀ w ∈ titL, nameB w = true ∧ w ≠ Str.ofString "other") ∧ ∀ w ∈ farL, nameB w = true := by decide +kernel
def letL : List (Option Int) := [none, none] ++ num9.map some
theorem q_drawn (hcs : IntsD cs) (hl : cs.length ≤ 63) (sp lf dr : Int) :
    ∃ d sp' lf' dr', F__law_drawn_event [Rf pre.length] (pre ++ [fd cs sp lf dr]) = .ok (dDeed d) (pre ++ [fd cs sp' lf' dr']) ∧ DeedOk d := by
  obtain ⟨r1, sp1, lf1, dr1, e1, b10, b11⟩ := q_draw (pre := pre) (st := []) (sp := sp) (lf := lf) (dr := dr) (m := 4) hcs hl (by decide) (by decide)
  obtain ⟨x2, sp2, lf2, dr2, e2, hx2⟩ := q_any (pre := pre) (st := []) (sp := sp1) (lf := lf1) (dr := dr1) (xs := titL.map .str) hcs hl (by simp [titL]) (by simp [titL])
  obtain ⟨t, ht, rfl⟩ := List.mem_map.mp hx2
  obtain ⟨x3, sp3, lf3, dr3, e3, hx3⟩ := q_any (pre := pre) (st := []) (sp := sp2) (lf := lf2) (dr := dr2) (xs := farL.map .str) hcs hl (by simp [farL]) (by simp [farL, titL])
  obtain ⟨f, hf, rfl⟩ := List.mem_map.mp hx3
  obtain ⟨tn, tno⟩ := tit_ok.1 t ht
  have fn := tit_ok.2 f hf
  have e2 : F__law_any [Rf pre.length, lsD titL] (pre ++ [fd cs sp1 lf1 dr1]) = .ok (.str t) (pre ++ [fd cs sp2 lf2 dr2]) := e2
  have e3 : F__law_any [Rf pre.length, lsD farL] (pre ++ [fd cs sp2 lf2 dr2]) = .ok (.str f) (pre ++ [fd cs sp3 lf3 dr3]) := e3
  have fin : ∀ (d : Pv.D) (sp lf dr sp' lf' dr' : Int), finR (pre ++ [fd cs sp lf dr]).length (.ok d (pre ++ [fd cs sp' lf' dr'])) = .ok d (pre ++ [fd cs sp' lf' dr']) := fun d _ _ _ _ _ _ => fin_same (by simp)
  have s2 : ∀ (i j : Nat) (sl : Sl) (d e : Pv.D) s, set2 i j sl [d, e] s = .nx ((sl.set i (some d)).set j (some e)) s := fun _ _ _ _ _ _ => rfl
  have mk8 : ∀ S, mkLst [.str "a", .str "amy", .str "zzzzzzzz", .str "tell", .str "clock", .str "most", .str "abcdefgh", .str "q"] S = .ok (lsD titL) S := fun S => if_pos (sz_le (show 8 ≤ 1000 by decide))
  have mk3 : ∀ S, mkLst [.str "road", .str "cut", .str "host"] S = .ok (lsD ["road", "cut", "host"]) S := fun S => if_pos (sz_le (show 3 ≤ 1000 by decide))
  have adF : ∀ S, fAdd (lsD titL) (lsD ["road", "cut", "host"]) S = .ok (lsD farL) S := ls_add (show titL.length + 3 ≤ 100000 by simp [titL])
  have mt2 : ∀ a b S, mkTup [a, b] S = .ok (.tuple [a, b]) S := fun _ _ S => if_pos (sz_le (show 2 ≤ 1000 by decide))
  have mt3 : ∀ a b c S, mkTup [a, b, c] S = .ok (.tuple [a, b, c]) S := fun _ _ _ S => if_pos (sz_le (show 3 ≤ 1000 by decide))
  have mt4 : ∀ a b c d S, mkTup [a, b, c, d] S = .ok (.tuple [a, b, c, d]) S := fun _ _ _ _ S => if_pos (sz_le (show 4 ≤ 1000 by decide))
  have mt1 : ∀ a S, mkTup [a] S = .ok (.tuple [a]) S := fun _ S => if_pos (sz_le (show 1 ≤ 1000 by decide))
  have adT : ∀ a b c d e S, fAdd (.tuple [a, b, c, d]) (.tuple [e]) S = .ok (.tuple [a, b, c, d, e]) S := fun a b c d e S => by
    show lift (if [a, b, c, d].length + [e].length ≤ sizeLine then some (PyData.tuple ([a, b, c, d] ++ [e])) else none) S = _
    rw [if_pos (sz_le (by simp))]; rfl
  have q3 : ∀ (a b c d e : Option Pv.D) S, (sAsg (mLst (msCons (mC (.int 0)) (msCons (mC (.int 1)) (msCons (mC (.int 2)) (msCons (mC (.int 9)) (msCons (mC (.int 10)) (msCons (mC (.int 60)) (msCons (mC (.int 100)) (msCons (mPow (mC (.int 10)) (mC (.int 59))) (msCons (mSub (mPow (mC (.int 10)) (mC (.int 60))) (mC (.int 1))) (msNil))))))))))) (tgName 5)) [a, b, c, d, e, none, none, none] S = .nx [a, b, c, d, e, some (.list (num9.map .int)), none, none] S := fun a b c d e S => by kernel_rfl
  have q4 : ∀ (a b c d e : Option Pv.D) S, (sAsg (mAdd (mVar 5) (mLst (msCons (mNeg (mC (.int 1))) (msCons (mNeg (mC (.int 10))) (msCons (mNeg (mPow (mC (.int 10)) (mC (.int 59)))) (msCons (mSub (mC (.int 1)) (mPow (mC (.int 10)) (mC (.int 60)))) (msNil))))))) (tgName 6)) [a, b, c, d, e, some (.list (num9.map .int)), none, none] S = .nx [a, b, c, d, e, some (.list (num9.map .int)), some (.list (int13.map .int)), none] S := fun a b c d e S => by kernel_rfl
  have q1 : (sPar2 1 2 (msCons (mLst (msCons (mC (.str "a")) (msCons (mC (.str "amy")) (msCons (mC (.str "zzzzzzzz")) (msCons (mC (.str "tell")) (msCons (mC (.str "clock")) (msCons (mC (.str "most")) (msCons (mC (.str "abcdefgh")) (msCons (mC (.str "q")) (msNil)))))))))) (msCons (mCall F__law_draw (msCons (mVar 0) (msCons (mC (.int 4)) (msNil)))) (msNil)))) [some (Rf pre.length), none, none, none, none, none, none, none] (pre ++ [fd cs sp lf dr]) = .nx [some (Rf pre.length), some (lsD titL), some (.int r1), none, none, none, none, none] (pre ++ [fd cs sp1 lf1 dr1]) := by
    have e1 : F__law_draw [Rf pre.length, .int 4] (pre ++ [fd cs sp lf dr]) = .ok (.int r1) (pre ++ [fd cs sp1 lf1 dr1]) := e1
    generalize pre ++ [fd cs sp lf dr] = S0 at *
    generalize pre ++ [fd cs sp1 lf1 dr1] = S1 at *
    simp -implicitDefEqProofs [mk8, e1, s2]
  have q2 : (sPar2 3 4 (msCons (mCall F__law_any (msCons (mVar 0) (msCons (mVar 1) (msNil)))) (msCons (mCall F__law_any (msCons (mVar 0) (msCons (mAdd (mVar 1) (mLst (msCons (mC (.str "road")) (msCons (mC (.str "cut")) (msCons (mC (.str "host")) (msNil)))))) (msNil)))) (msNil)))) [some (Rf pre.length), some (lsD titL), some (.int r1), none, none, none, none, none] (pre ++ [fd cs sp1 lf1 dr1]) = .nx [some (Rf pre.length), some (lsD titL), some (.int r1), some (.str t), some (.str f), none, none, none] (pre ++ [fd cs sp3 lf3 dr3]) := by
    generalize pre ++ [fd cs sp1 lf1 dr1] = S1 at *
    generalize pre ++ [fd cs sp2 lf2 dr2] = S2 at *
    generalize pre ++ [fd cs sp3 lf3 dr3] = S3 at *
    generalize lsD titL = TL at *
    generalize lsD farL = FL at *
    simp -implicitDefEqProofs [e2, mk3, adF, e3, s2]
  unfold F__law_drawn_event b__law_drawn_event
  rw [fnP_e, show startD 8 [Rf pre.length] = [some (Rf pre.length), none, none, none, none, none, none, none] from rfl, seqN q1 (seqN q2 (seqN (q3 _ _ _ _ _ _) rfl))]
  obtain ⟨x4, sp4, lf4, dr4, e4, hx4⟩ := q_any (pre := pre) (st := []) (sp := sp3) (lf := lf3) (dr := dr3) (xs := num9.map .int) hcs hl (by simp [num9]) (by simp [num9])
  obtain ⟨n1, hn1, rfl⟩ := List.mem_map.mp hx4
  obtain ⟨x5, sp5, lf5, dr5, e5, hx5⟩ := q_any (pre := pre) (st := []) (sp := sp4) (lf := lf4) (dr := dr4) (xs := num9.map .int) hcs hl (by simp [num9]) (by simp [num9])
  obtain ⟨n2, hn2, rfl⟩ := List.mem_map.mp hx5
  obtain ⟨y4, tp4, tf4, td4, g4, hy4⟩ := q_any (pre := pre) (st := []) (sp := sp3) (lf := lf3) (dr := dr3) (xs := int13.map .int) hcs hl (by simp [int13, num9]) (by simp [int13, num9])
  obtain ⟨m1, hm1, rfl⟩ := List.mem_map.mp hy4
  obtain ⟨y5, tp5, tf5, td5, g5, hy5⟩ := q_any (pre := pre) (st := []) (sp := tp4) (lf := tf4) (dr := td4) (xs := int13.map .int) hcs hl (by simp [int13, num9]) (by simp [int13, num9])
  obtain ⟨m2, hm2, rfl⟩ := List.mem_map.mp hy5
  obtain ⟨y6, tp6, tf6, td6, g6, hy6⟩ := q_any (pre := pre) (st := []) (sp := tp5) (lf := tf5) (dr := td5) (xs := letL.map dOpt) hcs hl (by simp [letL]) (by simp [letL, num9])
  obtain ⟨l, hlt, rfl⟩ := List.mem_map.mp hy6
  have hlk : ∀ k, l = some k → k ∈ num9 := fun k hk => by
    rw [hk] at hlt
    simpa [letL] using hlt
  have mkN : ∀ S, mkLst [.none, .none] S = .ok (.list [.none, .none]) S := fun S => if_pos (sz_le (show 2 ≤ 1000 by decide))
  have adL : ∀ S, fAdd (.list [.none, .none]) (.list (num9.map .int)) S = .ok (.list (letL.map dOpt)) S := fun S => add_lls (by simp [num9]) S
  obtain ⟨NL, hNL⟩ : ∃ NL, NL = PyData.list (num9.map .int) := ⟨_, rfl⟩
  obtain ⟨IL, hIL⟩ : ∃ IL, IL = PyData.list (int13.map .int) := ⟨_, rfl⟩
  obtain ⟨LL, hLL⟩ : ∃ LL, LL = PyData.list (letL.map dOpt) := ⟨_, rfl⟩
  have ci : ∀ (k : Int) (a b d e f g h : Option Pv.D) S, (mTb (mCmp .Eq (mVar 2) (mC (.int k)))) [a, b, some (.int r1), d, e, f, g, h] S = .ok (decide (r1 = k)) S := fun k a b d e f g h S => by simp -implicitDefEqProofs
  by_cases h0 : r1 = 0
  · refine ⟨.tell t m1 m2 l, tp6, tf6, td6, ?_, tn, hm1, hm2, hlk⟩
    refine fin_rt (seq_rt (if_yes (by rw [ci, decide_eq_true h0]) (seqN (q4 _ _ _ _ _ _) ?_))) (fin _ _ _ _ _ _ _)
    show _ = RS.rt (PyData.tuple [.str "tell", .str t, .int m1, .int m2, dOpt l]) (pre ++ [fd cs tp6 tf6 td6])
    rw [← hIL] at g4 g5
    rw [← hLL] at g6 adL
    rw [← hNL] at adL
    rw [← hNL, ← hIL]
    generalize dOpt l = D at *
    generalize pre ++ [fd cs sp3 lf3 dr3] = S3 at *
    generalize pre ++ [fd cs tp4 tf4 td4] = T4 at *
    generalize pre ++ [fd cs tp5 tf5 td5] = T5 at *
    generalize pre ++ [fd cs tp6 tf6 td6] = T6 at *
    generalize lsD titL = TL at *
    simp -implicitDefEqProofs [g4, g5, mt4, mkN, adL, g6, mt1, adT]
  · by_cases h1 : r1 = 1
    · refine ⟨.clock t n1 n2, sp5, lf5, dr5, ?_, tn, hn1, hn2⟩
      refine fin_rt ((seqN (if_no (by rw [ci, decide_eq_false h0])) (seq_rt (if_yes (by rw [ci, decide_eq_true h1]) ?_)))) (fin _ _ _ _ _ _ _)
      show _ = RS.rt (PyData.tuple [.str "clock", .str t, .int n1, .int n2]) (pre ++ [fd cs sp5 lf5 dr5])
      rw [← hNL] at e4 e5
      rw [← hNL]
      generalize pre ++ [fd cs sp3 lf3 dr3] = S3 at *
      generalize pre ++ [fd cs sp4 lf4 dr4] = S4 at *
      generalize pre ++ [fd cs sp5 lf5 dr5] = S5 at *
      generalize lsD titL = TL at *
      simp -implicitDefEqProofs [e4, e5, mt4]
    · obtain ⟨w, hw, wn, wt⟩ : ∃ w : Str, w = (if (f == t) = true then Str.ofString "other" else f) ∧ nameB w = true ∧ t ≠ w := by
        by_cases c : (f == t) = true
        · rw [if_pos c]; exact ⟨_, rfl, by decide +kernel, tno⟩
        · rw [if_neg c]; exact ⟨_, rfl, fn, fun e => c (by rw [e]; simp)⟩
      have cf := cmp_s f t
      have q5 : ∀ (a b c g : Option Pv.D) S, (sIf (mTb (mCmp .Eq (mVar 4) (mVar 3))) (sAsg (mC (.str "other")) (tgName 4)) (sNil)) [a, b, c, some (.str t), some (.str f), g, none, none] S = .nx [a, b, c, some (.str t), some (.str w), g, none, none] S := fun a b c g S => by
        rw [hw]
        cases hq : (f == t) with
        | true => rw [hq] at cf; simp -implicitDefEqProofs [cf]
        | false => rw [hq] at cf; simp -implicitDefEqProofs [cf]
      by_cases h2 : r1 = 2
      · refine ⟨.cut t w, sp3, lf3, dr3, ?_, tn, wn, wt⟩
        refine fin_rt ((seqN (if_no (by rw [ci, decide_eq_false h0])) (seqN (if_no (by rw [ci, decide_eq_false h1])) (seqN (q5 _ _ _ _ _) ?_)))) (fin _ _ _ _ _ _ _)
        show _ = RS.rt (PyData.tuple [.str "cut", .str t, .str w]) (pre ++ [fd cs sp3 lf3 dr3])
        rw [← hNL]
        generalize pre ++ [fd cs sp3 lf3 dr3] = S3 at *
        generalize lsD titL = TL at *
        simp -implicitDefEqProofs [h2, mt3]
      · refine ⟨.road t w n1, sp4, lf4, dr4, ?_, tn, wn, wt, hn1⟩
        refine fin_rt ((seqN (if_no (by rw [ci, decide_eq_false h0])) (seqN (if_no (by rw [ci, decide_eq_false h1])) (seqN (q5 _ _ _ _ _) ?_)))) (fin _ _ _ _ _ _ _)
        show _ = RS.rt (PyData.tuple [.str "road", .str t, .str w, .int n1]) (pre ++ [fd cs sp4 lf4 dr4])
        rw [← hNL] at e4
        rw [← hNL]
        generalize pre ++ [fd cs sp3 lf3 dr3] = S3 at *
        generalize pre ++ [fd cs sp4 lf4 dr4] = S4 at *
        generalize lsD titL = TL at *
        simp -implicitDefEqProofs [h2, e4, mt4]
end
end Gstampahead_k76_events_written
set_option Elab.async false
set_option linter.all false
set_option maxRecDepth 100000
set_option maxHeartbeats 1000000
set_option pp.maxSteps 1500
namespace Gstampahead_k76_events_written
open PySem PySem.Spec Pv
open L2 hiding keyOf
open PyProof.Rows hiding St signs cutD pairD
section
variable {cs : List Pv.D} {pre : Sto}
def signL : List Str := ["0", "1", " ", "a", "A", "-", ".", "\n", "s", "+", "zzzz"]
def late1 : List Str := ["tell", "clock", "road", "cut", "-", "0", "", "amy", "-0", "-1", "00", "abcdefghi"]
def late2 : List Str := late1 ++ [Txt.mul "1" 60, Txt.mul "1" 61]
def late3 : List Str := late2 ++ [Str.ofString "-" ++ Txt.mul "1" 60, Str.ofString "-" ++ Txt.mul "1" 61, Str.ofString "--1", Str.ofString "+1", Str.ofString "1.0", Str.ofString "a", Str.ofString "q"]
theorem sign_ok : ∀ w ∈ signL, SOk 4 w := by
  intro w hw
  have : signL.all (fun z => (PyData.str z).canLay0 && decide (z.length ≤ 4)) = true := by decide +kernel
  have := List.all_eq_true.mp this w hw
  simp only [Bool.and_eq_true, decide_eq_true_eq] at this
  exact ⟨this.1, this.2⟩
theorem late_ok : ∀ w ∈ late3, SOk 62 w := by
  intro w hw
  have : late3.all (fun z => (PyData.str z).canLay0 && decide (z.length ≤ 62)) = true := by decide +kernel
  have := List.all_eq_true.mp this w hw
  simp only [Bool.and_eq_true, decide_eq_true_eq] at this
  exact ⟨this.1, this.2⟩
theorem ls_mid1 {ls : List Str} {j : Nat} (h : j ≤ ls.length) (S : Sto) : fSl (some (j : Int)) (some ((j : Int) + 1)) (lsD ls) S = .ok (lsD ((ls.drop j).take 1)) S := by
  have := slB_mid (ls := ls) (i := j) (j := j + 1) h S
  rw [show j + 1 - j = 1 by omega] at this
  exact this
theorem q_bent (hcs : IntsD cs) (hl : cs.length ≤ 63) {z : Str} {L : Nat} (hz : SOk L z) (hL : L ≤ 400) (sp lf dr : Int) :
    ∃ y sp' lf' dr', F__law_bent [Rf pre.length, .str z] (pre ++ [fd cs sp lf dr]) = .ok (.str y) (pre ++ [fd cs sp' lf' dr']) ∧ SOk (3 * L + 70) y := by
  have zt : TxOk z := hz.tx (by omega)
  have zl := hz.len
  obtain ⟨P, hP⟩ : ∃ P, P = wsS z := ⟨_, rfl⟩
  have Pok : LsOk (L + 1) P := by rw [hP]; exact ws_ls hz (by omega)
  have P1 : 1 ≤ P.length := by rw [hP]; exact (ws_ok zt).2
  have Ps := Pok.small
  have spl : ∀ s, fSplit z (.str " ") s = .ok (lsD P) s := fun s => by rw [hP]; exact (q_split zt s).1
  obtain ⟨r1, sp1, lf1, dr1, e1, b10, b11⟩ := q_draw (pre := pre) (st := []) (sp := sp) (lf := lf) (dr := dr) (m := 7) hcs hl (by decide) (by decide)
  obtain ⟨r2, sp2, lf2, dr2, e2, b20, b21⟩ := q_draw (pre := pre) (st := []) (sp := sp1) (lf := lf1) (dr := dr1) (m := (z.length : Int) + 1) hcs hl (by omega) (by omega)
  obtain ⟨c, rfl⟩ : ∃ c : Nat, r2 = (c : Int) := ⟨_, (Int.toNat_of_nonneg b20).symm⟩
  obtain ⟨x3, sp3, lf3, dr3, e3, hx3⟩ := q_any (pre := pre) (st := []) (sp := sp2) (lf := lf2) (dr := dr2) (xs := signL.map .str) hcs hl (by simp [signL]) (by simp [signL])
  obtain ⟨g, hg, rfl⟩ := List.mem_map.mp hx3
  have go := sign_ok g hg
  have gl := go.len
  obtain ⟨r4, sp4, lf4, dr4, e4, b40, b41⟩ := q_draw (pre := pre) (st := []) (sp := sp3) (lf := lf3) (dr := dr3) (m := (P.length : Int)) hcs hl (by omega) (by omega)
  obtain ⟨n, rfl⟩ : ∃ c : Nat, r4 = (c : Int) := ⟨_, (Int.toNat_of_nonneg b40).symm⟩
  obtain ⟨x5, sp5, lf5, dr5, e5, hx5⟩ := q_any (pre := pre) (st := []) (sp := sp4) (lf := lf4) (dr := dr4) (xs := late3.map .str) hcs hl (by simp [late3]) (by simp [late3, late2, late1])
  obtain ⟨w, hw, rfl⟩ := List.mem_map.mp hx5
  have wo := late_ok w hw
  have hn : n < P.length := by omega
  have e1 : F__law_draw [Rf pre.length, .int 7] (pre ++ [fd cs sp lf dr]) = .ok (.int r1) (pre ++ [fd cs sp1 lf1 dr1]) := e1
  have e2 : F__law_draw [Rf pre.length, .int ((z.length : Int) + 1)] (pre ++ [fd cs sp1 lf1 dr1]) = .ok (.int (c : Int)) (pre ++ [fd cs sp2 lf2 dr2]) := e2
  have e3 : F__law_any [Rf pre.length, lsD signL] (pre ++ [fd cs sp2 lf2 dr2]) = .ok (.str g) (pre ++ [fd cs sp3 lf3 dr3]) := e3
  have e4 : F__law_draw [Rf pre.length, .int (P.length : Int)] (pre ++ [fd cs sp3 lf3 dr3]) = .ok (.int (n : Int)) (pre ++ [fd cs sp4 lf4 dr4]) := e4
  have e5 : F__law_any [Rf pre.length, lsD late3] (pre ++ [fd cs sp4 lf4 dr4]) = .ok (.str w) (pre ++ [fd cs sp5 lf5 dr5]) := e5
  have fin : ∀ (d : Pv.D) (sp lf dr sp' lf' dr' : Int), finR (pre ++ [fd cs sp lf dr]).length (.ok d (pre ++ [fd cs sp' lf' dr'])) = .ok d (pre ++ [fd cs sp' lf' dr']) := fun d _ _ _ _ _ _ => fin_same (by simp)
  have s3 : ∀ (sl : Sl) (d e f : Pv.D) s, set3 2 3 4 sl [d, e, f] s = .nx (((sl.set 2 (some d)).set 3 (some e)).set 4 (some f)) s := fun _ _ _ _ _ => rfl
  have ln := len_s (z := z) (szB (n := z.length) (by omega))
  have ad : ∀ S, fAdd (.int (z.length : Int)) (.int 1) S = .ok (.int ((z.length : Int) + 1)) S := fun _ => rfl
  have lP := ls_len P
  have mk11 : ∀ S, mkLst [.str "0", .str "1", .str " ", .str "a", .str "A", .str "-", .str ".", .str "\n", .str "s", .str "+", .str "zzzz"] S = .ok (lsD signL) S := fun S => if_pos (sz_le (show 11 ≤ 1000 by decide))
  have p1 : (sPar3 2 3 4 (msCons (mCall F__law_draw (msCons (mVar 0) (msCons (mC (.int 7)) (msNil)))) (msCons (mCall F__law_draw (msCons (mVar 0) (msCons (mAdd (mLen (mVar 1)) (mC (.int 1))) (msNil)))) (msCons (mSplit (mVar 1) (mC (.str " "))) (msNil))))) [some (Rf pre.length), some (.str z), none, none, none, none, none, none] (pre ++ [fd cs sp lf dr]) = .nx [some (Rf pre.length), some (.str z), some (.int r1), some (.int (c : Int)), some (lsD P), none, none, none] (pre ++ [fd cs sp2 lf2 dr2]) := by
    generalize pre ++ [fd cs sp lf dr] = S0 at *
    generalize pre ++ [fd cs sp1 lf1 dr1] = S1 at *
    generalize pre ++ [fd cs sp2 lf2 dr2] = S2 at *
    generalize lsD P = PL at *
    simp -implicitDefEqProofs [e1, ln, ad, e2, spl, s3]
  have p2 : (sAsg (mCall F__law_any (msCons (mVar 0) (msCons (mLst (msCons (mC (.str "0")) (msCons (mC (.str "1")) (msCons (mC (.str " ")) (msCons (mC (.str "a")) (msCons (mC (.str "A")) (msCons (mC (.str "-")) (msCons (mC (.str ".")) (msCons (mC (.str "\n")) (msCons (mC (.str "s")) (msCons (mC (.str "+")) (msCons (mC (.str "zzzz")) (msNil))))))))))))) (msNil)))) (tgName 5)) [some (Rf pre.length), some (.str z), some (.int r1), some (.int (c : Int)), some (lsD P), none, none, none] (pre ++ [fd cs sp2 lf2 dr2]) = .nx [some (Rf pre.length), some (.str z), some (.int r1), some (.int (c : Int)), some (lsD P), some (.str g), none, none] (pre ++ [fd cs sp3 lf3 dr3]) := by
    generalize pre ++ [fd cs sp2 lf2 dr2] = S2 at *
    generalize pre ++ [fd cs sp3 lf3 dr3] = S3 at *
    generalize lsD P = PL at *
    generalize lsD signL = SL at *
    simp -implicitDefEqProofs [mk11, e3]
  have p3 : (sAsg (mCall F__law_draw (msCons (mVar 0) (msCons (mLen (mVar 4)) (msNil)))) (tgName 6)) [some (Rf pre.length), some (.str z), some (.int r1), some (.int (c : Int)), some (lsD P), some (.str g), none, none] (pre ++ [fd cs sp3 lf3 dr3]) = .nx [some (Rf pre.length), some (.str z), some (.int r1), some (.int (c : Int)), some (lsD P), some (.str g), some (.int (n : Int)), none] (pre ++ [fd cs sp4 lf4 dr4]) := by
    generalize pre ++ [fd cs sp3 lf3 dr3] = S3 at *
    generalize pre ++ [fd cs sp4 lf4 dr4] = S4 at *
    generalize lsD P = PL at *
    simp -implicitDefEqProofs [lP, e4]
  have p4 : ∀ (a b c d e f g : Option Pv.D) S, (sAsg (mLst (msCons (mC (.str "tell")) (msCons (mC (.str "clock")) (msCons (mC (.str "road")) (msCons (mC (.str "cut")) (msCons (mC (.str "-")) (msCons (mC (.str "0")) (msCons (mC (.str "")) (msCons (mC (.str "amy")) (msCons (mC (.str "-0")) (msCons (mC (.str "-1")) (msCons (mC (.str "00")) (msCons (mC (.str "abcdefghi")) (msNil)))))))))))))) (tgName 7)) [a, b, c, d, e, f, g, none] S = .nx [a, b, c, d, e, f, g, some (lsD late1)] S := fun a b c d e f g S => by kernel_rfl
  have p5 : ∀ (a b c d e f g : Option Pv.D) S, (sAsg (mAdd (mVar 7) (mLst (msCons (mMulT (mC (.str "1")) (mC (.int 60))) (msCons (mMulT (mC (.str "1")) (mC (.int 61))) (msNil))))) (tgName 7)) [a, b, c, d, e, f, g, some (lsD late1)] S = .nx [a, b, c, d, e, f, g, some (lsD late2)] S := fun a b c d e f g S => by kernel_rfl
  have p6 : ∀ (a b c d e f g : Option Pv.D) S, (sAsg (mAdd (mVar 7) (mLst (msCons (mAdd (mC (.str "-")) (mMulT (mC (.str "1")) (mC (.int 60)))) (msCons (mAdd (mC (.str "-")) (mMulT (mC (.str "1")) (mC (.int 61)))) (msCons (mC (.str "--1")) (msCons (mC (.str "+1")) (msCons (mC (.str "1.0")) (msCons (mC (.str "a")) (msCons (mC (.str "q")) (msNil)))))))))) (tgName 7)) [a, b, c, d, e, f, g, some (lsD late2)] S = .nx [a, b, c, d, e, f, g, some (lsD late3)] S := fun a b c d e f g S => by kernel_rfl
  have ci : ∀ (k : Int) (a b d e f g h : Option Pv.D) S, (mTb (mCmp .Eq (mVar 2) (mC (.int k)))) [a, b, some (.int r1), d, e, f, g, h] S = .ok (decide (r1 = k)) S := fun k a b d e f g h S => by simp -implicitDefEqProofs
  have sl1 : (Str.ofString " ").length = 1 := by decide +kernel
  have slay : (PyData.str " ").canLay0 = true := by kernel_rfl
  have ca := cut_a2 hz.lay c
  have cb := cut_b2 hz.lay c
  have cb1 := cut_b2 hz.lay (c + 1)
  have la := ca.len; have lb := cb.len; have lb1 := cb1.len
  have sl := fun lo hi s => slB_str (z := z) (by omega) lo hi s
  have c1 : ((c : Int) + 1) = ((c + 1 : Nat) : Int) := by omega
  obtain ⟨B1, -, -, -, BW⟩ := bend_ok Pok n
  obtain ⟨-, BW2⟩ := BW w 62 wo
  obtain ⟨q, q'⟩ := Pok.cut n
  have md : LsOk (L + 1) ((P.drop n).take 1) := ⟨fun l hl => q'.lay l (List.mem_of_mem_take hl), by
    have a3 := lenJ_cut (P.drop n) 1
    have a1 := lenJ_cut P n
    have := Pok.len
    omega⟩
  have hJ := Pok.len
  have hcut := lenJ_cut P n
  have t1 : P.take n ++ (P.drop n).take 1 ++ P.drop n = P.take n ++ (P.drop n).take 1 ++ P.drop n := rfl
  have B3 : LsOk (2 * (L + 1)) (P.take n ++ (P.drop n).take 1 ++ P.drop n) := ((q.app md).app q').mono (by omega)
  have aL : ∀ {a b : List Str}, a.length + b.length ≤ 100000 → ∀ S, fAdd (lsD a) (lsD b) S = .ok (lsD (a ++ b)) S := fun h S => ls_add h S
  unfold F__law_bent b__law_bent
  rw [fnP_e, show startD 8 [Rf pre.length, .str z] = [some (Rf pre.length), some (.str z), none, none, none, none, none, none] from rfl]
  rw [seqN p1 (seqN p2 (seqN p3 (seqN (p4 _ _ _ _ _ _ _ _) (seqN (p5 _ _ _ _ _ _ _ _) (seqN (p6 _ _ _ _ _ _ _ _) rfl)))))]
  by_cases h0 : r1 = 0
  · have a1 := add_sB (a := cutS z none (some (c : Int))) (b := cutS z (some ((c : Int) + 1)) none) (by rw [c1]; omega)
    refine ⟨_, sp4, lf4, dr4, fin_rt (seq_rt (if_yes (by rw [ci, decide_eq_true h0]) ?_)) (fin _ _ _ _ _ _ _), ((ca.cat (by rw [c1]; exact cb1)).mono (by omega) : SOk (3 * L + 70) (cutS z none (some (c : Int)) ++ cutS z (some ((c : Int) + 1)) none))⟩
    generalize pre ++ [fd cs sp4 lf4 dr4] = S4 at *
    simp -implicitDefEqProofs [sl, a1]
  · have i0 := fun (A : MS) (a b d e f g h : Option Pv.D) S => if_no (A := A) (sl := [a, b, some (.int r1), d, e, f, g, h]) (st := S) (c := mTb (mCmp .Eq (mVar 2) (mC (.int 0)))) (by rw [ci, decide_eq_false h0])
    by_cases h1 : r1 = 1
    · have a1 := add_sB (a := cutS z none (some (c : Int))) (b := g) (by omega)
      have a2 := add_sB (a := cutS z none (some (c : Int)) ++ g) (b := cutS z (some ((c : Int) + 1)) none) (by rw [c1, len_cat]; omega)
      refine ⟨_, sp4, lf4, dr4, fin_rt (seqN (i0 _ _ _ _ _ _ _ _ _) (seq_rt (if_yes (by rw [ci, decide_eq_true h1]) ?_))) (fin _ _ _ _ _ _ _), (((ca.cat go).cat (by rw [c1]; exact cb1)).mono (by omega) : SOk (3 * L + 70) (cutS z none (some (c : Int)) ++ g ++ cutS z (some ((c : Int) + 1)) none))⟩
      generalize pre ++ [fd cs sp4 lf4 dr4] = S4 at *
      simp -implicitDefEqProofs [sl, a1, a2]
    · have i1 := fun (A : MS) (a b d e f g h : Option Pv.D) S => if_no (A := A) (sl := [a, b, some (.int r1), d, e, f, g, h]) (st := S) (c := mTb (mCmp .Eq (mVar 2) (mC (.int 1)))) (by rw [ci, decide_eq_false h1])
      by_cases h2 : r1 = 2
      · have a1 := aL (a := P.take n) (b := (P.drop n).take 1) (by rw [List.length_take, List.length_take]; omega)
        have a2 := aL (a := P.take n ++ (P.drop n).take 1) (b := P.drop n) (by rw [List.length_append, List.length_take, List.length_take, List.length_drop]; omega)
        have jn := ls_join B3 (by omega) sl1
        have md1 := ls_mid1 (ls := P) (j := n) (by omega)
        have to1 := ls_to P n
        have fr1 := ls_fr P n
        refine ⟨_, sp4, lf4, dr4, fin_rt (seqN (i0 _ _ _ _ _ _ _ _ _) (seqN (i1 _ _ _ _ _ _ _ _ _) (seq_rt (if_yes (by rw [ci, decide_eq_true h2]) ?_)))) (fin _ _ _ _ _ _ _), ((B3.join sl1 slay).mono (by omega) : SOk (3 * L + 70) (Txt.join " " (P.take n ++ (P.drop n).take 1 ++ P.drop n)))⟩
        generalize pre ++ [fd cs sp4 lf4 dr4] = S4 at *
        generalize lsD P = PL at *
        generalize lsD late3 = LT at *
        simp -implicitDefEqProofs [-List.append_assoc, to1, md1, fr1, a1, a2, jn]
      · have i2 := fun (A : MS) (a b d e f g h : Option Pv.D) S => if_no (A := A) (sl := [a, b, some (.int r1), d, e, f, g, h]) (st := S) (c := mTb (mCmp .Eq (mVar 2) (mC (.int 2)))) (by rw [ci, decide_eq_false h2])
        by_cases h3 : r1 = 3
        · have a1 := aL (a := P.take n) (b := P.drop (n + 1)) (by rw [List.length_take, List.length_drop]; omega)
          have jn := ls_join B1 (by omega) sl1
          have to1 := ls_to P n
          have fr1 := ls_fr1 P n
          refine ⟨_, sp4, lf4, dr4, fin_rt (seqN (i0 _ _ _ _ _ _ _ _ _) (seqN (i1 _ _ _ _ _ _ _ _ _) (seqN (i2 _ _ _ _ _ _ _ _ _) (seq_rt (if_yes (by rw [ci, decide_eq_true h3]) ?_))))) (fin _ _ _ _ _ _ _), ((B1.join sl1 slay).mono (by omega) : SOk (3 * L + 70) (Txt.join " " (P.take n ++ P.drop (n + 1))))⟩
          generalize pre ++ [fd cs sp4 lf4 dr4] = S4 at *
          generalize lsD P = PL at *
          generalize lsD late3 = LT at *
          simp -implicitDefEqProofs [-List.append_assoc, to1, fr1, a1, jn]
        · have i3 := fun (A : MS) (a b d e f g h : Option Pv.D) S => if_no (A := A) (sl := [a, b, some (.int r1), d, e, f, g, h]) (st := S) (c := mTb (mCmp .Eq (mVar 2) (mC (.int 3)))) (by rw [ci, decide_eq_false h3])
          by_cases h4 : r1 = 4
          · have a1 := aL (a := P.take n) (b := [w]) (by rw [List.length_take, List.length_singleton]; omega)
            have a2 := aL (a := P.take n ++ [w]) (b := P.drop (n + 1)) (by rw [List.length_append, List.length_take, List.length_singleton, List.length_drop]; omega)
            have jn := ls_join BW2 (by omega) sl1
            have to1 := ls_to P n
            have fr1 := ls_fr1 P n
            have on := ls_one w
            refine ⟨_, sp5, lf5, dr5, fin_rt (seqN (i0 _ _ _ _ _ _ _ _ _) (seqN (i1 _ _ _ _ _ _ _ _ _) (seqN (i2 _ _ _ _ _ _ _ _ _) (seqN (i3 _ _ _ _ _ _ _ _ _) (seq_rt (if_yes (by rw [ci, decide_eq_true h4]) ?_)))))) (fin _ _ _ _ _ _ _), ((BW2.join sl1 slay).mono (by omega) : SOk (3 * L + 70) (Txt.join " " (P.take n ++ [w] ++ P.drop (n + 1))))⟩
            generalize pre ++ [fd cs sp4 lf4 dr4] = S4 at *
            generalize pre ++ [fd cs sp5 lf5 dr5] = S5 at *
            generalize lsD P = PL at *
            generalize lsD late3 = LT at *
            simp -implicitDefEqProofs [-List.append_assoc, to1, fr1, e5, on, a1, a2, jn]
          · have i4 := fun (A : MS) (a b d e f g h : Option Pv.D) S => if_no (A := A) (sl := [a, b, some (.int r1), d, e, f, g, h]) (st := S) (c := mTb (mCmp .Eq (mVar 2) (mC (.int 4)))) (by rw [ci, decide_eq_false h4])
            have a1 := add_sB (a := cutS z none (some (c : Int))) (b := g) (by omega)
            have a2 := add_sB (a := cutS z none (some (c : Int)) ++ g) (b := cutS z (some (c : Int)) none) (by rw [len_cat]; omega)
            refine ⟨_, sp4, lf4, dr4, fin_rt (seqN (i0 _ _ _ _ _ _ _ _ _) (seqN (i1 _ _ _ _ _ _ _ _ _) (seqN (i2 _ _ _ _ _ _ _ _ _) (seqN (i3 _ _ _ _ _ _ _ _ _) (seqN (i4 _ _ _ _ _ _ _ _ _) ?_))))) (fin _ _ _ _ _ _ _), (((ca.cat go).cat cb).mono (by omega) : SOk (3 * L + 70) (cutS z none (some (c : Int)) ++ g ++ cutS z (some (c : Int)) none))⟩
            generalize pre ++ [fd cs sp4 lf4 dr4] = S4 at *
            simp -implicitDefEqProofs [sl, a1, a2]
end
end Gstampahead_k76_events_written
set_option Elab.async false
set_option linter.all false
set_option maxRecDepth 100000
set_option maxHeartbeats 1000000
set_option pp.maxSteps 1500
namespace Gstampahead_k76_events_written
open PySem PySem.Spec Pv
open L2 hiding keyOf
open PyProof.Rows hiding St signs cutD pairD
def T0 (tb : Nat → Addr) : Sto := [.tb (tb 0) "_law_is_read_right.<locals>.<lambda>", .tb (tb 1) "_law_are_refused.<locals>.<lambda>"]
theorem T0_clean (tb : Nat → Addr) : StC (T0 tb) := StC.tb (StC.tb StC.nil)
section
variable {cs : List Pv.D} {sp lf dr : Int} {tb : Nat → Addr} {st : Sto}
def SS (tb : Nat → Addr) (cs : List Pv.D) (sp lf dr : Int) : Sto := T0 tb ++ [fd cs sp lf dr]
theorem S_clean (hcs : IntsD cs) : StC (SS tb cs sp lf dr) := fun g => fzS_app (T0_clean tb g) (fd_ok hcs)
theorem S_tb (h01 : tb 0 ≠ tb 1) : tbOk (SS tb cs sp lf dr) (tb 0) "_law_is_read_right.<locals>.<lambda>" = true ∧ tbOk (SS tb cs sp lf dr) (tb 1) "_law_are_refused.<locals>.<lambda>" = true := by
  refine ⟨?_, ?_⟩
  all_goals
    unfold tbOk SS T0
    simp [tbs, fd, h01, Ne.symm h01]
theorem fold_ok (x : Array Nat) : ∀ (k : Nat) (acc : Array Nat), ((List.replicate k x).foldl (· ++ ·) acc).size = acc.size + k * x.size ∧ ∀ c ∈ ((List.replicate k x).foldl (· ++ ·) acc).toList, c ∈ acc.toList ∨ c ∈ x.toList
  | 0, acc => ⟨by simp, fun c h => .inl h⟩
  | k + 1, acc => by
    obtain ⟨a, b⟩ := fold_ok x k (acc ++ x)
    rw [List.replicate_succ, List.foldl_cons]
    refine ⟨by rw [a, Array.size_append, Nat.succ_mul]; omega, fun c h => ?_⟩
    rcases b c h with h | h
    · rw [Array.toList_append, List.mem_append] at h; exact h
    · exact .inr h
theorem mul_ok {x : Str} {L : Nat} (h : SOk L x) {n : Nat} (hn : 2 ≤ n) : SOk (n * L) (Txt.mul x (n : Int)) := by
  unfold Txt.mul
  rw [if_neg (by omega)]
  split
  · refine h.mono ?_
    exact Nat.le_mul_of_pos_left L (by omega)
  · obtain ⟨a, b⟩ := fold_ok x.cps n #[]
    rw [Int.toNat_natCast]
    refine ⟨?_, ?_⟩
    · have hl := lay_iff.mp h.lay
      rw [lay_iff]
      intro c hc
      rcases b c hc with hc | hc
      · simp at hc
      · exact hl c hc
    · show (Array.size _) ≤ _
      rw [a]
      have : x.cps.size ≤ L := h.len
      have := Nat.mul_le_mul_left n this
      simpa using this
theorem mulT_ok {x : Str} {L : Nat} (h : SOk L x) {n : Nat} (hm : MulOk x (n : Int)) (hn : 2 ≤ n) : dMulT (.str x) (.int (n : Int)) = some (.str (Txt.mul x (n : Int))) ∧ SOk (n * L) (Txt.mul x (n : Int)) := ⟨if_pos hm, mul_ok h hn⟩
def handA : List Str := [
  Str.ofString "",
  Str.ofString " ",
  Str.ofString "tell",
  Str.ofString "tell ",
  Str.ofString " tell amy 0 0 -",
  Str.ofString "tell amy",
  Str.ofString "tell amy 0",
  Str.ofString "tell amy 0 0",
  Str.ofString "tell amy 0 0 -",
  Str.ofString "tell amy 0 0 - -",
  Str.ofString "tell amy 0 0 -1",
  Str.ofString "tell amy -0 0 -",
  Str.ofString "tell amy 0 -0 -",
  Str.ofString "tell amy - 0 -",
  Str.ofString "tell Amy 0 0 -",
  Str.ofString "tell amy  0 0 -",
  Str.ofString "tell amy 0 0 - ",
  Str.ofString "tell amy 0 0 -\n",
  Str.ofString "tell\namy 0 0 -",
  Str.ofString "tell amy 01 0 -",
  Str.ofString "Tell amy 0 0 -",
  Str.ofString "clock",
  Str.ofString "clock amy",
  Str.ofString "clock amy 1",
  Str.ofString "clock amy 1 2",
  Str.ofString "clock amy 1 2 3",
  Str.ofString "clock amy -1 2",
  Str.ofString "clock amy 1 -",
  Str.ofString "road",
  Str.ofString "road a",
  Str.ofString "road a a",
  Str.ofString "road a a 1",
  Str.ofString "road a b",
  Str.ofString "road a b 1",
  Str.ofString "road a b -",
  Str.ofString "road a b -1",
  Str.ofString "road a b 1 1",
  Str.ofString "cut",
  Str.ofString "cut a",
  Str.ofString "cut a a",
  Str.ofString "cut a b",
  Str.ofString "cut a b c",
  Str.ofString "cut a b 1",
  Str.ofString "cut a ",
  Str.ofString "cut a B",
  Str.ofString "cut 1 2",
  Str.ofString "lay a b 1"]
def bigT : Str := Str.ofString "tell " ++ Txt.mul (Str.ofString "a") 3900 ++ Str.ofString " 0 0 -"
def bigC : Str := Str.ofString "cut a b" ++ Txt.mul (Str.ofString " c") 900
def nineT : Str := Str.ofString "tell amy " ++ Txt.mul (Str.ofString "9") 60 ++ Str.ofString " -" ++ Txt.mul (Str.ofString "9") 60 ++ Str.ofString " " ++ Txt.mul (Str.ofString "9") 60
def nineU : Str := Str.ofString "tell amy " ++ Txt.mul (Str.ofString "9") 61 ++ Str.ofString " 0 -"
def handB : List Str := handA ++ [Str.ofString "undo", Str.ofString "-", Str.ofString "live", Str.ofString "host a 0 0 1", Str.ofString "most 4 more", bigT]
def handC : List Str := handB ++ [bigC, Str.ofString "\n"]
def handD : List Str := handC ++ [nineT]
def handL : List Str := handD ++ [nineU, Str.ofString "road a ab 0"]
theorem sok_of {z : Str} {L : Nat} (h : ((PyData.str z).canLay0 && decide (z.length ≤ L)) = true) : SOk L z := by
  simp only [Bool.and_eq_true, decide_eq_true_eq] at h
  exact ⟨h.1, h.2⟩
theorem big_a : SOk 1 (Str.ofString "a") := sok_of (by decide +kernel)
theorem big_c : SOk 2 (Str.ofString " c") := sok_of (by decide +kernel)
theorem big_9 : SOk 1 (Str.ofString "9") := sok_of (by decide +kernel)
theorem bigs : ∀ w ∈ ([Str.ofString "tell ", Str.ofString " 0 0 -", Str.ofString "cut a b", Str.ofString "tell amy ", Str.ofString " -", Str.ofString " ", Str.ofString " 0 -", Str.ofString "undo", Str.ofString "-", Str.ofString "live", Str.ofString "host a 0 0 1", Str.ofString "most 4 more", Str.ofString "\n", Str.ofString "road a ab 0"] : List Str), SOk 12 w := by
  intro w hw
  refine sok_of (List.all_eq_true.mp (show (([Str.ofString "tell ", Str.ofString " 0 0 -", Str.ofString "cut a b", Str.ofString "tell amy ", Str.ofString " -", Str.ofString " ", Str.ofString " 0 -", Str.ofString "undo", Str.ofString "-", Str.ofString "live", Str.ofString "host a 0 0 1", Str.ofString "most 4 more", Str.ofString "\n", Str.ofString "road a ab 0"] : List Str).all fun z => (PyData.str z).canLay0 && decide (z.length ≤ 12)) = true by decide +kernel) w hw)
theorem bigT_ok : SOk 4000 bigT := (((bigs (Str.ofString "tell ") (by simp)).cat (mul_ok (n := 3900) big_a (by decide))).cat (bigs (Str.ofString " 0 0 -") (by simp))).mono (by decide)
theorem bigC_ok : SOk 4000 bigC := ((bigs (Str.ofString "cut a b") (by simp)).cat (mul_ok (n := 900) big_c (by decide))).mono (by decide)
theorem nineT_ok : SOk 4000 nineT := ((((((bigs (Str.ofString "tell amy ") (by simp)).cat (mul_ok (n := 60) big_9 (by decide))).cat (bigs (Str.ofString " -") (by simp))).cat (mul_ok (n := 60) big_9 (by decide))).cat (bigs (Str.ofString " ") (by simp))).cat (mul_ok (n := 60) big_9 (by decide))).mono (by decide)
theorem nineU_ok : SOk 4000 nineU := (((bigs (Str.ofString "tell amy ") (by simp)).cat (mul_ok (n := 61) big_9 (by decide))).cat (bigs (Str.ofString " 0 -") (by simp))).mono (by decide)
theorem handA_ok : handA.length = 47 ∧ ∀ z ∈ handA, SOk 4000 z := by
  refine ⟨by decide +kernel, fun z hz => ?_⟩
  exact sok_of (List.all_eq_true.mp (show handA.all (fun z => (PyData.str z).canLay0 && decide (z.length ≤ 4000)) = true by decide +kernel) z hz)
theorem hand_ok : handL.length ≤ 100 ∧ ∀ z ∈ handL, SOk 4000 z := by
  refine ⟨by simp only [handL, handD, handC, handB, List.length_append, handA_ok.1]; decide, fun z hz => ?_⟩
  simp only [handL, handD, handC, handB, List.mem_append, List.mem_cons, List.not_mem_nil, or_false] at hz
  rcases hz with (((hz | rfl | rfl | rfl | rfl | rfl | rfl) | rfl | rfl) | rfl) | rfl | rfl
  · exact handA_ok.2 z hz
  · exact (bigs _ (by simp)).mono (by decide)
  · exact (bigs _ (by simp)).mono (by decide)
  · exact (bigs _ (by simp)).mono (by decide)
  · exact (bigs _ (by simp)).mono (by decide)
  · exact (bigs _ (by simp)).mono (by decide)
  · exact bigT_ok
  · exact bigC_ok
  · exact (bigs _ (by simp)).mono (by decide)
  · exact nineT_ok
  · exact nineU_ok
  · exact (bigs _ (by simp)).mono (by decide)
theorem q_hand : F__law_hand [] st = .ok (.list (handL.map .str)) st := by
  have h0 : (sAsg (mLst (msCons (mC (.str "")) (msCons (mC (.str " ")) (msCons (mC (.str "tell")) (msCons (mC (.str "tell ")) (msCons (mC (.str " tell amy 0 0 -")) (msCons (mC (.str "tell amy")) (msCons (mC (.str "tell amy 0")) (msNil))))))))) (tgName 0)) [none] st = .nx [some (lsD (handA.take 7))] st := by kernel_rfl
  have h1 : (sAsg (mAdd (mVar 0) (mLst (msCons (mC (.str "tell amy 0 0")) (msCons (mC (.str "tell amy 0 0 -")) (msNil))))) (tgName 0)) [some (lsD (handA.take 7))] st = .nx [some (lsD (handA.take 9))] st := by kernel_rfl
  have h2 : (sAsg (mAdd (mVar 0) (mLst (msCons (mC (.str "tell amy 0 0 - -")) (msCons (mC (.str "tell amy 0 0 -1")) (msCons (mC (.str "tell amy -0 0 -")) (msCons (mC (.str "tell amy 0 -0 -")) (msNil))))))) (tgName 0)) [some (lsD (handA.take 9))] st = .nx [some (lsD (handA.take 13))] st := by kernel_rfl
  have h3 : (sAsg (mAdd (mVar 0) (mLst (msCons (mC (.str "tell amy - 0 -")) (msCons (mC (.str "tell Amy 0 0 -")) (msNil))))) (tgName 0)) [some (lsD (handA.take 13))] st = .nx [some (lsD (handA.take 15))] st := by kernel_rfl
  have h4 : (sAsg (mAdd (mVar 0) (mLst (msCons (mC (.str "tell amy  0 0 -")) (msCons (mC (.str "tell amy 0 0 - ")) (msCons (mC (.str "tell amy 0 0 -\n")) (msCons (mC (.str "tell\namy 0 0 -")) (msNil))))))) (tgName 0)) [some (lsD (handA.take 15))] st = .nx [some (lsD (handA.take 19))] st := by kernel_rfl
  have h5 : (sAsg (mAdd (mVar 0) (mLst (msCons (mC (.str "tell amy 01 0 -")) (msCons (mC (.str "Tell amy 0 0 -")) (msNil))))) (tgName 0)) [some (lsD (handA.take 19))] st = .nx [some (lsD (handA.take 21))] st := by kernel_rfl
  have h6 : (sAsg (mAdd (mVar 0) (mLst (msCons (mC (.str "clock")) (msCons (mC (.str "clock amy")) (msCons (mC (.str "clock amy 1")) (msCons (mC (.str "clock amy 1 2")) (msCons (mC (.str "clock amy 1 2 3")) (msNil)))))))) (tgName 0)) [some (lsD (handA.take 21))] st = .nx [some (lsD (handA.take 26))] st := by kernel_rfl
  have h7 : (sAsg (mAdd (mVar 0) (mLst (msCons (mC (.str "clock amy -1 2")) (msCons (mC (.str "clock amy 1 -")) (msNil))))) (tgName 0)) [some (lsD (handA.take 26))] st = .nx [some (lsD (handA.take 28))] st := by kernel_rfl
  have h8 : (sAsg (mAdd (mVar 0) (mLst (msCons (mC (.str "road")) (msCons (mC (.str "road a")) (msCons (mC (.str "road a a")) (msCons (mC (.str "road a a 1")) (msCons (mC (.str "road a b")) (msCons (mC (.str "road a b 1")) (msCons (mC (.str "road a b -")) (msNil)))))))))) (tgName 0)) [some (lsD (handA.take 28))] st = .nx [some (lsD (handA.take 35))] st := by kernel_rfl
  have h9 : (sAsg (mAdd (mVar 0) (mLst (msCons (mC (.str "road a b -1")) (msCons (mC (.str "road a b 1 1")) (msNil))))) (tgName 0)) [some (lsD (handA.take 35))] st = .nx [some (lsD (handA.take 37))] st := by kernel_rfl
  have h10 : (sAsg (mAdd (mVar 0) (mLst (msCons (mC (.str "cut")) (msCons (mC (.str "cut a")) (msCons (mC (.str "cut a a")) (msCons (mC (.str "cut a b")) (msCons (mC (.str "cut a b c")) (msCons (mC (.str "cut a b 1")) (msCons (mC (.str "cut a ")) (msCons (mC (.str "cut a B")) (msNil))))))))))) (tgName 0)) [some (lsD (handA.take 37))] st = .nx [some (lsD (handA.take 45))] st := by kernel_rfl
  have h11 : (sAsg (mAdd (mVar 0) (mLst (msCons (mC (.str "cut 1 2")) (msCons (mC (.str "lay a b 1")) (msNil))))) (tgName 0)) [some (lsD (handA.take 45))] st = .nx [some (lsD handA)] st := by kernel_rfl
  have mu : ∀ {x : Str} {L : Nat} {n : Nat}, SOk L x → MulOk x (n : Int) → 2 ≤ n → dMulT (.str x) (.int (n : Int)) = some (.str (Txt.mul x (n : Int))) := fun h hm hn => (mulT_ok h hm hn).1
  have m1 : dMulT (.str "a") (.int 3900) = some (.str (Txt.mul (Str.ofString "a") 3900)) := mu (n := 3900) big_a (by decide +kernel) (by decide)
  have m2 : dMulT (.str " c") (.int 900) = some (.str (Txt.mul (Str.ofString " c") 900)) := mu (n := 900) big_c (by decide +kernel) (by decide)
  have m3 : dMulT (.str "9") (.int 60) = some (.str (Txt.mul (Str.ofString "9") 60)) := mu (n := 60) big_9 (by decide +kernel) (by decide)
  have m4 : dMulT (.str "9") (.int 61) = some (.str (Txt.mul (Str.ofString "9") 61)) := mu (n := 61) big_9 (by decide +kernel) (by decide)
  have ad : ∀ {a b : Str} {L M : Nat}, SOk L a → SOk M b → L + M ≤ 100000 → ∀ S, fAdd (.str a) (.str b) S = .ok (.str (a ++ b)) S := fun h1 h2 hl S => add_sB (by have := h1.len; have := h2.len; omega) S
  have w1 := bigs (Str.ofString "tell ") (by simp)
  have w2 := bigs (Str.ofString " 0 0 -") (by simp)
  have w3 := bigs (Str.ofString "cut a b") (by simp)
  have w4 := bigs (Str.ofString "tell amy ") (by simp)
  have w5 := bigs (Str.ofString " -") (by simp)
  have w6 := bigs (Str.ofString " ") (by simp)
  have w7 := bigs (Str.ofString " 0 -") (by simp)
  have k1 : SOk (3900 * 1) (Txt.mul (Str.ofString "a") 3900) := mul_ok (n := 3900) big_a (by decide)
  have k2 : SOk (900 * 2) (Txt.mul (Str.ofString " c") 900) := mul_ok (n := 900) big_c (by decide)
  have k3 : SOk (60 * 1) (Txt.mul (Str.ofString "9") 60) := mul_ok (n := 60) big_9 (by decide)
  have k4 : SOk (61 * 1) (Txt.mul (Str.ofString "9") 61) := mul_ok (n := 61) big_9 (by decide)
  have a1 := ad w1 k1 (by decide)
  have a2 := ad (w1.cat k1) w2 (by decide)
  have a3 := ad w3 k2 (by decide)
  have a4 := ad w4 k3 (by decide)
  have a5 := ad (w4.cat k3) w5 (by decide)
  have a6 := ad ((w4.cat k3).cat w5) k3 (by decide)
  have a7 := ad (((w4.cat k3).cat w5).cat k3) w6 (by decide)
  have a8 := ad ((((w4.cat k3).cat w5).cat k3).cat w6) k3 (by decide)
  have a9 := ad w4 k4 (by decide)
  have b1 := ad (w4.cat k4) w7 (by decide)
  have eT : Str.ofString "tell " ++ Txt.mul (Str.ofString "a") 3900 ++ Str.ofString " 0 0 -" = bigT := rfl
  have eC : Str.ofString "cut a b" ++ Txt.mul (Str.ofString " c") 900 = bigC := rfl
  have eN : Str.ofString "tell amy " ++ Txt.mul (Str.ofString "9") 60 ++ Str.ofString " -" ++ Txt.mul (Str.ofString "9") 60 ++ Str.ofString " " ++ Txt.mul (Str.ofString "9") 60 = nineT := rfl
  have eU : Str.ofString "tell amy " ++ Txt.mul (Str.ofString "9") 61 ++ Str.ofString " 0 -" = nineU := rfl
  rw [eT] at a2
  rw [eC] at a3
  rw [eN] at a8
  rw [eU] at b1
  have la := handA_ok.1
  have lB : handB.length = 53 := by simp only [handB, List.length_append, la]; rfl
  have lC : handC.length = 55 := by simp only [handC, List.length_append, lB]; rfl
  have lD : handD.length = 56 := by simp only [handD, List.length_append, lC]; rfl
  have mk6 : ∀ a b c d e f : Str, mkLst [.str a, .str b, .str c, .str d, .str e, .str f] st = .ok (lsD [a, b, c, d, e, f]) st := fun _ _ _ _ _ _ => if_pos (sz_le (show 6 ≤ 1000 by decide))
  have mk2 : ∀ a b : Str, mkLst [.str a, .str b] st = .ok (lsD [a, b]) st := fun _ _ => if_pos (sz_le (show 2 ≤ 1000 by decide))
  have mk1 : ∀ a : Str, mkLst [.str a] st = .ok (lsD [a]) st := fun _ => if_pos (sz_le (show 1 ≤ 1000 by decide))
  have f1 : fAdd (lsD handA) (lsD [Str.ofString "undo", Str.ofString "-", Str.ofString "live", Str.ofString "host a 0 0 1", Str.ofString "most 4 more", bigT]) st = .ok (lsD handB) st := ls_add (by rw [la]; decide) st
  have f2 : fAdd (lsD handB) (lsD [bigC, Str.ofString "\n"]) st = .ok (lsD handC) st := ls_add (by rw [lB]; decide) st
  have f3 : fAdd (lsD handC) (lsD [nineT]) st = .ok (lsD handD) st := ls_add (by rw [lC]; decide) st
  have f4 : fAdd (lsD handD) (lsD [nineU, Str.ofString "road a ab 0"]) st = .ok (lsD handL) st := ls_add (by rw [lD]; decide) st
  generalize Txt.mul (Str.ofString "a") 3900 = Ta at *
  generalize Txt.mul (Str.ofString " c") 900 = Tc at *
  generalize Txt.mul (Str.ofString "9") 60 = Tn at *
  generalize Txt.mul (Str.ofString "9") 61 = Tm at *
  generalize bigT = BT at *
  generalize bigC = BC at *
  generalize nineT = NT at *
  generalize nineU = NU at *
  have h12 : (sAsg (mAdd (mVar 0) (mLst (msCons (mC (.str "undo")) (msCons (mC (.str "-")) (msCons (mC (.str "live")) (msCons (mC (.str "host a 0 0 1")) (msCons (mC (.str "most 4 more")) (msCons (mAdd (mAdd (mC (.str "tell ")) (mMulT (mC (.str "a")) (mC (.int 3900)))) (mC (.str " 0 0 -"))) (msNil))))))))) (tgName 0)) [some (lsD handA)] st = .nx [some (lsD handB)] st := by
    generalize lsD handA = LA at *
    generalize lsD handB = LB at *
    simp -implicitDefEqProofs [m1, a1, a2, mk6, f1]
  have h13 : (sAsg (mAdd (mVar 0) (mLst (msCons (mAdd (mC (.str "cut a b")) (mMulT (mC (.str " c")) (mC (.int 900)))) (msCons (mC (.str "\n")) (msNil))))) (tgName 0)) [some (lsD handB)] st = .nx [some (lsD handC)] st := by
    generalize lsD handB = LB at *
    generalize lsD handC = LC at *
    simp -implicitDefEqProofs [m2, a3, mk2, f2]
  have h14 : (sAsg (mAdd (mVar 0) (mLst (msCons (mAdd (mAdd (mAdd (mAdd (mAdd (mC (.str "tell amy ")) (mMulT (mC (.str "9")) (mC (.int 60)))) (mC (.str " -"))) (mMulT (mC (.str "9")) (mC (.int 60)))) (mC (.str " "))) (mMulT (mC (.str "9")) (mC (.int 60)))) (msNil)))) (tgName 0)) [some (lsD handC)] st = .nx [some (lsD handD)] st := by
    generalize lsD handC = LC at *
    generalize lsD handD = LD at *
    simp -implicitDefEqProofs [m3, a4, a5, a6, a7, a8, mk1, f3]
  have h15 : (sRet (mAdd (mVar 0) (mLst (msCons (mAdd (mAdd (mC (.str "tell amy ")) (mMulT (mC (.str "9")) (mC (.int 61)))) (mC (.str " 0 -"))) (msCons (mC (.str "road a ab 0")) (msNil)))))) [some (lsD handD)] st = .rt (lsD handL) st := by
    generalize lsD handD = LD at *
    generalize lsD handL = LL at *
    simp -implicitDefEqProofs [m4, a9, b1, mk2, f4]
  unfold F__law_hand b__law_hand
  rw [fnP_e, show startD 1 [] = [none] from rfl]
  rw [seqN h0 (seqN h1 (seqN h2 (seqN h3 (seqN h4 (seqN h5 (seqN h6 (seqN h7 (seqN h8 (seqN h9 (seqN h10 (seqN h11 (seqN h12 (seqN h13 (seqN h14 h15))))))))))))))]
  exact fin_same rfl
def odd1 : List Pv.D := [.none, .tuple [], .str "cut a b", .list [.str "cut", .str "a", .str "b"], .tuple [.str "cut", .str "a", .str "a"], .tuple [.str "tell", .str "a", .int 0, .int 0],
  .tuple [.str "clock", .str "a", .int (-1), .int 0], .int 0, .bool true,
  .tuple [.str "road", .str "a", .str "b", .bool true], .tuple [.str "tell", .str "A", .int 0, .int 0, .none], .tuple [.str "live", .str "a", .str "b"], .tuple [.str "tell", .str "a", .int 0, .int 0, .int (-1)]]
def odd2 : List Pv.D := [.none, .int 0, .bool true, .tuple [], .list [.str "cut a b"], .tuple [.str "cut", .str "a", .str "b"]]
def useE (w : Str) : Pv.D := .tuple [.str "use", .str w, .int (-1)]
theorem cl_bool (b : Bool) : Cl (.bool b) := ⟨rfl, by unfold Pv.wt; decide, Nat.zero_le _⟩
theorem odd_live (S : Sto) : ∀ d ∈ odd1, F_is_live_event [d] S = .ok (.bool false) S := by
  intro d hd
  have cl1 : ∀ z ∈ ([Str.ofString "a", Str.ofString "A", Str.ofString "b"] : List Str), Cl (.str z) := fun z hz => by
    simp only [List.mem_cons, List.not_mem_nil, or_false] at hz
    rcases hz with rfl | rfl | rfl <;> exact ⟨by kernel_rfl, by decide +kernel, Nat.zero_le _⟩
  have na : ∀ S, F_is_name [.str "a"] S = .ok (.bool true) S := fun S => by rw [q_name (cl1 _ (by simp))]; rw [show isName (.str "a") = true by decide +kernel]
  have nb : ∀ S, F_is_name [.str "b"] S = .ok (.bool true) S := fun S => by rw [q_name (cl1 _ (by simp))]; rw [show isName (.str "b") = true by decide +kernel]
  have nA : ∀ S, F_is_name [.str "A"] S = .ok (.bool false) S := fun S => by rw [q_name (cl1 _ (by simp))]; rw [show isName (.str "A") = false by decide +kernel]
  have i0 : ∀ S, F_is_integer [.int 0] S = .ok (.bool true) S := fun S => q_int (cl_int (by decide))
  have n0 : ∀ S, F_is_number [.int (-1)] S = .ok (.bool false) S := fun S => q_num (cl_int (by decide))
  have n1 : ∀ S, F_is_number [.bool true] S = .ok (.bool false) S := fun S => q_num (cl_bool _)
  have lt : ∀ S, F_is_letter [.int (-1)] S = .ok (.bool false) S := fun S => by
    unfold F_is_letter b_is_letter
    rw [fnP_e]
    simp -implicitDefEqProofs [startD, isNone, n0]
  have c0 : dCmp .NotEq (.str "a") (.str "a") = some (.bool false) := by kernel_rfl
  have c1 : dCmp .NotEq (.str "a") (.str "b") = some (.bool true) := by kernel_rfl
  have two0 : ∀ S, F_are_two [.str "a", .str "a"] S = .ok (.bool false) S := fun S => by
    unfold F_are_two b_are_two
    rw [fnP_e]
    simp -implicitDefEqProofs [startD, na, c0]
  have two1 : ∀ S, F_are_two [.str "a", .str "b"] S = .ok (.bool true) S := fun S => by
    unfold F_are_two b_are_two
    rw [fnP_e]
    simp -implicitDefEqProofs [startD, na, nb, c1]
  have td1 : ∀ S, F_is_told [.tuple [.str "A", .int 0, .int 0, .none]] S = .ok (.bool false) S := fun S => by
    unfold F_is_told b_is_told
    rw [fnP_e]
    simp -implicitDefEqProofs [startD, nA]
  have td2 : ∀ S, F_is_told [.tuple [.str "a", .int 0, .int 0, .int (-1)]] S = .ok (.bool false) S := fun S => by
    unfold F_is_told b_is_told
    rw [fnP_e]
    simp -implicitDefEqProofs [startD, na, i0, lt]
  have ck : ∀ S, F_is_clocked [.tuple [.str "a", .int (-1), .int 0]] S = .ok (.bool false) S := fun S => by
    unfold F_is_clocked b_is_clocked
    rw [fnP_e]
    simp -implicitDefEqProofs [startD, na, n0]
  have le : ∀ S, F_is_led [.tuple [.str "a", .str "b", .bool true]] S = .ok (.bool false) S := fun S => by
    unfold F_is_led b_is_led
    rw [fnP_e]
    simp -implicitDefEqProofs [startD, two1, n1]
  have x0 : ∀ (a : Pv.D) (l : List Pv.D) S, fIx (.tuple (a :: l)) (.int 0) S = .ok a S := fun a l S => ix_t (j := 0) rfl
  have x1 : ∀ (a b : Pv.D) (l : List Pv.D) S, fIx (.tuple (a :: b :: l)) (.int 1) S = .ok b S := fun a b l S => ix_t (j := 1) rfl
  have x2 : ∀ (a b c : Pv.D) (l : List Pv.D) S, fIx (.tuple (a :: b :: c :: l)) (.int 2) S = .ok c S := fun a b c l S => ix_t (j := 2) rfl
  have ln : ∀ (l : List Pv.D) S, dLen (deref S (.tuple l)) = some (.int (l.length : Int)) := fun _ _ => rfl
  have s2 : ∀ (sl : Sl) (d e : Pv.D) s, set2 1 2 sl [d, e] s = .nx ((sl.set 1 (some d)).set 2 (some e)) s := fun _ _ _ _ => rfl
  have cut5 : ∀ (a b c d e : Pv.D) S, fSl (some 1) none (.tuple [a, b, c, d, e]) S = .ok (.tuple [b, c, d, e]) S := fun _ _ _ _ _ _ => rfl
  have cut4 : ∀ (a b c d : Pv.D) S, fSl (some 1) none (.tuple [a, b, c, d]) S = .ok (.tuple [b, c, d]) S := fun _ _ _ _ _ => rfl
  have h11 : dCmp .Eq (.str "tell") (.str "tell") = some (.bool true) := by kernel_rfl
  have h21 : dCmp .Eq (.str "clock") (.str "tell") = some (.bool false) := by kernel_rfl
  have h22 : dCmp .Eq (.str "clock") (.str "clock") = some (.bool true) := by kernel_rfl
  have h31 : dCmp .Eq (.str "road") (.str "tell") = some (.bool false) := by kernel_rfl
  have h32 : dCmp .Eq (.str "road") (.str "clock") = some (.bool false) := by kernel_rfl
  have h33 : dCmp .Eq (.str "road") (.str "road") = some (.bool true) := by kernel_rfl
  have h41 : dCmp .Eq (.str "cut") (.str "tell") = some (.bool false) := by kernel_rfl
  have h42 : dCmp .Eq (.str "cut") (.str "clock") = some (.bool false) := by kernel_rfl
  have h43 : dCmp .Eq (.str "cut") (.str "road") = some (.bool false) := by kernel_rfl
  have h44 : dCmp .Eq (.str "cut") (.str "cut") = some (.bool true) := by kernel_rfl
  have h51 : dCmp .Eq (.str "live") (.str "tell") = some (.bool false) := by kernel_rfl
  have h52 : dCmp .Eq (.str "live") (.str "clock") = some (.bool false) := by kernel_rfl
  have h53 : dCmp .Eq (.str "live") (.str "road") = some (.bool false) := by kernel_rfl
  have h54 : dCmp .Eq (.str "live") (.str "cut") = some (.bool false) := by kernel_rfl
  unfold F_is_live_event b_is_live_event
  rw [fnP_e]
  simp only [odd1, List.mem_cons, List.not_mem_nil, or_false] at hd
  rcases hd with rfl | rfl | rfl | rfl | rfl | rfl | rfl | rfl | rfl | rfl | rfl | rfl | rfl
  all_goals simp -implicitDefEqProofs [startD, tyD, Ty.sub, ln, x0, x1, x2, s2, cut5, cut4, h11, h21, h22, h31, h32, h33, h41, h42, h43, h44, h51, h52, h53, h54, two0, td1, td2, ck, le]
theorem odd_line {S : Sto} (hS : StC S) : ∀ d ∈ odd1, okOnly (sF__law_heard (F_event_line [d] S)) = .ok (useE "event") S := by
  intro d hd
  have e : F_event_line [d] S = .exc ("NotUsable", [("at", .int (-1)), ("word", .str "event")]) S := by
    have q := odd_live S d hd
    have w := want_f (st := S) hS "event"
    unfold F_event_line b_event_line
    rw [fnP_e]
    have fin : finR S.length (.exc ("NotUsable", [("at", .int (-1)), ("word", .str "event")]) S) = .exc ("NotUsable", [("at", .int (-1)), ("word", .str "event")]) S := if_pos rfl
    simp -implicitDefEqProofs [startD, q, w, fin]
  rw [e, q_heardU hS]; rfl
theorem odd_ty (S : Sto) : ∀ d ∈ odd2, ∃ T, tyD S d = some T ∧ T.sub .str = false := by
  intro d hd
  simp only [odd2, List.mem_cons, List.not_mem_nil, or_false] at hd
  rcases hd with rfl | rfl | rfl | rfl | rfl | rfl
  all_goals exact ⟨_, rfl, by decide⟩
theorem odd_read {S : Sto} (hS : StC S) : ∀ d ∈ odd2, okOnly (sF__law_heard (F_read_event [d] S)) = .ok (useE "text") S := by
  intro d hd
  obtain ⟨T, h, hT⟩ := odd_ty S d hd
  have e : F_read_event [d] S = .exc ("NotUsable", [("at", .int (-1)), ("word", .str "text")]) S := by
    have w := want_f (st := S) hS "text"
    unfold F_read_event b_read_event
    rw [fnP_e]
    have fin : finR S.length (.exc ("NotUsable", [("at", .int (-1)), ("word", .str "text")]) S) = .exc ("NotUsable", [("at", .int (-1)), ("word", .str "text")]) S := if_pos rfl
    simp -implicitDefEqProofs [startD, h, hT, w, fin]
  rw [e, q_heardU hS]; rfl
theorem use_ok : Ok (useE "event") (2 ^ 20) 3 ∧ Ok (useE "text") (2 ^ 20) 3 := ⟨⟨by kernel_rfl, by decide +kernel, by decide +kernel⟩, ⟨by kernel_rfl, by decide +kernel, by decide +kernel⟩⟩
theorem q_refused {S : Sto} (hS : StC S) (ht : tbOk S (tb 1) "_law_are_refused.<locals>.<lambda>" = true) : F__law_are_refused tb [] S = .ok (.bool true) S := by
  obtain ⟨z1, hz1⟩ : ∃ z : Str, ∀ S, reprD S (useE "event") = some (.str z) := ⟨_, fun S => repr_ok use_ok.1 (by decide) (by decide) S⟩
  obtain ⟨z2, hz2⟩ : ∃ z : Str, ∀ S, reprD S (useE "text") = some (.str z) := ⟨_, fun S => repr_ok use_ok.2 (by decide) (by decide) S⟩
  have cz : ∀ z : Str, dCmp .NotEq (.str z) (.str z) = some (.bool false) := fun z => by rw [cmp_sn]; simp
  have mt1 : mkTup [.str "use", .str "event", .int (-1)] S = .ok (useE "event") S := if_pos (sz_le (show 3 ≤ 1000 by decide))
  have mt2 : mkTup [.str "use", .str "text", .int (-1)] S = .ok (useE "text") S := if_pos (sz_le (show 3 ≤ 1000 by decide))
  have lc1 : mLc (mIter (mVar 0)) (.nm 1) (mTb (mCmp .NotEq (mReprF (mSaid (tb 1) "_law_are_refused.<locals>.<lambda>" sF__law_heard (mCall F_event_line (msCons (mVar 1) (msNil))))) (mReprF (mTup (msCons (mC (.str "use")) (msCons (mC (.str "event")) (msCons (mNeg (mC (.int 1))) (msNil)))))))) (mVar 1) [1] [some (.list odd1), none] S = .ok (.list []) S := by
    have := mLc_ifB (keep := always) (mi := mIter (mVar 0)) (t := .nm 1) (tt := mTb (mCmp .NotEq (mReprF (mSaid (tb 1) "_law_are_refused.<locals>.<lambda>" sF__law_heard (mCall F_event_line (msCons (mVar 1) (msNil))))) (mReprF (mTup (msCons (mC (.str "use")) (msCons (mC (.str "event")) (msCons (mNeg (mC (.int 1))) (msNil)))))))) (te := mVar 1) (vs := [1]) (sl := [some (.list odd1), none]) (st := S) odd1 id (fun _ => PyData.none) (fun _ => false) (by rw [List.map_id]; simp) trivial (by simp [odd1]) fun d hd => ⟨_, rfl, by
        have sd := odd_line hS d hd
        generalize useE "event" = U at *
        simp -implicitDefEqProofs [wipeD, ht, sd, dNeg, mt1, hz1, cz], fun e => by cases e⟩
    rw [this, List.filter_eq_nil_iff.mpr (by simp)]; rfl
  have lc2 : mLc (mIter (mVar 0)) (.nm 1) (mTb (mCmp .NotEq (mReprF (mSaid (tb 1) "_law_are_refused.<locals>.<lambda>" sF__law_heard (mCall F_read_event (msCons (mVar 1) (msNil))))) (mReprF (mTup (msCons (mC (.str "use")) (msCons (mC (.str "text")) (msCons (mNeg (mC (.int 1))) (msNil)))))))) (mVar 1) [1] [some (.list odd2), none] S = .ok (.list []) S := by
    have := mLc_ifB (keep := always) (mi := mIter (mVar 0)) (t := .nm 1) (tt := mTb (mCmp .NotEq (mReprF (mSaid (tb 1) "_law_are_refused.<locals>.<lambda>" sF__law_heard (mCall F_read_event (msCons (mVar 1) (msNil))))) (mReprF (mTup (msCons (mC (.str "use")) (msCons (mC (.str "text")) (msCons (mNeg (mC (.int 1))) (msNil)))))))) (te := mVar 1) (vs := [1]) (sl := [some (.list odd2), none]) (st := S) odd2 id (fun _ => PyData.none) (fun _ => false) (by rw [List.map_id]; simp) trivial (by simp [odd2]) fun d hd => ⟨_, rfl, by
        have sd := odd_read hS d hd
        generalize useE "text" = U at *
        simp -implicitDefEqProofs [wipeD, ht, sd, dNeg, mt2, hz2, cz], fun e => by cases e⟩
    rw [this, List.filter_eq_nil_iff.mpr (by simp)]; rfl
  have ne : dCmp .NotEq (.list []) (.list []) = some (.bool false) := by kernel_rfl
  have eq : dCmp .Eq (.list []) (.list []) = some (.bool true) := by kernel_rfl
  have mk0 : ∀ S, mkLst [] S = .ok (.list []) S := fun S => if_pos (sz_le (show 0 ≤ 1000 by decide))
  unfold F__law_are_refused b__law_are_refused
  rw [fnP_e]
  have a1 : (sAsg (mLst (msCons (mC .none) (msCons (mTup (msNil)) (msCons (mC (.str "cut a b")) (msCons (mLst (msCons (mC (.str "cut")) (msCons (mC (.str "a")) (msCons (mC (.str "b")) (msNil))))) (msCons (mTup (msCons (mC (.str "cut")) (msCons (mC (.str "a")) (msCons (mC (.str "a")) (msNil))))) (msCons (mTup (msCons (mC (.str "tell")) (msCons (mC (.str "a")) (msCons (mC (.int 0)) (msCons (mC (.int 0)) (msNil)))))) (msNil)))))))) (tgName 0)) [none, none] S = .nx [some (.list (odd1.take 6)), none] S := by kernel_rfl
  have a2 : (sAsg (mAdd (mVar 0) (mLst (msCons (mTup (msCons (mC (.str "clock")) (msCons (mC (.str "a")) (msCons (mNeg (mC (.int 1))) (msCons (mC (.int 0)) (msNil)))))) (msCons (mC (.int 0)) (msCons (mC (.bool true)) (msNil)))))) (tgName 0)) [some (.list (odd1.take 6)), none] S = .nx [some (.list (odd1.take 9)), none] S := by kernel_rfl
  have a3 : (sAsg (mAdd (mVar 0) (mLst (msCons (mTup (msCons (mC (.str "road")) (msCons (mC (.str "a")) (msCons (mC (.str "b")) (msCons (mC (.bool true)) (msNil)))))) (msCons (mTup (msCons (mC (.str "tell")) (msCons (mC (.str "A")) (msCons (mC (.int 0)) (msCons (mC (.int 0)) (msCons (mC .none) (msNil))))))) (msCons (mTup (msCons (mC (.str "live")) (msCons (mC (.str "a")) (msCons (mC (.str "b")) (msNil))))) (msNil)))))) (tgName 0)) [some (.list (odd1.take 9)), none] S = .nx [some (.list (odd1.take 12)), none] S := by kernel_rfl
  have a4 : (sAsg (mAdd (mVar 0) (mLst (msCons (mTup (msCons (mC (.str "tell")) (msCons (mC (.str "a")) (msCons (mC (.int 0)) (msCons (mC (.int 0)) (msCons (mNeg (mC (.int 1))) (msNil))))))) (msNil)))) (tgName 0)) [some (.list (odd1.take 12)), none] S = .nx [some (.list odd1), none] S := by kernel_rfl
  have a5 : (sIf (mTb (mCmp .NotEq (mLc (mIter (mVar 0)) (.nm 1) (mTb (mCmp .NotEq (mReprF (mSaid (tb 1) "_law_are_refused.<locals>.<lambda>" sF__law_heard (mCall F_event_line (msCons (mVar 1) (msNil))))) (mReprF (mTup (msCons (mC (.str "use")) (msCons (mC (.str "event")) (msCons (mNeg (mC (.int 1))) (msNil)))))))) (mVar 1) [1]) (mLst (msNil)))) (sRet (mC (.bool false))) (sNil)) [some (.list odd1), none] S = .nx [some (.list odd1), none] S := by
    generalize odd1 = O at *
    simp -implicitDefEqProofs [lc1, mk0, ne]
  have a6 : ∀ a, (sAsg (mLst (msCons (mC .none) (msCons (mC (.int 0)) (msCons (mC (.bool true)) (msCons (mTup (msNil)) (msCons (mLst (msCons (mC (.str "cut a b")) (msNil))) (msCons (mTup (msCons (mC (.str "cut")) (msCons (mC (.str "a")) (msCons (mC (.str "b")) (msNil))))) (msNil)))))))) (tgName 0)) [a, none] S = .nx [some (.list odd2), none] S := fun a => by kernel_rfl
  rw [show startD 2 [] = [none, none] from rfl, seqN a1 (seqN a2 (seqN a3 (seqN a4 (seqN a5 (seqN (a6 _) rfl)))))]
  generalize odd2 = O at *
  simp -implicitDefEqProofs [lc2, mk0, eq]
theorem turnL (hcs : IntsD cs) (hl : cs.length ≤ 63) (h01 : tb 0 ≠ tb 1) (a0 : Option Pv.D) (lap : Pv.D) :
    ∃ sl' sp' lf' dr', (tgName 2 lap [a0, some (Rf 2), none, none, none, none] (SS tb cs sp lf dr)).thenS (l0_law tb) = .nx sl' (SS tb cs sp' lf' dr') ∧ wipeD sl' [2, 3, 4, 5] = [a0, some (Rf 2), none, none, none, none] := by
  obtain ⟨d, sp1, lf1, dr1, e1, dk⟩ := q_drawn (pre := T0 tb) hcs hl sp lf dr
  have e1 : F__law_drawn_event [Rf 2] (SS tb cs sp lf dr) = .ok (dDeed d) (SS tb cs sp1 lf1 dr1) := e1
  have lo := line_ok dk
  have lt := lo.tx (by decide)
  have ev := ev_back dk
  have dok : Ok (dDeed d) 500 1 := by have := ev_ok lt; rw [ev] at this; exact this
  have q1 : ∀ S, F__law_line [dDeed d] S = .ok (.str (lineE d)) S := fun S => q_line dk
  have q2 : ∀ S, F_event_line [dDeed d] S = .ok (.str (lineE d)) S := fun S => q_eline dk
  have q3 : F_read_event [.str (lineE d)] (SS tb cs sp1 lf1 dr1) = .ok (dDeed d) (SS tb cs sp1 lf1 dr1) := by
    rw [q_read_event (S_clean hcs) lt (ev_lay lt), ev]
  obtain ⟨y1, sp2, lf2, dr2, e2, o2⟩ := q_bent (pre := T0 tb) hcs hl lo (by decide) sp1 lf1 dr1
  obtain ⟨y2, sp3, lf3, dr3, e3, o3⟩ := q_bent (pre := T0 tb) hcs hl lo (by decide) sp2 lf2 dr2
  have e2 : F__law_bent [Rf 2, .str (lineE d)] (SS tb cs sp1 lf1 dr1) = .ok (.str y1) (SS tb cs sp2 lf2 dr2) := e2
  have e3 : F__law_bent [Rf 2, .str (lineE d)] (SS tb cs sp2 lf2 dr2) = .ok (.str y2) (SS tb cs sp3 lf3 dr3) := e3
  have r2 := q_read_right tb (S_clean (sp := sp2) (lf := lf2) (dr := dr2) hcs) (S_tb h01).1 (o2.tx (by decide))
  have r3 := q_read_right tb (S_clean (sp := sp3) (lf := lf3) (dr := dr3) hcs) (S_tb h01).1 (o3.tx (by decide))
  have lok : Ok (.list [.str (lineE d), .str (lineE d), dDeed d]) (2 ^ 24) 7 := by
    refine (Ok.lst (m := 5000) (k := 1) (c := 3) (fun x hx => ?_) (by simp)).mono (by decide) (by decide)
    have so : Ok (.str (lineE d)) 5000 1 := (Bd.str (n := 5000) (k := 1) (b := 0) lo.lay (by have := lo.len; omega)).ok
    simp only [List.mem_cons, List.not_mem_nil, or_false] at hx
    rcases hx with rfl | rfl | rfl
    · exact so
    · exact so
    · exact dok.mono (by decide) (by decide)
  obtain ⟨z, hz⟩ : ∃ z : Str, ∀ S, reprD S (.list [.str (lineE d), .str (lineE d), dDeed d]) = some (.str z) := ⟨_, fun S => repr_ok lok (by decide) (by decide) S⟩
  have cz : dCmp .NotEq (.str z) (.str z) = some (.bool false) := by rw [cmp_sn]; simp
  have mk3 : ∀ a b c S, mkLst [a, b, c] S = .ok (.list [a, b, c]) S := fun _ _ _ S => if_pos (sz_le (show 3 ≤ 1000 by decide))
  have r0 : ∀ a : Pv.D, perm [0] [a] = [a] := fun _ => rfl
  generalize SS tb cs sp lf dr = S0 at *
  generalize hS1 : SS tb cs sp1 lf1 dr1 = S1 at *
  generalize hS2 : SS tb cs sp2 lf2 dr2 = S2 at *
  generalize dDeed d = D at *
  generalize lineE d = Z at *
  refine ⟨[a0, some (Rf 2), some lap, some D, some (.str Z), some (.list [.str Z, .str Z, D])], sp3, lf3, dr3, ?_, rfl⟩
  generalize hS3 : SS tb cs sp3 lf3 dr3 = S3 at *
  unfold l0_law
  simp -implicitDefEqProofs [e1, q1, q2, r0, q3, mk3, hz, cz, e2, r2, e3, r3]
theorem law_ok (tb : Nat → Addr) (h01 : tb 0 ≠ tb 1) : ∀ ns : List Int, ns.length ≤ 63 → ∃ st, F_law tb [Gs (ns.map .int)] [.tb (tb 0) "_law_is_read_right.<locals>.<lambda>", .tb (tb 1) "_law_are_refused.<locals>.<lambda>"] = .ok (.bool true) st := by
  intro ns hns
  have hcs := ints_ns ns
  have hcl : (ns.map PyData.int).length ≤ 63 := by rw [List.length_map]; exact hns
  obtain ⟨cs, hc⟩ : ∃ cs, cs = ns.map PyData.int := ⟨_, rfl⟩
  have hf : F__law_feed [Gs (ns.map .int)] (T0 tb) = .ok (Rf 2) (SS tb (ns.map .int) 0 0 0) := q_feed hns (T0 tb)
  rw [← hc] at hcs hcl hf
  obtain ⟨a0, ha0⟩ : ∃ a0 : Option Pv.D, a0 = some (Gs cs) := ⟨_, rfl⟩
  obtain ⟨sl2, st2, f2, sp', lf', dr', h5, h6⟩ := forL_inv (keep := always) (tg := tgName 2) (body := l0_law tb) (fg := [2, 3, 4, 5]) (fun _ sl st => ∃ (sp lf dr : Int), sl = [a0, some (Rf 2), none, none, none, none] ∧ st = SS tb cs sp lf dr) 1000 (fun _ => trivial) (ds := (List.range 16).map fun (j : Nat) => PyData.int (j : Int)) (k := 0) (sl := [a0, some (Rf 2), none, none, none, none]) (st := SS tb cs 0 0 0) (by simp) ⟨_, _, _, rfl, rfl⟩ (by
    rintro d k sl st hd' hk ⟨sp, lf, dr, rfl, rfl⟩
    obtain ⟨sl', sp', lf', dr', q1, q2⟩ := turnL (sp := sp) (lf := lf) (dr := dr) hcs hcl h01 a0 d
    exact ⟨sl', _, q1, sp', lf', dr', q2, rfl⟩)
  subst h5; subst h6
  have hS : StC (SS tb cs sp' lf' dr') := S_clean hcs
  obtain ⟨t0, t1⟩ := S_tb (tb := tb) (cs := cs) (sp := sp') (lf := lf') (dr := dr') h01
  have rf := q_refused hS t1
  have hh : F__law_hand [] (SS tb cs sp' lf' dr') = .ok (.list (handL.map .str)) (SS tb cs sp' lf' dr') := q_hand
  have lc : mLc (mIter (mCall F__law_hand msNil)) (.nm 4) (mNotT (mTru (mCall (F__law_is_read_right tb) (msCons (mVar 4) (msNil))))) (mVar 4) [4] [a0, some (Rf 2), none, none, none, none] (SS tb cs sp' lf' dr') = .ok (.list []) (SS tb cs sp' lf' dr') := by
    have := mLc_ifB (keep := always) (mi := mIter (mCall F__law_hand msNil)) (t := .nm 4) (tt := mNotT (mTru (mCall (F__law_is_read_right tb) (msCons (mVar 4) (msNil))))) (te := mVar 4) (vs := [4]) (sl := [a0, some (Rf 2), none, none, none, none]) (st := SS tb cs sp' lf' dr') handL PyData.str (fun _ => PyData.none) (fun _ => false) (by
      generalize SS tb cs sp' lf' dr' = S at *
      generalize handL.map PyData.str = HL at *
      simp -implicitDefEqProofs [hh]
      try rfl) trivial (Nat.le_trans hand_ok.1 (by decide)) fun z hz => ⟨_, rfl, by
        have w := q_read_right tb hS t0 ((hand_ok.2 z hz).tx (by decide))
        generalize SS tb cs sp' lf' dr' = S at *
        simp -implicitDefEqProofs [wipeD, w], fun e => by cases e⟩
    rw [this, List.filter_eq_nil_iff.mpr (by simp)]; rfl
  have eq : dCmp .Eq (.list []) (.list []) = some (.bool true) := by kernel_rfl
  have mk0 : ∀ S, mkLst [] S = .ok (.list []) S := fun S => if_pos (sz_le (show 0 ≤ 1000 by decide))
  have fin : finR (T0 tb).length (.ok (.bool true) (SS tb cs sp' lf' dr')) = .ok (.bool true) (T0 tb) := fin_app (T0_clean tb) rfl
  have rg : mRng1 (mC (.int 16)) [a0, some (Rf 2), none, none, none, none] (SS tb cs 0 0 0) = .ok ⟨(List.range 16).map fun (j : Nat) => PyData.int (j : Int), always⟩ (SS tb cs 0 0 0) := rng1_at (k := 16) (by simp) (by decide)
  refine ⟨T0 tb, ?_⟩
  show F_law tb [Gs (ns.map .int)] (T0 tb) = _
  rw [← hc]
  have v0 : mVar 0 [a0, none, none, none, none, none] (T0 tb) = .ok (Gs cs) (T0 tb) := by rw [ha0]; rfl
  have p1 : (sAsg (mCall F__law_feed (msCons (mVar 0) (msNil))) (tgName 1)) [a0, none, none, none, none, none] (T0 tb) = .nx [a0, some (Rf 2), none, none, none, none] (SS tb cs 0 0 0) := by
    generalize SS tb cs 0 0 0 = S0 at *
    simp -implicitDefEqProofs [-e_var, v0, hf]
  have p2 : (sFor [2, 3, 4, 5] (mRng1 (mC (.int 16))) (tgName 2) ((l0_law tb))) [a0, some (Rf 2), none, none, none, none] (SS tb cs 0 0 0) = .nx [a0, some (Rf 2), none, none, none, none] (SS tb cs sp' lf' dr') := by
    rw [e_for, rg, th_ok]; exact f2
  unfold F_law b_law
  rw [fnP_e, show startD 6 [Gs cs] = [a0, none, none, none, none, none] by rw [ha0]; rfl, seqN p1 (seqN p2 rfl)]
  generalize SS tb cs sp' lf' dr' = S at *
  simp -implicitDefEqProofs [lc, mk0, eq, rf]
  exact fin
end
end Gstampahead_k76_events_written
set_option Elab.async false
set_option linter.all false
set_option maxRecDepth 100000
set_option maxHeartbeats 400000
namespace Gstampahead_k76_events_written
open PySem PySem.Spec L2 Pv LamX
open PyProof.Rows hiding St
def top (i : Nat) : Stmt := PySem.Challenge.pw_stampahead_k76_events_written.main.body.getD i (.Pass ⟨0, 0, 0, 0⟩)
abbrev s__law_feed : Stmt := top 38
abbrev s__law_draw : Stmt := top 39
abbrev s__law_any : Stmt := top 40
abbrev s__law_drawn_event : Stmt := top 48
abbrev s__law_line : Stmt := top 47
abbrev s_want : Stmt := top 17
abbrev s_is_name : Stmt := top 15
abbrev s_is_integer : Stmt := top 13
abbrev s_is_number : Stmt := top 14
abbrev s_is_letter : Stmt := top 29
abbrev s_is_told : Stmt := top 31
abbrev s_is_clocked : Stmt := top 32
abbrev s_are_two : Stmt := top 30
abbrev s_is_led : Stmt := top 33
abbrev s_is_live_event : Stmt := top 34
abbrev s_event_line : Stmt := top 36
abbrev s_number_of : Stmt := top 21
abbrev s_integer_of : Stmt := top 22
abbrev s_part_of : Stmt := top 25
abbrev s_event_in : Stmt := top 26
abbrev s_read_event : Stmt := top 27
abbrev s__law_is_name : Stmt := top 41
abbrev s__law_is_figures : Stmt := top 42
abbrev s__law_is_whole : Stmt := top 43
abbrev s__law_fits : Stmt := top 44
abbrev s__law_event_read : Stmt := top 45
abbrev s__law_heard : Stmt := top 46
abbrev s__law_is_read_right : Stmt := top 51
abbrev s__law_bent : Stmt := top 49
abbrev s__law_hand : Stmt := top 50
abbrev s__law_are_refused : Stmt := top 52
abbrev s_law : Stmt := top 53
abbrev i_InvalidText : Stmt := initOf (top 9)
abbrev i_NotUsable : Stmt := initOf (top 6)
structure Tx (P : Program) (w : World) (K : PySem.W.Frag) (mg : Str → Option Value) (cc : Nat → Addr) : Prop where
  d__law_feed : DefB K mg "_law_feed" s__law_feed ["_law_script"] (fun fd => True)
  d__law_draw : DefB K mg "_law_draw" s__law_draw ["_law_feed_here", "_law_many"] (fun fd => True)
  d__law_any : DefB K mg "_law_any" s__law_any ["_law_feed_here", "_law_some"] (fun fd => True)
  d__law_drawn_event : DefB K mg "_law_drawn_event" s__law_drawn_event ["_law_feed_here"] (fun fd => True)
  d__law_line : DefB K mg "_law_line" s__law_line ["_law_deed"] (fun fd => True)
  d_want : DefB K mg "want" s_want ["is_right", "word"] (fun fd => True)
  d_is_name : DefB K mg "is_name" s_is_name ["thing"] (fun fd => True)
  d_is_integer : DefB K mg "is_integer" s_is_integer ["thing"] (fun fd => True)
  d_is_number : DefB K mg "is_number" s_is_number ["thing"] (fun fd => True)
  d_is_letter : DefB K mg "is_letter" s_is_letter ["thing"] (fun fd => True)
  d_is_told : DefB K mg "is_told" s_is_told ["parts"] (fun fd => True)
  d_is_clocked : DefB K mg "is_clocked" s_is_clocked ["parts"] (fun fd => True)
  d_are_two : DefB K mg "are_two" s_are_two ["one", "other"] (fun fd => True)
  d_is_led : DefB K mg "is_led" s_is_led ["parts"] (fun fd => True)
  d_is_live_event : DefB K mg "is_live_event" s_is_live_event ["thing"] (fun fd => True)
  d_event_line : DefB K mg "event_line" s_event_line ["event"] (fun fd => BindsK K fd ["event"] ["event"] (perm [0]) ∧ True)
  d_number_of : DefB K mg "number_of" s_number_of ["text"] (fun fd => True)
  d_integer_of : DefB K mg "integer_of" s_integer_of ["text"] (fun fd => True)
  d_part_of : DefB K mg "part_of" s_part_of ["word", "kind", "before"] (fun fd => True)
  d_event_in : DefB K mg "event_in" s_event_in ["row_text", "k"] (fun fd => True)
  d_read_event : DefB K mg "read_event" s_read_event ["text"] (fun fd => BindsK K fd ["text"] ["text"] (perm [0]) ∧ True)
  d__law_is_name : DefB K mg "_law_is_name" s__law_is_name ["_law_item"] (fun fd => True)
  d__law_is_figures : DefB K mg "_law_is_figures" s__law_is_figures ["_law_part"] (fun fd => True)
  d__law_is_whole : DefB K mg "_law_is_whole" s__law_is_whole ["_law_part"] (fun fd => True)
  d__law_fits : DefB K mg "_law_fits" s__law_fits ["_law_sort", "_law_part"] (fun fd => True)
  d__law_event_read : DefB K mg "_law_event_read" s__law_event_read ["_law_text_in"] (fun fd => True)
  d__law_heard : DefB K mg "_law_heard" s__law_heard ["_law_deed"] (fun fd => True)
  d__law_is_read_right : DefC K mg "_law_is_read_right" s__law_is_read_right ["_law_text_in"] (cc 0) (fun fd => True)
  d__law_bent : DefB K mg "_law_bent" s__law_bent ["_law_feed_here", "_law_text_in"] (fun fd => True)
  d__law_hand : DefB K mg "_law_hand" s__law_hand [] (fun fd => True)
  d__law_are_refused : DefC K mg "_law_are_refused" s__law_are_refused [] (cc 1) (fun fd => True)
  n_ValueError : mg "ValueError" = none
  n_all : mg "all" = none
  n_bool : mg "bool" = none
  n_enumerate : mg "enumerate" = none
  n_int : mg "int" = none
  n_isinstance : mg "isinstance" = none
  n_len : mg "len" = none
  n_range : mg "range" = none
  n_repr : mg "repr" = none
  n_str : mg "str" = none
  n_tuple : mg "tuple" = none
  c_DIGITS : GcAt K mg "DIGITS" (.str "0123456789")
  c_LETTERS : GcAt K mg "LETTERS" (.str "abcdefghijklmnopqrstuvwxyz")
  c_MOST_DIGITS : GcAt K mg "MOST_DIGITS" (.int 60)
  c_WORDS : KdAt K w mg "WORDS" [("tell", Gc [.str "name", .str "integer", .str "integer", .str "letter"]), ("clock", Gc [.str "name", .str "number", .str "number"]), ("road", Gc [.str "name", .str "other", .str "number"]), ("cut", Gc [.str "name", .str "other"])]
  x_InvalidText : Exc2 P w K mg "InvalidText" "line" "field"
  x_NotUsable : Exc2 P w K mg "NotUsable" "word" "at"
  m_StampError : ExmAt K mg "StampError" ["NotUsable", "InvalidText"]
  f_at : ∀ c ∈ (["NotUsable", "InvalidText"] : List Str), FldE K mg c "at"
  f_field : ∀ c ∈ (["NotUsable", "InvalidText"] : List Str), FldE K mg c "field"
  f_line : ∀ c ∈ (["NotUsable", "InvalidText"] : List Str), FldE K mg c "line"
  f_word : ∀ c ∈ (["NotUsable", "InvalidText"] : List Str), FldE K mg c "word"
  i_ClusterError : ∀ c ∈ (["NotUsable", "InvalidText"] : List Str), IsE K mg c "ClusterError" (([("NotUsable" : Str)] : List Str).contains c)
  i_InvalidRow : ∀ c ∈ (["NotUsable", "InvalidText"] : List Str), IsE K mg c "InvalidRow" (([] : List Str).contains c)
  i_InvalidText : ∀ c ∈ (["NotUsable", "InvalidText"] : List Str), IsE K mg c "InvalidText" (([("InvalidText" : Str)] : List Str).contains c)
  i_LiveError : ∀ c ∈ (["NotUsable", "InvalidText"] : List Str), IsE K mg c "LiveError" (([] : List Str).contains c)
  i_NotUsable : ∀ c ∈ (["NotUsable", "InvalidText"] : List Str), IsE K mg c "NotUsable" (([("NotUsable" : Str)] : List Str).contains c)
  i_PaperError : ∀ c ∈ (["NotUsable", "InvalidText"] : List Str), IsE K mg c "PaperError" (([] : List Str).contains c)
  i_RunsAhead : ∀ c ∈ (["NotUsable", "InvalidText"] : List Str), IsE K mg c "RunsAhead" (([] : List Str).contains c)
  i_Shut : ∀ c ∈ (["NotUsable", "InvalidText"] : List Str), IsE K mg c "Shut" (([] : List Str).contains c)
  i_TextError : ∀ c ∈ (["NotUsable", "InvalidText"] : List Str), IsE K mg c "TextError" (([("InvalidText" : Str)] : List Str).contains c)
  i_ValueError : ∀ c ∈ (["NotUsable", "InvalidText"] : List Str), IsEb K mg c "ValueError" (([("NotUsable" : Str), ("InvalidText" : Str)] : List Str).contains c)
section
variable {P : Program} {w : World} {K : PySem.W.Frag} {mg : Str → Option Value} {base : Heap} {cc tb : Nat → Addr}
abbrev N__law_feed : List Str := ["_law_script", "_law_cell"]
theorem sc__law_feed : FnScope N__law_feed ["_law_script"] (defScope s__law_feed) := ⟨rfl, rfl, rfl, by decide +kernel, rfl, by decide +kernel, by decide +kernel⟩
theorem h__law_feed (t : Tx P w K mg cc) : HasB P w K mg base 1 "_law_feed" ["_law_script"] F__law_feed (fun fd => True) := by
  obtain ⟨f, fd, hF, hm, hb, hk⟩ := t.d__law_feed
  refine ⟨f, fd, ⟨fnG_of hF sc__law_feed (.inl rfl) ?_, hm, hF.kp, hb⟩, hk⟩
  intro cdv A outer s H E g hr tk po
  exact gss_one (gs_ret (ge_dct (.cons (ge_str) (ge_lc [("_law_cell", 1)] (.nm 1) g (gi_iter (ge_slice (ge_var 0) (go_none) (go_some (ge_int)))) (blkOk_by (N := N__law_feed) (sc := defScope s__law_feed) (by decide +kernel)) (fun _ _ _ _ _ gB1 => gct_name 1 gB1) (fun _ _ _ _ _ gB1 => gts_nil) (fun _ _ _ _ _ gB1 => ge_toint t.n_int (ge_var 1))) (.cons (ge_str) (ge_int) (.cons (ge_str) (ge_int) (.cons (ge_str) (ge_int) (.nil)))))))
abbrev N__law_draw : List Str := ["_law_feed_here", "_law_many", "_law_figure", "_law_spot", "_law_cells", "_law_cell", "_law_mixed"]
theorem sc__law_draw : FnScope N__law_draw ["_law_feed_here", "_law_many"] (defScope s__law_draw) := ⟨rfl, rfl, rfl, by decide +kernel, rfl, by decide +kernel, by decide +kernel⟩
theorem h__law_draw (t : Tx P w K mg cc) : HasB P w K mg base 1 "_law_draw" ["_law_feed_here", "_law_many"] F__law_draw (fun fd => True) := by
  obtain ⟨f, fd, hF, hm, hb, hk⟩ := t.d__law_draw
  refine ⟨f, fd, ⟨fnG_of hF sc__law_draw (.inr rfl) ?_, hm, hF.kp, hb⟩, hk⟩
  intro cdv A outer s H E g hr tk po
  exact gss_cons (gs_asg (ge_add (ge_ix g (ge_var 0) (ge_str)) (ge_int)) (gg_sub g (ge_var 0) (ge_str))) (gss_cons (gs_if (gt_cmp g (ge_ix g (ge_var 0) (ge_str)) (ge_int)) (gss_cons (gs_asg (ge_mod (ge_toint t.n_int (ge_ix g (ge_var 0) (ge_str))) (ge_var 1)) (gg_name g 2)) (gss_cons (gs_asg (ge_fdiv (ge_ix g (ge_var 0) (ge_str)) (ge_var 1)) (gg_sub g (ge_var 0) (ge_str))) (gss_one (gs_ret (ge_var 2))))) (gss_nil)) (gss_cons (gs_par2 g (i := 3) (j := 4) (ga_cons (ge_ix g (ge_var 0) (ge_str)) (ga_cons (ge_ix g (ge_var 0) (ge_str)) (ga_nil))) rfl rfl (by decide) rfl rfl rfl rfl) (gss_cons (gs_asg (ge_add (ge_var 3) (ge_int)) (gg_sub g (ge_var 0) (ge_str))) (gss_cons (gs_asg (ge_if (gt_cmp g (ge_var 4) (ge_lst (ga_nil))) (ge_ix g (ge_var 4) (ge_mod (ge_toint t.n_int (ge_var 3)) (ge_len t.n_len (ge_var 4)))) (ge_int)) (gg_name g 5)) (gss_cons (gs_if (gt_bool (gw_and (gt_cmp g (ge_var 5) (ge_pow (ge_int) (ge_int))) (gw_and1 (gt_cmp g (ge_var 3) (ge_len t.n_len (ge_var 4)))))) (gss_cons (gs_asg (ge_fdiv (ge_var 5) (ge_var 1)) (gg_sub g (ge_var 0) (ge_str))) (gss_one (gs_ret (ge_mod (ge_toint t.n_int (ge_var 5)) (ge_var 1))))) (gss_nil)) (gss_cons (gs_asg (ge_mod (ge_toint t.n_int (ge_add (ge_add (ge_mulS (ge_mod (ge_toint t.n_int (ge_var 5)) (ge_int)) (ge_int)) (ge_mulS (ge_int) (ge_ix g (ge_var 0) (ge_str)))) (ge_int))) (ge_int)) (gg_name g 6)) (gss_cons (gs_asg (ge_mod (ge_toint t.n_int (ge_add (ge_add (ge_mulS (ge_var 6) (ge_var 6)) (ge_mulS (ge_int) (ge_ix g (ge_var 0) (ge_str)))) (ge_int))) (ge_int)) (gg_name g 6)) (gss_one (gs_ret (ge_mod (ge_toint t.n_int (ge_fdiv (ge_mod (ge_toint t.n_int (ge_add (ge_mulS (ge_var 6) (ge_var 6)) (ge_mulS (ge_int) (ge_var 6)))) (ge_int)) (ge_int))) (ge_var 1)))))))))))
abbrev N__law_any : List Str := ["_law_feed_here", "_law_some"]
theorem sc__law_any : FnScope N__law_any ["_law_feed_here", "_law_some"] (defScope s__law_any) := ⟨rfl, rfl, rfl, by decide +kernel, rfl, by decide +kernel, by decide +kernel⟩
theorem h__law_any (t : Tx P w K mg cc) : HasB P w K mg base 2 "_law_any" ["_law_feed_here", "_law_some"] F__law_any (fun fd => True) := by
  obtain ⟨f, fd, hF, hm, hb, hk⟩ := t.d__law_any
  obtain ⟨f__law_draw, fd__law_draw, D__law_draw, _⟩ := h__law_draw (base := base) t
  refine ⟨f, fd, ⟨fnG_of hF sc__law_any (.inr rfl) ?_, hm, hF.kp, hb⟩, hk⟩
  intro cdv A outer s H E g hr tk po
  exact gss_one (gs_ret (ge_ix g (ge_var 1) (ge_call (D__law_draw.mono (by decide)) hr g tk (ga_cons (ge_var 0) (ga_cons (ge_len t.n_len (ge_var 1)) (ga_nil))) (ln_cons (ln_cons (ln_nil))))))
abbrev N__law_drawn_event : List Str := ["_law_feed_here", "_law_titles", "_law_sort", "_law_title", "_law_far", "_law_numbers", "_law_some", "_law_deed"]
theorem sc__law_drawn_event : FnScope N__law_drawn_event ["_law_feed_here"] (defScope s__law_drawn_event) := ⟨rfl, rfl, rfl, by decide +kernel, rfl, by decide +kernel, by decide +kernel⟩
theorem h__law_drawn_event (t : Tx P w K mg cc) : HasB P w K mg base 3 "_law_drawn_event" ["_law_feed_here"] F__law_drawn_event (fun fd => True) := by
  obtain ⟨f, fd, hF, hm, hb, hk⟩ := t.d__law_drawn_event
  obtain ⟨f__law_draw, fd__law_draw, D__law_draw, _⟩ := h__law_draw (base := base) t
  obtain ⟨f__law_any, fd__law_any, D__law_any, _⟩ := h__law_any (base := base) t
  refine ⟨f, fd, ⟨fnG_of hF sc__law_drawn_event (.inr rfl) ?_, hm, hF.kp, hb⟩, hk⟩
  intro cdv A outer s H E g hr tk po
  exact gss_cons (gs_par2 g (i := 1) (j := 2) (ga_cons (ge_lst (ga_cons (ge_str) (ga_cons (ge_str) (ga_cons (ge_str) (ga_cons (ge_str) (ga_cons (ge_str) (ga_cons (ge_str) (ga_cons (ge_str) (ga_cons (ge_str) (ga_nil)))))))))) (ga_cons (ge_call (D__law_draw.mono (by decide)) hr g tk (ga_cons (ge_var 0) (ga_cons (ge_int) (ga_nil))) (ln_cons (ln_cons (ln_nil)))) (ga_nil))) rfl rfl (by decide) rfl rfl rfl rfl) (gss_cons (gs_par2 g (i := 3) (j := 4) (ga_cons (ge_call (D__law_any.mono (by decide)) hr g tk (ga_cons (ge_var 0) (ga_cons (ge_var 1) (ga_nil))) (ln_cons (ln_cons (ln_nil)))) (ga_cons (ge_call (D__law_any.mono (by decide)) hr g tk (ga_cons (ge_var 0) (ga_cons (ge_add (ge_var 1) (ge_lst (ga_cons (ge_str) (ga_cons (ge_str) (ga_cons (ge_str) (ga_nil)))))) (ga_nil))) (ln_cons (ln_cons (ln_nil)))) (ga_nil))) rfl rfl (by decide) rfl rfl rfl rfl) (gss_cons (gs_asg (ge_lst (ga_cons (ge_int) (ga_cons (ge_int) (ga_cons (ge_int) (ga_cons (ge_int) (ga_cons (ge_int) (ga_cons (ge_int) (ga_cons (ge_int) (ga_cons (ge_pow (ge_int) (ge_int)) (ga_cons (ge_sub (ge_pow (ge_int) (ge_int)) (ge_int)) (ga_nil))))))))))) (gg_name g 5)) (gss_cons (gs_if (gt_cmp g (ge_var 2) (ge_int)) (gss_cons (gs_asg (ge_add (ge_var 5) (ge_lst (ga_cons (ge_neg (ge_int)) (ga_cons (ge_neg (ge_int)) (ga_cons (ge_neg (ge_pow (ge_int) (ge_int))) (ga_cons (ge_sub (ge_int) (ge_pow (ge_int) (ge_int))) (ga_nil))))))) (gg_name g 6)) (gss_cons (gs_asg (ge_tup (ga_cons (ge_str) (ga_cons (ge_var 3) (ga_cons (ge_call (D__law_any.mono (by decide)) hr g tk (ga_cons (ge_var 0) (ga_cons (ge_var 6) (ga_nil))) (ln_cons (ln_cons (ln_nil)))) (ga_cons (ge_call (D__law_any.mono (by decide)) hr g tk (ga_cons (ge_var 0) (ga_cons (ge_var 6) (ga_nil))) (ln_cons (ln_cons (ln_nil)))) (ga_nil)))))) (gg_name g 7)) (gss_one (gs_ret (ge_add (ge_var 7) (ge_tup (ga_cons (ge_call (D__law_any.mono (by decide)) hr g tk (ga_cons (ge_var 0) (ga_cons (ge_add (ge_lst (ga_cons (ge_none) (ga_cons (ge_none) (ga_nil)))) (ge_var 5)) (ga_nil))) (ln_cons (ln_cons (ln_nil)))) (ga_nil)))))))) (gss_nil)) (gss_cons (gs_if (gt_cmp g (ge_var 2) (ge_int)) (gss_one (gs_ret (ge_tup (ga_cons (ge_str) (ga_cons (ge_var 3) (ga_cons (ge_call (D__law_any.mono (by decide)) hr g tk (ga_cons (ge_var 0) (ga_cons (ge_var 5) (ga_nil))) (ln_cons (ln_cons (ln_nil)))) (ga_cons (ge_call (D__law_any.mono (by decide)) hr g tk (ga_cons (ge_var 0) (ga_cons (ge_var 5) (ga_nil))) (ln_cons (ln_cons (ln_nil)))) (ga_nil)))))))) (gss_nil)) (gss_cons (gs_if (gt_cmp g (ge_var 4) (ge_var 3)) (gss_one (gs_asg (ge_str) (gg_name g 4))) (gss_nil)) (gss_one (gs_ret (ge_if (gt_cmp g (ge_var 2) (ge_int)) (ge_tup (ga_cons (ge_str) (ga_cons (ge_var 3) (ga_cons (ge_var 4) (ga_nil))))) (ge_tup (ga_cons (ge_str) (ga_cons (ge_var 3) (ga_cons (ge_var 4) (ga_cons (ge_call (D__law_any.mono (by decide)) hr g tk (ga_cons (ge_var 0) (ga_cons (ge_var 5) (ga_nil))) (ln_cons (ln_cons (ln_nil)))) (ga_nil))))))))))))))
abbrev N__law_line : List Str := ["_law_deed", "_law_part"]
theorem sc__law_line : FnScope N__law_line ["_law_deed"] (defScope s__law_line) := ⟨rfl, rfl, rfl, by decide +kernel, rfl, by decide +kernel, by decide +kernel⟩
theorem h__law_line (t : Tx P w K mg cc) : HasB P w K mg base 1 "_law_line" ["_law_deed"] F__law_line (fun fd => True) := by
  obtain ⟨f, fd, hF, hm, hb, hk⟩ := t.d__law_line
  refine ⟨f, fd, ⟨fnG_of hF sc__law_line (.inr rfl) ?_, hm, hF.kp, hb⟩, hk⟩
  intro cdv A outer s H E g hr tk po
  exact gss_one (gs_ret (ge_join (ge_str) (ge_lc [("_law_part", 1)] (.nm 1) g (gi_iter (ge_var 0)) (blkOk_by (N := N__law_line) (sc := defScope s__law_line) (by decide +kernel)) (fun _ _ _ _ _ gB1 => gct_name 1 gB1) (fun _ _ _ _ _ gB1 => gts_nil) (fun _ _ _ _ _ gB1 => ge_if (gt_isN (ge_var 1)) (ge_str) (ge_tostrA t.n_str (ge_var 1))))))
abbrev N_want : List Str := ["is_right", "word"]
theorem sc_want : FnScope N_want ["is_right", "word"] (defScope s_want) := ⟨rfl, rfl, rfl, by decide +kernel, rfl, by decide +kernel, by decide +kernel⟩
theorem h_want (t : Tx P w K mg cc) : HasB P w K mg base 3 "want" ["is_right", "word"] F_want (fun fd => True) := by
  obtain ⟨f, fd, hF, hm, hb, hk⟩ := t.d_want
  obtain ⟨Cx_NotUsable, fI_NotUsable, fdI_NotUsable, psI_NotUsable, X_NotUsable⟩ := t.x_NotUsable
  refine ⟨f, fd, ⟨fnG_of hF sc_want (.inr rfl) ?_, hm, hF.kp, hb⟩, hk⟩
  intro cdv A outer s H E g hr tk po
  exact gss_one (gs_if (gt_not (gt_val (ge_var 0))) (gss_one (gs_raise2 (X_NotUsable _ rfl rfl rfl rfl) g (hr.mono (by decide)) tk (ga_cons (ge_var 1) (ga_cons (ge_neg (ge_int)) (ga_nil))))) (gss_nil))
abbrev N_is_name : List Str := ["thing", "sign"]
theorem sc_is_name : FnScope N_is_name ["thing"] (defScope s_is_name) := ⟨rfl, rfl, rfl, by decide +kernel, rfl, by decide +kernel, by decide +kernel⟩
theorem h_is_name (t : Tx P w K mg cc) : HasB P w K mg base 1 "is_name" ["thing"] F_is_name (fun fd => True) := by
  obtain ⟨f, fd, hF, hm, hb, hk⟩ := t.d_is_name
  obtain ⟨u_LETTERS, v_LETTERS, hc_LETTERS, rr_LETTERS, gi_LETTERS⟩ := t.c_LETTERS
  refine ⟨f, fd, ⟨fnG_of hF sc_is_name (.inr rfl) ?_, hm, hF.kp, hb⟩, hk⟩
  intro cdv A outer s H E g hr tk po
  exact gss_one (gs_ret (ge_and (ge_isi .str t.n_isinstance t.n_str (ge_var 0)) (ge_and (ge_chain g (ge_int) (ge_len t.n_len (ge_var 0)) (ge_int)) (ge_one (ge_all g t.n_all (ge_lc [("sign", 1)] (.nm 1) g (gi_iter (ge_var 0)) (blkOk_by (N := N_is_name) (sc := defScope s_is_name) (by decide +kernel)) (fun _ _ _ _ _ gB1 => gct_name 1 gB1) (fun _ _ _ _ _ gB1 => gts_nil) (fun _ _ _ _ _ gB1 => ge_cmp gB1 (ge_var 1) (ge_glob rfl hc_LETTERS rr_LETTERS gi_LETTERS))))))))
abbrev N_is_integer : List Str := ["thing"]
theorem sc_is_integer : FnScope N_is_integer ["thing"] (defScope s_is_integer) := ⟨rfl, rfl, rfl, by decide +kernel, rfl, by decide +kernel, by decide +kernel⟩
theorem h_is_integer (t : Tx P w K mg cc) : HasB P w K mg base 1 "is_integer" ["thing"] F_is_integer (fun fd => True) := by
  obtain ⟨f, fd, hF, hm, hb, hk⟩ := t.d_is_integer
  refine ⟨f, fd, ⟨fnG_of hF sc_is_integer (.inr rfl) ?_, hm, hF.kp, hb⟩, hk⟩
  intro cdv A outer s H E g hr tk po
  exact gss_one (gs_ret (ge_and (ge_isi .int t.n_isinstance t.n_int (ge_var 0)) (ge_one (ge_not (ge_isi .bool t.n_isinstance t.n_bool (ge_var 0))))))
abbrev N_is_number : List Str := ["thing"]
theorem sc_is_number : FnScope N_is_number ["thing"] (defScope s_is_number) := ⟨rfl, rfl, rfl, by decide +kernel, rfl, by decide +kernel, by decide +kernel⟩
theorem h_is_number (t : Tx P w K mg cc) : HasB P w K mg base 2 "is_number" ["thing"] F_is_number (fun fd => True) := by
  obtain ⟨f, fd, hF, hm, hb, hk⟩ := t.d_is_number
  obtain ⟨f_is_integer, fd_is_integer, D_is_integer, _⟩ := h_is_integer (base := base) t
  refine ⟨f, fd, ⟨fnG_of hF sc_is_number (.inr rfl) ?_, hm, hF.kp, hb⟩, hk⟩
  intro cdv A outer s H E g hr tk po
  exact gss_one (gs_ret (ge_and (ge_call (D_is_integer.mono (by decide)) hr g tk (ga_cons (ge_var 0) (ga_nil)) (ln_cons (ln_nil))) (ge_one (ge_cmp g (ge_var 0) (ge_int)))))
abbrev N_is_letter : List Str := ["thing"]
theorem sc_is_letter : FnScope N_is_letter ["thing"] (defScope s_is_letter) := ⟨rfl, rfl, rfl, by decide +kernel, rfl, by decide +kernel, by decide +kernel⟩
theorem h_is_letter (t : Tx P w K mg cc) : HasB P w K mg base 3 "is_letter" ["thing"] F_is_letter (fun fd => True) := by
  obtain ⟨f, fd, hF, hm, hb, hk⟩ := t.d_is_letter
  obtain ⟨f_is_number, fd_is_number, D_is_number, _⟩ := h_is_number (base := base) t
  refine ⟨f, fd, ⟨fnG_of hF sc_is_letter (.inr rfl) ?_, hm, hF.kp, hb⟩, hk⟩
  intro cdv A outer s H E g hr tk po
  exact gss_one (gs_ret (ge_or (ge_isN (ge_var 0)) (ge_one (ge_call (D_is_number.mono (by decide)) hr g tk (ga_cons (ge_var 0) (ga_nil)) (ln_cons (ln_nil))))))
abbrev N_is_told : List Str := ["parts", "host", "tick", "reading", "letter"]
theorem sc_is_told : FnScope N_is_told ["parts"] (defScope s_is_told) := ⟨rfl, rfl, rfl, by decide +kernel, rfl, by decide +kernel, by decide +kernel⟩
theorem h_is_told (t : Tx P w K mg cc) : HasB P w K mg base 4 "is_told" ["parts"] F_is_told (fun fd => True) := by
  obtain ⟨f, fd, hF, hm, hb, hk⟩ := t.d_is_told
  obtain ⟨f_is_name, fd_is_name, D_is_name, _⟩ := h_is_name (base := base) t
  obtain ⟨f_is_integer, fd_is_integer, D_is_integer, _⟩ := h_is_integer (base := base) t
  obtain ⟨f_is_letter, fd_is_letter, D_is_letter, _⟩ := h_is_letter (base := base) t
  refine ⟨f, fd, ⟨fnG_of hF sc_is_told (.inr rfl) ?_, hm, hF.kp, hb⟩, hk⟩
  intro cdv A outer s H E g hr tk po
  exact gss_cons (gs_asg (ge_var 0) (gg_tup g (ggs_cons (gg_name g 1) (ggs_cons (gg_name g 2) (ggs_cons (gg_name g 3) (ggs_cons (gg_name g 4) (ggs_nil))))))) (gss_one (gs_ret (ge_and (ge_call (D_is_name.mono (by decide)) hr g tk (ga_cons (ge_var 1) (ga_nil)) (ln_cons (ln_nil))) (ge_and (ge_call (D_is_integer.mono (by decide)) hr g tk (ga_cons (ge_var 2) (ga_nil)) (ln_cons (ln_nil))) (ge_and (ge_call (D_is_integer.mono (by decide)) hr g tk (ga_cons (ge_var 3) (ga_nil)) (ln_cons (ln_nil))) (ge_one (ge_call (D_is_letter.mono (by decide)) hr g tk (ga_cons (ge_var 4) (ga_nil)) (ln_cons (ln_nil)))))))))
abbrev N_is_clocked : List Str := ["parts", "host", "slow", "fast"]
theorem sc_is_clocked : FnScope N_is_clocked ["parts"] (defScope s_is_clocked) := ⟨rfl, rfl, rfl, by decide +kernel, rfl, by decide +kernel, by decide +kernel⟩
theorem h_is_clocked (t : Tx P w K mg cc) : HasB P w K mg base 3 "is_clocked" ["parts"] F_is_clocked (fun fd => True) := by
  obtain ⟨f, fd, hF, hm, hb, hk⟩ := t.d_is_clocked
  obtain ⟨f_is_name, fd_is_name, D_is_name, _⟩ := h_is_name (base := base) t
  obtain ⟨f_is_number, fd_is_number, D_is_number, _⟩ := h_is_number (base := base) t
  refine ⟨f, fd, ⟨fnG_of hF sc_is_clocked (.inr rfl) ?_, hm, hF.kp, hb⟩, hk⟩
  intro cdv A outer s H E g hr tk po
  exact gss_cons (gs_asg (ge_var 0) (gg_tup g (ggs_cons (gg_name g 1) (ggs_cons (gg_name g 2) (ggs_cons (gg_name g 3) (ggs_nil)))))) (gss_one (gs_ret (ge_and (ge_call (D_is_name.mono (by decide)) hr g tk (ga_cons (ge_var 1) (ga_nil)) (ln_cons (ln_nil))) (ge_and (ge_call (D_is_number.mono (by decide)) hr g tk (ga_cons (ge_var 2) (ga_nil)) (ln_cons (ln_nil))) (ge_one (ge_call (D_is_number.mono (by decide)) hr g tk (ga_cons (ge_var 3) (ga_nil)) (ln_cons (ln_nil))))))))
abbrev N_are_two : List Str := ["one", "other"]
theorem sc_are_two : FnScope N_are_two ["one", "other"] (defScope s_are_two) := ⟨rfl, rfl, rfl, by decide +kernel, rfl, by decide +kernel, by decide +kernel⟩
theorem h_are_two (t : Tx P w K mg cc) : HasB P w K mg base 2 "are_two" ["one", "other"] F_are_two (fun fd => True) := by
  obtain ⟨f, fd, hF, hm, hb, hk⟩ := t.d_are_two
  obtain ⟨f_is_name, fd_is_name, D_is_name, _⟩ := h_is_name (base := base) t
  refine ⟨f, fd, ⟨fnG_of hF sc_are_two (.inr rfl) ?_, hm, hF.kp, hb⟩, hk⟩
  intro cdv A outer s H E g hr tk po
  exact gss_one (gs_ret (ge_and (ge_call (D_is_name.mono (by decide)) hr g tk (ga_cons (ge_var 0) (ga_nil)) (ln_cons (ln_nil))) (ge_and (ge_call (D_is_name.mono (by decide)) hr g tk (ga_cons (ge_var 1) (ga_nil)) (ln_cons (ln_nil))) (ge_one (ge_cmp g (ge_var 0) (ge_var 1))))))
abbrev N_is_led : List Str := ["parts", "one", "other", "least"]
theorem sc_is_led : FnScope N_is_led ["parts"] (defScope s_is_led) := ⟨rfl, rfl, rfl, by decide +kernel, rfl, by decide +kernel, by decide +kernel⟩
theorem h_is_led (t : Tx P w K mg cc) : HasB P w K mg base 3 "is_led" ["parts"] F_is_led (fun fd => True) := by
  obtain ⟨f, fd, hF, hm, hb, hk⟩ := t.d_is_led
  obtain ⟨f_are_two, fd_are_two, D_are_two, _⟩ := h_are_two (base := base) t
  obtain ⟨f_is_number, fd_is_number, D_is_number, _⟩ := h_is_number (base := base) t
  refine ⟨f, fd, ⟨fnG_of hF sc_is_led (.inr rfl) ?_, hm, hF.kp, hb⟩, hk⟩
  intro cdv A outer s H E g hr tk po
  exact gss_cons (gs_asg (ge_var 0) (gg_tup g (ggs_cons (gg_name g 1) (ggs_cons (gg_name g 2) (ggs_cons (gg_name g 3) (ggs_nil)))))) (gss_one (gs_ret (ge_and (ge_call (D_are_two.mono (by decide)) hr g tk (ga_cons (ge_var 1) (ga_cons (ge_var 2) (ga_nil))) (ln_cons (ln_cons (ln_nil)))) (ge_one (ge_call (D_is_number.mono (by decide)) hr g tk (ga_cons (ge_var 3) (ga_nil)) (ln_cons (ln_nil)))))))
abbrev N_is_live_event : List Str := ["thing", "head", "many"]
theorem sc_is_live_event : FnScope N_is_live_event ["thing"] (defScope s_is_live_event) := ⟨rfl, rfl, rfl, by decide +kernel, rfl, by decide +kernel, by decide +kernel⟩
theorem h_is_live_event (t : Tx P w K mg cc) : HasB P w K mg base 5 "is_live_event" ["thing"] F_is_live_event (fun fd => True) := by
  obtain ⟨f, fd, hF, hm, hb, hk⟩ := t.d_is_live_event
  obtain ⟨f_is_told, fd_is_told, D_is_told, _⟩ := h_is_told (base := base) t
  obtain ⟨f_is_clocked, fd_is_clocked, D_is_clocked, _⟩ := h_is_clocked (base := base) t
  obtain ⟨f_is_led, fd_is_led, D_is_led, _⟩ := h_is_led (base := base) t
  obtain ⟨f_are_two, fd_are_two, D_are_two, _⟩ := h_are_two (base := base) t
  refine ⟨f, fd, ⟨fnG_of hF sc_is_live_event (.inr rfl) ?_, hm, hF.kp, hb⟩, hk⟩
  intro cdv A outer s H E g hr tk po
  exact gss_cons (gs_if (gt_bool (gw_or (gt_not (gt_val (ge_isi .tuple t.n_isinstance t.n_tuple (ge_var 0)))) (gw_or (gt_cmp g (ge_len t.n_len (ge_var 0)) (ge_int)) (gw_or1 (gt_not (gt_val (ge_isi .str t.n_isinstance t.n_str (ge_ix g (ge_var 0) (ge_int))))))))) (gss_one (gs_ret (ge_bool))) (gss_nil)) (gss_cons (gs_par2 g (i := 1) (j := 2) (ga_cons (ge_ix g (ge_var 0) (ge_int)) (ga_cons (ge_len t.n_len (ge_var 0)) (ga_nil))) rfl rfl (by decide) rfl rfl rfl rfl) (gss_cons (gs_if (gt_cmp g (ge_var 1) (ge_str)) (gss_one (gs_ret (ge_and (ge_cmp g (ge_var 2) (ge_int)) (ge_one (ge_call (D_is_told.mono (by decide)) hr g tk (ga_cons (ge_slice (ge_var 0) (go_some (ge_int)) (go_none)) (ga_nil)) (ln_cons (ln_nil))))))) (gss_nil)) (gss_cons (gs_if (gt_cmp g (ge_var 1) (ge_str)) (gss_one (gs_ret (ge_and (ge_cmp g (ge_var 2) (ge_int)) (ge_one (ge_call (D_is_clocked.mono (by decide)) hr g tk (ga_cons (ge_slice (ge_var 0) (go_some (ge_int)) (go_none)) (ga_nil)) (ln_cons (ln_nil))))))) (gss_nil)) (gss_cons (gs_if (gt_cmp g (ge_var 1) (ge_str)) (gss_one (gs_ret (ge_and (ge_cmp g (ge_var 2) (ge_int)) (ge_one (ge_call (D_is_led.mono (by decide)) hr g tk (ga_cons (ge_slice (ge_var 0) (go_some (ge_int)) (go_none)) (ga_nil)) (ln_cons (ln_nil))))))) (gss_nil)) (gss_one (gs_ret (ge_and (ge_cmp g (ge_var 1) (ge_str)) (ge_and (ge_cmp g (ge_var 2) (ge_int)) (ge_one (ge_call (D_are_two.mono (by decide)) hr g tk (ga_cons (ge_ix g (ge_var 0) (ge_int)) (ga_cons (ge_ix g (ge_var 0) (ge_int)) (ga_nil))) (ln_cons (ln_cons (ln_nil)))))))))))))
abbrev N_event_line : List Str := ["event", "part"]
theorem sc_event_line : FnScope N_event_line ["event"] (defScope s_event_line) := ⟨rfl, rfl, rfl, by decide +kernel, rfl, by decide +kernel, by decide +kernel⟩
theorem h_event_line (t : Tx P w K mg cc) : HasB P w K mg base 6 "event_line" ["event"] F_event_line (fun fd => BindsK K fd ["event"] ["event"] (perm [0]) ∧ True) := by
  obtain ⟨f, fd, hF, hm, hb, hk⟩ := t.d_event_line
  obtain ⟨f_want, fd_want, D_want, _⟩ := h_want (base := base) t
  obtain ⟨f_is_live_event, fd_is_live_event, D_is_live_event, _⟩ := h_is_live_event (base := base) t
  refine ⟨f, fd, ⟨fnG_of hF sc_event_line (.inr rfl) ?_, hm, hF.kp, hb⟩, hk⟩
  intro cdv A outer s H E g hr tk po
  exact gss_cons (gs_expr (ge_call (D_want.mono (by decide)) hr g tk (ga_cons (ge_call (D_is_live_event.mono (by decide)) hr g tk (ga_cons (ge_var 0) (ga_nil)) (ln_cons (ln_nil))) (ga_cons (ge_str) (ga_nil))) (ln_cons (ln_cons (ln_nil))))) (gss_one (gs_ret (ge_join (ge_str) (ge_lc [("part", 1)] (.nm 1) g (gi_iter (ge_var 0)) (blkOk_by (N := N_event_line) (sc := defScope s_event_line) (by decide +kernel)) (fun _ _ _ _ _ gB1 => gct_name 1 gB1) (fun _ _ _ _ _ gB1 => gts_nil) (fun _ _ _ _ _ gB1 => ge_if (gt_isN (ge_var 1)) (ge_str) (ge_tostrA t.n_str (ge_var 1)))))))
abbrev N_number_of : List Str := ["text", "sign"]
theorem sc_number_of : FnScope N_number_of ["text"] (defScope s_number_of) := ⟨rfl, rfl, rfl, by decide +kernel, rfl, by decide +kernel, by decide +kernel⟩
theorem h_number_of (t : Tx P w K mg cc) : HasB P w K mg base 1 "number_of" ["text"] F_number_of (fun fd => True) := by
  obtain ⟨f, fd, hF, hm, hb, hk⟩ := t.d_number_of
  obtain ⟨u_DIGITS, v_DIGITS, hc_DIGITS, rr_DIGITS, gi_DIGITS⟩ := t.c_DIGITS
  obtain ⟨u_MOST_DIGITS, v_MOST_DIGITS, hc_MOST_DIGITS, rr_MOST_DIGITS, gi_MOST_DIGITS⟩ := t.c_MOST_DIGITS
  refine ⟨f, fd, ⟨fnG_of hF sc_number_of (.inr rfl) ?_, hm, hF.kp, hb⟩, hk⟩
  intro cdv A outer s H E g hr tk po
  exact gss_cons (gs_if (gt_bool (gw_or (gt_not (gt_chain g (ge_int) (ge_len t.n_len (ge_var 0)) (ge_glob rfl hc_MOST_DIGITS rr_MOST_DIGITS gi_MOST_DIGITS))) (gw_or1 (gt_not (gt_val (ge_all g t.n_all (ge_lc [("sign", 1)] (.nm 1) g (gi_iter (ge_var 0)) (blkOk_by (N := N_number_of) (sc := defScope s_number_of) (by decide +kernel)) (fun _ _ _ _ _ gB1 => gct_name 1 gB1) (fun _ _ _ _ _ gB1 => gts_nil) (fun _ _ _ _ _ gB1 => ge_cmp gB1 (ge_var 1) (ge_glob rfl hc_DIGITS rr_DIGITS gi_DIGITS))))))))) (gss_one (gs_ret (ge_none))) (gss_nil)) (gss_one (gs_ret (ge_if (gt_bool (gw_and (gt_cmp g (ge_ix g (ge_var 0) (ge_int)) (ge_str)) (gw_and1 (gt_cmp g (ge_var 0) (ge_str))))) (ge_none) (ge_toint t.n_int (ge_var 0)))))
abbrev N_integer_of : List Str := ["text", "number"]
theorem sc_integer_of : FnScope N_integer_of ["text"] (defScope s_integer_of) := ⟨rfl, rfl, rfl, by decide +kernel, rfl, by decide +kernel, by decide +kernel⟩
theorem h_integer_of (t : Tx P w K mg cc) : HasB P w K mg base 2 "integer_of" ["text"] F_integer_of (fun fd => True) := by
  obtain ⟨f, fd, hF, hm, hb, hk⟩ := t.d_integer_of
  obtain ⟨f_number_of, fd_number_of, D_number_of, _⟩ := h_number_of (base := base) t
  refine ⟨f, fd, ⟨fnG_of hF sc_integer_of (.inr rfl) ?_, hm, hF.kp, hb⟩, hk⟩
  intro cdv A outer s H E g hr tk po
  exact gss_cons (gs_if (gt_cmp g (ge_slice (ge_var 0) (go_none) (go_some (ge_int))) (ge_str)) (gss_one (gs_ret (ge_call (D_number_of.mono (by decide)) hr g tk (ga_cons (ge_var 0) (ga_nil)) (ln_cons (ln_nil))))) (gss_nil)) (gss_cons (gs_asg (ge_call (D_number_of.mono (by decide)) hr g tk (ga_cons (ge_slice (ge_var 0) (go_some (ge_int)) (go_none)) (ga_nil)) (ln_cons (ln_nil))) (gg_name g 1)) (gss_one (gs_ret (ge_if (gt_bool (gw_or (gt_isN (ge_var 1)) (gw_or1 (gt_cmp g (ge_var 1) (ge_int))))) (ge_none) (ge_neg (ge_var 1))))))
abbrev N_part_of : List Str := ["word", "kind", "before", "found"]
theorem sc_part_of : FnScope N_part_of ["word", "kind", "before"] (defScope s_part_of) := ⟨rfl, rfl, rfl, by decide +kernel, rfl, by decide +kernel, by decide +kernel⟩
theorem h_part_of (t : Tx P w K mg cc) : HasB P w K mg base 3 "part_of" ["word", "kind", "before"] F_part_of (fun fd => True) := by
  obtain ⟨f, fd, hF, hm, hb, hk⟩ := t.d_part_of
  obtain ⟨f_is_name, fd_is_name, D_is_name, _⟩ := h_is_name (base := base) t
  obtain ⟨f_integer_of, fd_integer_of, D_integer_of, _⟩ := h_integer_of (base := base) t
  obtain ⟨f_number_of, fd_number_of, D_number_of, _⟩ := h_number_of (base := base) t
  refine ⟨f, fd, ⟨fnG_of hF sc_part_of (.inr rfl) ?_, hm, hF.kp, hb⟩, hk⟩
  intro cdv A outer s H E g hr tk po
  exact gss_cons (gs_if (gt_cmp g (ge_var 1) (ge_tup (ga_cons (ge_str) (ga_cons (ge_str) (ga_nil))))) (gss_one (gs_ret (ge_if (gt_bool (gw_and (gt_val (ge_call (D_is_name.mono (by decide)) hr g tk (ga_cons (ge_var 0) (ga_nil)) (ln_cons (ln_nil)))) (gw_and1 (gt_bool (gw_or (gt_cmp g (ge_var 1) (ge_str)) (gw_or1 (gt_cmp g (ge_var 0) (ge_var 2)))))))) (ge_lst (ga_cons (ge_var 0) (ga_nil))) (ge_lst (ga_nil))))) (gss_nil)) (gss_cons (gs_if (gt_bool (gw_and (gt_cmp g (ge_var 1) (ge_str)) (gw_and1 (gt_cmp g (ge_var 0) (ge_str))))) (gss_one (gs_ret (ge_lst (ga_cons (ge_none) (ga_nil))))) (gss_nil)) (gss_cons (gs_asg (ge_if (gt_cmp g (ge_var 1) (ge_str)) (ge_call (D_integer_of.mono (by decide)) hr g tk (ga_cons (ge_var 0) (ga_nil)) (ln_cons (ln_nil))) (ge_call (D_number_of.mono (by decide)) hr g tk (ga_cons (ge_var 0) (ga_nil)) (ln_cons (ln_nil)))) (gg_name g 3)) (gss_one (gs_ret (ge_if (gt_isN (ge_var 3)) (ge_lst (ga_nil)) (ge_lst (ga_cons (ge_var 3) (ga_nil))))))))
abbrev N_event_in : List Str := ["row_text", "k", "words", "kinds", "parts", "spot", "kind", "late"]
theorem sc_event_in : FnScope N_event_in ["row_text", "k"] (defScope s_event_in) := ⟨rfl, rfl, rfl, by decide +kernel, rfl, by decide +kernel, by decide +kernel⟩
theorem h_event_in (t : Tx P w K mg cc) : HasB P w K mg base 4 "event_in" ["row_text", "k"] F_event_in (fun fd => True) := by
  obtain ⟨f, fd, hF, hm, hb, hk⟩ := t.d_event_in
  obtain ⟨f_part_of, fd_part_of, D_part_of, _⟩ := h_part_of (base := base) t
  have kd_WORDS := t.c_WORDS
  obtain ⟨Cx_InvalidText, fI_InvalidText, fdI_InvalidText, psI_InvalidText, X_InvalidText⟩ := t.x_InvalidText
  refine ⟨f, fd, ⟨fnG_of hF sc_event_in (.inr rfl) ?_, hm, hF.kp, hb⟩, hk⟩
  intro cdv A outer s H E g hr tk po
  exact gss_cons (gs_asg (ge_split (ge_var 0) (ge_str)) (gg_name g 2)) (gss_cons (gs_if (gt_ninW kd_WORDS (ge_ix g (ge_var 2) (ge_int))) (gss_one (gs_raise2 (X_InvalidText _ rfl rfl rfl rfl) g (hr.mono (by decide)) tk (ga_cons (ge_var 1) (ga_cons (ge_int) (ga_nil))))) (gss_nil)) (gss_cons (gs_par2 g (i := 3) (j := 4) (ga_cons (ge_ixW kd_WORDS (ge_ix g (ge_var 2) (ge_int))) (ga_cons (ge_lstM (ga_cons (ge_ix g (ge_var 2) (ge_int)) (ga_nil))) (ga_nil))) rfl rfl (by decide) rfl rfl rfl rfl) (gss_cons (gs_for [5, 6, 7] g po (gi_enum1 t.n_enumerate (ge_var 3) pe_int) (gg_tup g (ggs_cons (gg_name g 5) (ggs_cons (gg_name g 6) (ggs_nil)))) (gss_cons (gs_asg (ge_if (gt_cmp g (ge_var 5) (ge_len t.n_len (ge_var 2))) (ge_call (D_part_of.mono (by decide)) hr g tk (ga_cons (ge_ix g (ge_var 2) (ge_var 5)) (ga_cons (ge_var 6) (ga_cons (ge_ix g (ge_var 2) (ge_sub (ge_var 5) (ge_int))) (ga_nil)))) (ln_cons (ln_cons (ln_cons (ln_nil))))) (ge_lst (ga_nil))) (gg_name g 7)) (gss_cons (gs_if (gt_cmp g (ge_len t.n_len (ge_var 7)) (ge_int)) (gss_one (gs_raise2 (X_InvalidText _ rfl rfl rfl rfl) g (hr.mono (by decide)) tk (ga_cons (ge_var 1) (ga_cons (ge_var 5) (ga_nil))))) (gss_nil)) (gss_one (gs_expr (ge_extend (ge_var 4) (ge_var 7))))))) (gss_cons (gs_if (gt_cmp g (ge_len t.n_len (ge_var 2)) (ge_len t.n_len (ge_var 4))) (gss_one (gs_raise2 (X_InvalidText _ rfl rfl rfl rfl) g (hr.mono (by decide)) tk (ga_cons (ge_var 1) (ga_cons (ge_len t.n_len (ge_var 4)) (ga_nil))))) (gss_nil)) (gss_one (gs_ret (ge_totuple t.n_tuple (ge_var 4))))))))
abbrev N_read_event : List Str := ["text"]
theorem sc_read_event : FnScope N_read_event ["text"] (defScope s_read_event) := ⟨rfl, rfl, rfl, by decide +kernel, rfl, by decide +kernel, by decide +kernel⟩
theorem h_read_event (t : Tx P w K mg cc) : HasB P w K mg base 5 "read_event" ["text"] F_read_event (fun fd => BindsK K fd ["text"] ["text"] (perm [0]) ∧ True) := by
  obtain ⟨f, fd, hF, hm, hb, hk⟩ := t.d_read_event
  obtain ⟨f_want, fd_want, D_want, _⟩ := h_want (base := base) t
  obtain ⟨f_event_in, fd_event_in, D_event_in, _⟩ := h_event_in (base := base) t
  refine ⟨f, fd, ⟨fnG_of hF sc_read_event (.inr rfl) ?_, hm, hF.kp, hb⟩, hk⟩
  intro cdv A outer s H E g hr tk po
  exact gss_cons (gs_expr (ge_call (D_want.mono (by decide)) hr g tk (ga_cons (ge_isi .str t.n_isinstance t.n_str (ge_var 0)) (ga_cons (ge_str) (ga_nil))) (ln_cons (ln_cons (ln_nil))))) (gss_one (gs_ret (ge_call (D_event_in.mono (by decide)) hr g tk (ga_cons (ge_var 0) (ga_cons (ge_int) (ga_nil))) (ln_cons (ln_cons (ln_nil))))))
abbrev N__law_is_name : List Str := ["_law_item", "_law_sign"]
theorem sc__law_is_name : FnScope N__law_is_name ["_law_item"] (defScope s__law_is_name) := ⟨rfl, rfl, rfl, by decide +kernel, rfl, by decide +kernel, by decide +kernel⟩
theorem h__law_is_name (t : Tx P w K mg cc) : HasB P w K mg base 1 "_law_is_name" ["_law_item"] F__law_is_name (fun fd => True) := by
  obtain ⟨f, fd, hF, hm, hb, hk⟩ := t.d__law_is_name
  refine ⟨f, fd, ⟨fnG_of hF sc__law_is_name (.inr rfl) ?_, hm, hF.kp, hb⟩, hk⟩
  intro cdv A outer s H E g hr tk po
  exact gss_cons (gs_if (gt_bool (gw_or (gt_not (gt_val (ge_isi .str t.n_isinstance t.n_str (ge_var 0)))) (gw_or1 (gt_not (gt_chain g (ge_int) (ge_len t.n_len (ge_var 0)) (ge_int)))))) (gss_one (gs_ret (ge_bool))) (gss_nil)) (gss_one (gs_ret (ge_cmp g (ge_lc [("_law_sign", 1)] (.nm 1) g (gi_iter (ge_var 0)) (blkOk_by (N := N__law_is_name) (sc := defScope s__law_is_name) (by decide +kernel)) (fun _ _ _ _ _ gB1 => gct_name 1 gB1) (fun _ _ _ _ _ gB1 => gts_one (gt_cmp gB1 (ge_var 1) (ge_str))) (fun _ _ _ _ _ gB1 => ge_var 1)) (ge_lst (ga_nil)))))
abbrev N__law_is_figures : List Str := ["_law_part", "_law_sign"]
theorem sc__law_is_figures : FnScope N__law_is_figures ["_law_part"] (defScope s__law_is_figures) := ⟨rfl, rfl, rfl, by decide +kernel, rfl, by decide +kernel, by decide +kernel⟩
theorem h__law_is_figures (t : Tx P w K mg cc) : HasB P w K mg base 1 "_law_is_figures" ["_law_part"] F__law_is_figures (fun fd => True) := by
  obtain ⟨f, fd, hF, hm, hb, hk⟩ := t.d__law_is_figures
  refine ⟨f, fd, ⟨fnG_of hF sc__law_is_figures (.inr rfl) ?_, hm, hF.kp, hb⟩, hk⟩
  intro cdv A outer s H E g hr tk po
  exact gss_cons (gs_if (gt_bool (gw_or (gt_not (gt_chain g (ge_int) (ge_len t.n_len (ge_var 0)) (ge_int))) (gw_or1 (gt_cmp g (ge_lc [("_law_sign", 1)] (.nm 1) g (gi_iter (ge_var 0)) (blkOk_by (N := N__law_is_figures) (sc := defScope s__law_is_figures) (by decide +kernel)) (fun _ _ _ _ _ gB1 => gct_name 1 gB1) (fun _ _ _ _ _ gB1 => gts_one (gt_cmp gB1 (ge_var 1) (ge_str))) (fun _ _ _ _ _ gB1 => ge_var 1)) (ge_lst (ga_nil)))))) (gss_one (gs_ret (ge_bool))) (gss_nil)) (gss_one (gs_ret (ge_or (ge_cmp g (ge_var 0) (ge_str)) (ge_one (ge_cmp g (ge_ix g (ge_var 0) (ge_int)) (ge_str))))))
abbrev N__law_is_whole : List Str := ["_law_part"]
theorem sc__law_is_whole : FnScope N__law_is_whole ["_law_part"] (defScope s__law_is_whole) := ⟨rfl, rfl, rfl, by decide +kernel, rfl, by decide +kernel, by decide +kernel⟩
theorem h__law_is_whole (t : Tx P w K mg cc) : HasB P w K mg base 2 "_law_is_whole" ["_law_part"] F__law_is_whole (fun fd => True) := by
  obtain ⟨f, fd, hF, hm, hb, hk⟩ := t.d__law_is_whole
  obtain ⟨f__law_is_figures, fd__law_is_figures, D__law_is_figures, _⟩ := h__law_is_figures (base := base) t
  refine ⟨f, fd, ⟨fnG_of hF sc__law_is_whole (.inr rfl) ?_, hm, hF.kp, hb⟩, hk⟩
  intro cdv A outer s H E g hr tk po
  exact gss_cons (gs_if (gt_cmp g (ge_slice (ge_var 0) (go_none) (go_some (ge_int))) (ge_str)) (gss_one (gs_ret (ge_and (ge_call (D__law_is_figures.mono (by decide)) hr g tk (ga_cons (ge_slice (ge_var 0) (go_some (ge_int)) (go_none)) (ga_nil)) (ln_cons (ln_nil))) (ge_one (ge_cmp g (ge_var 0) (ge_str)))))) (gss_nil)) (gss_one (gs_ret (ge_call (D__law_is_figures.mono (by decide)) hr g tk (ga_cons (ge_var 0) (ga_nil)) (ln_cons (ln_nil)))))
abbrev N__law_fits : List Str := ["_law_sort", "_law_part"]
theorem sc__law_fits : FnScope N__law_fits ["_law_sort", "_law_part"] (defScope s__law_fits) := ⟨rfl, rfl, rfl, by decide +kernel, rfl, by decide +kernel, by decide +kernel⟩
theorem h__law_fits (t : Tx P w K mg cc) : HasB P w K mg base 3 "_law_fits" ["_law_sort", "_law_part"] F__law_fits (fun fd => True) := by
  obtain ⟨f, fd, hF, hm, hb, hk⟩ := t.d__law_fits
  obtain ⟨f__law_is_name, fd__law_is_name, D__law_is_name, _⟩ := h__law_is_name (base := base) t
  obtain ⟨f__law_is_figures, fd__law_is_figures, D__law_is_figures, _⟩ := h__law_is_figures (base := base) t
  obtain ⟨f__law_is_whole, fd__law_is_whole, D__law_is_whole, _⟩ := h__law_is_whole (base := base) t
  refine ⟨f, fd, ⟨fnG_of hF sc__law_fits (.inr rfl) ?_, hm, hF.kp, hb⟩, hk⟩
  intro cdv A outer s H E g hr tk po
  exact gss_cons (gs_if (gt_cmp g (ge_var 0) (ge_str)) (gss_one (gs_ret (ge_call (D__law_is_name.mono (by decide)) hr g tk (ga_cons (ge_var 1) (ga_nil)) (ln_cons (ln_nil))))) (gss_nil)) (gss_cons (gs_if (gt_cmp g (ge_var 0) (ge_str)) (gss_one (gs_ret (ge_call (D__law_is_figures.mono (by decide)) hr g tk (ga_cons (ge_var 1) (ga_nil)) (ln_cons (ln_nil))))) (gss_nil)) (gss_one (gs_ret (ge_if (gt_cmp g (ge_var 0) (ge_str)) (ge_call (D__law_is_whole.mono (by decide)) hr g tk (ga_cons (ge_var 1) (ga_nil)) (ln_cons (ln_nil))) (ge_or (ge_cmp g (ge_var 1) (ge_str)) (ge_one (ge_call (D__law_is_figures.mono (by decide)) hr g tk (ga_cons (ge_var 1) (ga_nil)) (ln_cons (ln_nil)))))))))
abbrev N__law_event_read : List Str := ["_law_text_in", "_law_parts", "_law_sorts", "_law_k", "_law_sort", "_law_found", "_law_part"]
theorem sc__law_event_read : FnScope N__law_event_read ["_law_text_in"] (defScope s__law_event_read) := ⟨rfl, rfl, rfl, by decide +kernel, rfl, by decide +kernel, by decide +kernel⟩
theorem h__law_event_read (t : Tx P w K mg cc) : HasB P w K mg base 4 "_law_event_read" ["_law_text_in"] F__law_event_read (fun fd => True) := by
  obtain ⟨f, fd, hF, hm, hb, hk⟩ := t.d__law_event_read
  obtain ⟨f__law_fits, fd__law_fits, D__law_fits, _⟩ := h__law_fits (base := base) t
  refine ⟨f, fd, ⟨fnG_of hF sc__law_event_read (.inr rfl) ?_, hm, hF.kp, hb⟩, hk⟩
  intro cdv A outer s H E g hr tk po
  exact gss_cons (gs_par2 g (i := 1) (j := 2) (ga_cons (ge_split (ge_var 0) (ge_str)) (ga_cons (ge_lst (ga_nil)) (ga_nil))) rfl rfl (by decide) rfl rfl rfl rfl) (gss_cons (gs_if (gt_cmp g (ge_ix g (ge_var 1) (ge_int)) (ge_str)) (gss_one (gs_asg (ge_lst (ga_cons (ge_str) (ga_cons (ge_str) (ga_cons (ge_str) (ga_cons (ge_str) (ga_nil)))))) (gg_name g 2))) (gss_one (gs_if (gt_cmp g (ge_ix g (ge_var 1) (ge_int)) (ge_str)) (gss_one (gs_asg (ge_lst (ga_cons (ge_str) (ga_cons (ge_str) (ga_cons (ge_str) (ga_nil))))) (gg_name g 2))) (gss_one (gs_if (gt_cmp g (ge_ix g (ge_var 1) (ge_int)) (ge_tup (ga_cons (ge_str) (ga_cons (ge_str) (ga_nil))))) (gss_one (gs_asg (ge_add (ge_lst (ga_cons (ge_str) (ga_cons (ge_str) (ga_nil)))) (ge_if (gt_cmp g (ge_ix g (ge_var 1) (ge_int)) (ge_str)) (ge_lst (ga_cons (ge_str) (ga_nil))) (ge_lst (ga_nil)))) (gg_name g 2))) (gss_one (gs_ret (ge_tup (ga_cons (ge_str) (ga_cons (ge_int) (ga_nil))))))))))) (gss_cons (gs_for [3, 4] g po (gi_enum t.n_enumerate (ge_var 2)) (gg_tup g (ggs_cons (gg_name g 3) (ggs_cons (gg_name g 4) (ggs_nil)))) (gss_cons (gs_if (gt_bool (gw_or (gt_cmp g (ge_add (ge_var 3) (ge_int)) (ge_len t.n_len (ge_var 1))) (gw_or1 (gt_not (gt_val (ge_call (D__law_fits.mono (by decide)) hr g tk (ga_cons (ge_var 4) (ga_cons (ge_ix g (ge_var 1) (ge_add (ge_var 3) (ge_int))) (ga_nil))) (ln_cons (ln_cons (ln_nil))))))))) (gss_one (gs_ret (ge_tup (ga_cons (ge_str) (ga_cons (ge_add (ge_var 3) (ge_int)) (ga_nil)))))) (gss_nil)) (gss_one (gs_if (gt_bool (gw_and (gt_cmp g (ge_var 3) (ge_int)) (gw_and (gt_cmp g (ge_var 4) (ge_str)) (gw_and1 (gt_cmp g (ge_ix g (ge_var 1) (ge_int)) (ge_ix g (ge_var 1) (ge_int))))))) (gss_one (gs_ret (ge_tup (ga_cons (ge_str) (ga_cons (ge_int) (ga_nil)))))) (gss_nil))))) (gss_cons (gs_if (gt_cmp g (ge_len t.n_len (ge_var 1)) (ge_add (ge_len t.n_len (ge_var 2)) (ge_int))) (gss_one (gs_ret (ge_tup (ga_cons (ge_str) (ga_cons (ge_add (ge_len t.n_len (ge_var 2)) (ge_int)) (ga_nil)))))) (gss_nil)) (gss_cons (gs_asg (ge_lstM (ga_cons (ge_ix g (ge_var 1) (ge_int)) (ga_cons (ge_ix g (ge_var 1) (ge_int)) (ga_nil)))) (gg_name g 5)) (gss_cons (gs_for [3, 6] g po (gi_range2 t.n_range (ge_int) (ge_len t.n_len (ge_var 2))) (gg_name g 3) (gss_cons (gs_asg (ge_ix g (ge_var 1) (ge_add (ge_var 3) (ge_int))) (gg_name g 6)) (gss_one (gs_expr (ge_append (ge_var 5) (ge_if (gt_cmp g (ge_ix g (ge_var 2) (ge_var 3)) (ge_str)) (ge_var 6) (ge_if (gt_cmp g (ge_var 6) (ge_str)) (ge_none) (ge_toint t.n_int (ge_var 6))))))))) (gss_one (gs_ret (ge_tup (ga_cons (ge_str) (ga_cons (ge_totuple t.n_tuple (ge_var 5)) (ga_nil)))))))))))
abbrev N__law_heard : List Str := ["_law_deed", "e_in", "_law_families", "_law_kinds"]
theorem sc__law_heard : FnScope N__law_heard ["_law_deed"] (defScope s__law_heard) := ⟨rfl, rfl, rfl, by decide +kernel, rfl, by decide +kernel, by decide +kernel⟩
theorem hs__law_heard (t : Tx P w K mg cc) : Said P w K mg base "_law_heard" sF__law_heard := by
  obtain ⟨f, fd, hF, hm, hb, _⟩ := t.d__law_heard
  obtain ⟨CS, hme, hcs⟩ := t.m_StampError
  refine said_of (Ng := N__law_heard) (u := "told") (a := "_law_deed") (n := "e_in") (C := "StampError") (cs := cs__law_heard) (i := 1) (bh := b__law_heard) hF hm hb sc__law_heard (by rfl) hme hcs ind__law_heard ?_
  intro cdv A outer s H b dd c oe pn hc u g0
  exact gss_cons (gs_asg (ge_lst (ga_cons (ge_isE u (t.i_PaperError c hc) t.n_isinstance (ge_var 1)) (ga_cons (ge_isE u (t.i_ClusterError c hc) t.n_isinstance (ge_var 1)) (ga_nil)))) (gg_name g0 2)) (gss_cons (gs_asg (ge_add (ge_var 2) (ge_lst (ga_cons (ge_isE u (t.i_LiveError c hc) t.n_isinstance (ge_var 1)) (ga_cons (ge_isE u (t.i_TextError c hc) t.n_isinstance (ge_var 1)) (ga_nil))))) (gg_name g0 2)) (gss_cons (gs_if (gt_bool (gw_or (gt_not (gt_val (ge_isEb u (t.i_ValueError c hc) t.n_isinstance t.n_ValueError (ge_var 1)))) (gw_or1 (gt_cmp g0 (ge_count g0 (ge_var 2) (ge_bool)) (ge_int))))) (gss_one (gs_ret (ge_tup (ga_cons (ge_str) (ga_nil))))) (gss_nil)) (gss_cons (gs_asg (ge_lst (ga_cons (ge_isE u (t.i_RunsAhead c hc) t.n_isinstance (ge_var 1)) (ga_cons (ge_isE u (t.i_Shut c hc) t.n_isinstance (ge_var 1)) (ga_nil)))) (gg_name g0 3)) (gss_cons (gs_if (gt_bool (gw_and (gt_val (ge_ix g0 (ge_var 2) (ge_int))) (gw_and (gt_val (ge_isE u (t.i_NotUsable c hc) t.n_isinstance (ge_var 1))) (gw_and1 (gt_cmp g0 (ge_bool) (ge_var 3)))))) (gss_one (gs_ret (ge_tup (ga_cons (ge_str) (ga_cons (ge_fld u (t.f_word c hc) (ge_var 1)) (ga_cons (ge_fld u (t.f_at c hc) (ge_var 1)) (ga_nil))))))) (gss_nil)) (gss_cons (gs_if (gt_bool (gw_or (gt_not (gt_val (ge_ix g0 (ge_var 2) (ge_int)))) (gw_or (gt_val (ge_isE u (t.i_InvalidRow c hc) t.n_isinstance (ge_var 1))) (gw_or1 (gt_not (gt_val (ge_isE u (t.i_InvalidText c hc) t.n_isinstance (ge_var 1)))))))) (gss_one (gs_ret (ge_tup (ga_cons (ge_str) (ga_nil))))) (gss_nil)) (gss_one (gs_ret (ge_tup (ga_cons (ge_str) (ga_cons (ge_fld u (t.f_line c hc) (ge_var 1)) (ga_cons (ge_fld u (t.f_field c hc) (ge_var 1)) (ga_nil))))))))))))
abbrev N__law_is_read_right : List Str := ["_law_text_in", "_law_due", "_law_spoken"]
theorem sc__law_is_read_right : FnScope N__law_is_read_right ["_law_text_in"] (defScope s__law_is_read_right) := ⟨rfl, rfl, rfl, by decide +kernel, rfl, by decide +kernel, by decide +kernel⟩
theorem h__law_is_read_right (t : Tx P w K mg cc) (tB : ∀ j < 2, TabB base mg (cc j) (tb j)) : HasB P w K mg base 8 "_law_is_read_right" ["_law_text_in"] (F__law_is_read_right tb) (fun fd => True) := by
  obtain ⟨f, fd, hF, kp, hm, hb, hk⟩ := t.d__law_is_read_right
  obtain ⟨f__law_event_read, fd__law_event_read, D__law_event_read, _⟩ := h__law_event_read (base := base) t
  have S__law_heard := hs__law_heard (base := base) t
  obtain ⟨f_read_event, fd_read_event, D_read_event, BK_read_event_text, _⟩ := h_read_event (base := base) t
  refine ⟨f, fd, ⟨fnG_cd hF sc__law_is_read_right (.inr rfl) ?_, hm, kp, hb⟩, hk⟩
  intro A outer s H E g hr tk po
  exact gss_cons (gs_asg (ge_call (D__law_event_read.mono (by decide)) hr g tk (ga_cons (ge_var 0) (ga_nil)) (ln_cons (ln_nil))) (gg_name g 1)) (gss_cons (gs_asg (ge_if (gt_cmp g (ge_ix g (ge_var 1) (ge_int)) (ge_str)) (ge_var 1) (ge_tup (ga_cons (ge_str) (ga_cons (ge_int) (ga_cons (ge_ix g (ge_var 1) (ge_int)) (ga_nil)))))) (gg_name g 1)) (gss_cons (gs_asg (ge_lstM (ga_cons (ge_said S__law_heard hr g ⟨_, tB 0 (by decide), rfl⟩ (fun _ _ _ _ _ _ _ rL1 gL2 kL3 => ge_call (D_read_event.mono (by decide)) rL1 gL2 kL3 (ga_cons (ge_var 0) (ga_nil)) (ln_cons (ln_nil))) (lamS_by (sc := defScope s__law_is_read_right) (by decide +kernel))) (ga_nil))) (gg_name g 2)) (gss_cons (gs_expr (ge_append (ge_var 2) (ge_said S__law_heard hr g ⟨_, tB 0 (by decide), rfl⟩ (fun _ _ _ _ _ _ _ rL4 gL5 kL6 => ge_callK0 (g' := perm [0]) (D_read_event.mono (by decide)) BK_read_event_text rL4 gL5 kL6 (gk_cons (ge_var 0) (gk_nil)) (ln_cons (ln_nil))) (lamS_by (sc := defScope s__law_is_read_right) (by decide +kernel))))) (gss_one (gs_ret (ge_cmp g (ge_reprF g t.n_repr (ge_var 2)) (ge_reprF g t.n_repr (ge_lst (ga_cons (ge_var 1) (ga_cons (ge_var 1) (ga_nil)))))))))))
abbrev N__law_bent : List Str := ["_law_feed_here", "_law_text_in", "_law_lot", "_law_spot", "_law_parts", "_law_sign", "_law_k", "_law_late"]
theorem sc__law_bent : FnScope N__law_bent ["_law_feed_here", "_law_text_in"] (defScope s__law_bent) := ⟨rfl, rfl, rfl, by decide +kernel, rfl, by decide +kernel, by decide +kernel⟩
theorem h__law_bent (t : Tx P w K mg cc) : HasB P w K mg base 3 "_law_bent" ["_law_feed_here", "_law_text_in"] F__law_bent (fun fd => True) := by
  obtain ⟨f, fd, hF, hm, hb, hk⟩ := t.d__law_bent
  obtain ⟨f__law_draw, fd__law_draw, D__law_draw, _⟩ := h__law_draw (base := base) t
  obtain ⟨f__law_any, fd__law_any, D__law_any, _⟩ := h__law_any (base := base) t
  refine ⟨f, fd, ⟨fnG_of hF sc__law_bent (.inr rfl) ?_, hm, hF.kp, hb⟩, hk⟩
  intro cdv A outer s H E g hr tk po
  exact gss_cons (gs_par3 g (i := 2) (j := 3) (l := 4) (ga_cons (ge_call (D__law_draw.mono (by decide)) hr g tk (ga_cons (ge_var 0) (ga_cons (ge_int) (ga_nil))) (ln_cons (ln_cons (ln_nil)))) (ga_cons (ge_call (D__law_draw.mono (by decide)) hr g tk (ga_cons (ge_var 0) (ga_cons (ge_add (ge_len t.n_len (ge_var 1)) (ge_int)) (ga_nil))) (ln_cons (ln_cons (ln_nil)))) (ga_cons (ge_split (ge_var 1) (ge_str)) (ga_nil)))) rfl rfl rfl (by decide) (by decide) (by decide) rfl rfl rfl rfl rfl) (gss_cons (gs_asg (ge_call (D__law_any.mono (by decide)) hr g tk (ga_cons (ge_var 0) (ga_cons (ge_lst (ga_cons (ge_str) (ga_cons (ge_str) (ga_cons (ge_str) (ga_cons (ge_str) (ga_cons (ge_str) (ga_cons (ge_str) (ga_cons (ge_str) (ga_cons (ge_str) (ga_cons (ge_str) (ga_cons (ge_str) (ga_cons (ge_str) (ga_nil))))))))))))) (ga_nil))) (ln_cons (ln_cons (ln_nil)))) (gg_name g 5)) (gss_cons (gs_asg (ge_call (D__law_draw.mono (by decide)) hr g tk (ga_cons (ge_var 0) (ga_cons (ge_len t.n_len (ge_var 4)) (ga_nil))) (ln_cons (ln_cons (ln_nil)))) (gg_name g 6)) (gss_cons (gs_asg (ge_lst (ga_cons (ge_str) (ga_cons (ge_str) (ga_cons (ge_str) (ga_cons (ge_str) (ga_cons (ge_str) (ga_cons (ge_str) (ga_cons (ge_str) (ga_cons (ge_str) (ga_cons (ge_str) (ga_cons (ge_str) (ga_cons (ge_str) (ga_cons (ge_str) (ga_nil)))))))))))))) (gg_name g 7)) (gss_cons (gs_asg (ge_add (ge_var 7) (ge_lst (ga_cons (ge_mulT (ge_str) (ge_int)) (ga_cons (ge_mulT (ge_str) (ge_int)) (ga_nil))))) (gg_name g 7)) (gss_cons (gs_asg (ge_add (ge_var 7) (ge_lst (ga_cons (ge_add (ge_str) (ge_mulT (ge_str) (ge_int))) (ga_cons (ge_add (ge_str) (ge_mulT (ge_str) (ge_int))) (ga_cons (ge_str) (ga_cons (ge_str) (ga_cons (ge_str) (ga_cons (ge_str) (ga_cons (ge_str) (ga_nil)))))))))) (gg_name g 7)) (gss_cons (gs_if (gt_cmp g (ge_var 2) (ge_int)) (gss_one (gs_ret (ge_add (ge_slice (ge_var 1) (go_none) (go_some (ge_var 3))) (ge_slice (ge_var 1) (go_some (ge_add (ge_var 3) (ge_int))) (go_none))))) (gss_nil)) (gss_cons (gs_if (gt_cmp g (ge_var 2) (ge_int)) (gss_one (gs_ret (ge_add (ge_add (ge_slice (ge_var 1) (go_none) (go_some (ge_var 3))) (ge_var 5)) (ge_slice (ge_var 1) (go_some (ge_add (ge_var 3) (ge_int))) (go_none))))) (gss_nil)) (gss_cons (gs_if (gt_cmp g (ge_var 2) (ge_int)) (gss_one (gs_ret (ge_join (ge_str) (ge_add (ge_add (ge_slice (ge_var 4) (go_none) (go_some (ge_var 6))) (ge_slice (ge_var 4) (go_some (ge_var 6)) (go_some (ge_add (ge_var 6) (ge_int))))) (ge_slice (ge_var 4) (go_some (ge_var 6)) (go_none)))))) (gss_nil)) (gss_cons (gs_if (gt_cmp g (ge_var 2) (ge_int)) (gss_one (gs_ret (ge_join (ge_str) (ge_add (ge_slice (ge_var 4) (go_none) (go_some (ge_var 6))) (ge_slice (ge_var 4) (go_some (ge_add (ge_var 6) (ge_int))) (go_none)))))) (gss_nil)) (gss_cons (gs_if (gt_cmp g (ge_var 2) (ge_int)) (gss_one (gs_ret (ge_join (ge_str) (ge_add (ge_add (ge_slice (ge_var 4) (go_none) (go_some (ge_var 6))) (ge_lst (ga_cons (ge_call (D__law_any.mono (by decide)) hr g tk (ga_cons (ge_var 0) (ga_cons (ge_var 7) (ga_nil))) (ln_cons (ln_cons (ln_nil)))) (ga_nil)))) (ge_slice (ge_var 4) (go_some (ge_add (ge_var 6) (ge_int))) (go_none)))))) (gss_nil)) (gss_one (gs_ret (ge_add (ge_add (ge_slice (ge_var 1) (go_none) (go_some (ge_var 3))) (ge_var 5)) (ge_slice (ge_var 1) (go_some (ge_var 3)) (go_none)))))))))))))))
abbrev N__law_hand : List Str := ["_law_some"]
theorem sc__law_hand : FnScope N__law_hand [] (defScope s__law_hand) := ⟨rfl, rfl, rfl, by decide +kernel, rfl, by decide +kernel, by decide +kernel⟩
theorem h__law_hand (t : Tx P w K mg cc) : HasB P w K mg base 1 "_law_hand" [] F__law_hand (fun fd => True) := by
  obtain ⟨f, fd, hF, hm, hb, hk⟩ := t.d__law_hand
  refine ⟨f, fd, ⟨fnG_of hF sc__law_hand (.inr rfl) ?_, hm, hF.kp, hb⟩, hk⟩
  intro cdv A outer s H E g hr tk po
  exact gss_cons (gs_asg (ge_lst (ga_cons (ge_str) (ga_cons (ge_str) (ga_cons (ge_str) (ga_cons (ge_str) (ga_cons (ge_str) (ga_cons (ge_str) (ga_cons (ge_str) (ga_nil))))))))) (gg_name g 0)) (gss_cons (gs_asg (ge_add (ge_var 0) (ge_lst (ga_cons (ge_str) (ga_cons (ge_str) (ga_nil))))) (gg_name g 0)) (gss_cons (gs_asg (ge_add (ge_var 0) (ge_lst (ga_cons (ge_str) (ga_cons (ge_str) (ga_cons (ge_str) (ga_cons (ge_str) (ga_nil))))))) (gg_name g 0)) (gss_cons (gs_asg (ge_add (ge_var 0) (ge_lst (ga_cons (ge_str) (ga_cons (ge_str) (ga_nil))))) (gg_name g 0)) (gss_cons (gs_asg (ge_add (ge_var 0) (ge_lst (ga_cons (ge_str) (ga_cons (ge_str) (ga_cons (ge_str) (ga_cons (ge_str) (ga_nil))))))) (gg_name g 0)) (gss_cons (gs_asg (ge_add (ge_var 0) (ge_lst (ga_cons (ge_str) (ga_cons (ge_str) (ga_nil))))) (gg_name g 0)) (gss_cons (gs_asg (ge_add (ge_var 0) (ge_lst (ga_cons (ge_str) (ga_cons (ge_str) (ga_cons (ge_str) (ga_cons (ge_str) (ga_cons (ge_str) (ga_nil)))))))) (gg_name g 0)) (gss_cons (gs_asg (ge_add (ge_var 0) (ge_lst (ga_cons (ge_str) (ga_cons (ge_str) (ga_nil))))) (gg_name g 0)) (gss_cons (gs_asg (ge_add (ge_var 0) (ge_lst (ga_cons (ge_str) (ga_cons (ge_str) (ga_cons (ge_str) (ga_cons (ge_str) (ga_cons (ge_str) (ga_cons (ge_str) (ga_cons (ge_str) (ga_nil)))))))))) (gg_name g 0)) (gss_cons (gs_asg (ge_add (ge_var 0) (ge_lst (ga_cons (ge_str) (ga_cons (ge_str) (ga_nil))))) (gg_name g 0)) (gss_cons (gs_asg (ge_add (ge_var 0) (ge_lst (ga_cons (ge_str) (ga_cons (ge_str) (ga_cons (ge_str) (ga_cons (ge_str) (ga_cons (ge_str) (ga_cons (ge_str) (ga_cons (ge_str) (ga_cons (ge_str) (ga_nil))))))))))) (gg_name g 0)) (gss_cons (gs_asg (ge_add (ge_var 0) (ge_lst (ga_cons (ge_str) (ga_cons (ge_str) (ga_nil))))) (gg_name g 0)) (gss_cons (gs_asg (ge_add (ge_var 0) (ge_lst (ga_cons (ge_str) (ga_cons (ge_str) (ga_cons (ge_str) (ga_cons (ge_str) (ga_cons (ge_str) (ga_cons (ge_add (ge_add (ge_str) (ge_mulT (ge_str) (ge_int))) (ge_str)) (ga_nil))))))))) (gg_name g 0)) (gss_cons (gs_asg (ge_add (ge_var 0) (ge_lst (ga_cons (ge_add (ge_str) (ge_mulT (ge_str) (ge_int))) (ga_cons (ge_str) (ga_nil))))) (gg_name g 0)) (gss_cons (gs_asg (ge_add (ge_var 0) (ge_lst (ga_cons (ge_add (ge_add (ge_add (ge_add (ge_add (ge_str) (ge_mulT (ge_str) (ge_int))) (ge_str)) (ge_mulT (ge_str) (ge_int))) (ge_str)) (ge_mulT (ge_str) (ge_int))) (ga_nil)))) (gg_name g 0)) (gss_one (gs_ret (ge_add (ge_var 0) (ge_lst (ga_cons (ge_add (ge_add (ge_str) (ge_mulT (ge_str) (ge_int))) (ge_str)) (ga_cons (ge_str) (ga_nil)))))))))))))))))))))
abbrev N__law_are_refused : List Str := ["_law_odds", "_law_odd"]
theorem sc__law_are_refused : FnScope N__law_are_refused [] (defScope s__law_are_refused) := ⟨rfl, rfl, rfl, by decide +kernel, rfl, by decide +kernel, by decide +kernel⟩
theorem h__law_are_refused (t : Tx P w K mg cc) (tB : ∀ j < 2, TabB base mg (cc j) (tb j)) : HasB P w K mg base 9 "_law_are_refused" [] (F__law_are_refused tb) (fun fd => True) := by
  obtain ⟨f, fd, hF, kp, hm, hb, hk⟩ := t.d__law_are_refused
  have S__law_heard := hs__law_heard (base := base) t
  obtain ⟨f_event_line, fd_event_line, D_event_line, BK_event_line_event, _⟩ := h_event_line (base := base) t
  obtain ⟨f_read_event, fd_read_event, D_read_event, BK_read_event_text, _⟩ := h_read_event (base := base) t
  refine ⟨f, fd, ⟨fnG_cd hF sc__law_are_refused (.inr rfl) ?_, hm, kp, hb⟩, hk⟩
  intro A outer s H E g hr tk po
  exact gss_cons (gs_asg (ge_lst (ga_cons (ge_none) (ga_cons (ge_tup (ga_nil)) (ga_cons (ge_str) (ga_cons (ge_lst (ga_cons (ge_str) (ga_cons (ge_str) (ga_cons (ge_str) (ga_nil))))) (ga_cons (ge_tup (ga_cons (ge_str) (ga_cons (ge_str) (ga_cons (ge_str) (ga_nil))))) (ga_cons (ge_tup (ga_cons (ge_str) (ga_cons (ge_str) (ga_cons (ge_int) (ga_cons (ge_int) (ga_nil)))))) (ga_nil)))))))) (gg_name g 0)) (gss_cons (gs_asg (ge_add (ge_var 0) (ge_lst (ga_cons (ge_tup (ga_cons (ge_str) (ga_cons (ge_str) (ga_cons (ge_neg (ge_int)) (ga_cons (ge_int) (ga_nil)))))) (ga_cons (ge_int) (ga_cons (ge_bool) (ga_nil)))))) (gg_name g 0)) (gss_cons (gs_asg (ge_add (ge_var 0) (ge_lst (ga_cons (ge_tup (ga_cons (ge_str) (ga_cons (ge_str) (ga_cons (ge_str) (ga_cons (ge_bool) (ga_nil)))))) (ga_cons (ge_tup (ga_cons (ge_str) (ga_cons (ge_str) (ga_cons (ge_int) (ga_cons (ge_int) (ga_cons (ge_none) (ga_nil))))))) (ga_cons (ge_tup (ga_cons (ge_str) (ga_cons (ge_str) (ga_cons (ge_str) (ga_nil))))) (ga_nil)))))) (gg_name g 0)) (gss_cons (gs_asg (ge_add (ge_var 0) (ge_lst (ga_cons (ge_tup (ga_cons (ge_str) (ga_cons (ge_str) (ga_cons (ge_int) (ga_cons (ge_int) (ga_cons (ge_neg (ge_int)) (ga_nil))))))) (ga_nil)))) (gg_name g 0)) (gss_cons (gs_if (gt_cmp g (ge_lc [("_law_odd", 1)] (.nm 1) g (gi_iter (ge_var 0)) (blkOk_by (N := N__law_are_refused) (sc := defScope s__law_are_refused) (by decide +kernel)) (fun _ _ _ _ _ gB1 => gct_name 1 gB1) (fun _ _ _ _ _ gB1 => gts_one (gt_cmp gB1 (ge_reprF gB1 t.n_repr (ge_said S__law_heard hr gB1 ⟨_, tB 1 (by decide), rfl⟩ (fun _ _ _ _ _ _ _ rL2 gL3 kL4 => ge_call (D_event_line.mono (by decide)) rL2 gL3 kL4 (ga_cons (ge_var 1) (ga_nil)) (ln_cons (ln_nil))) (lamS_by rfl))) (ge_reprF gB1 t.n_repr (ge_tup (ga_cons (ge_str) (ga_cons (ge_str) (ga_cons (ge_neg (ge_int)) (ga_nil)))))))) (fun _ _ _ _ _ gB1 => ge_var 1)) (ge_lst (ga_nil))) (gss_one (gs_ret (ge_bool))) (gss_nil)) (gss_cons (gs_asg (ge_lst (ga_cons (ge_none) (ga_cons (ge_int) (ga_cons (ge_bool) (ga_cons (ge_tup (ga_nil)) (ga_cons (ge_lst (ga_cons (ge_str) (ga_nil))) (ga_cons (ge_tup (ga_cons (ge_str) (ga_cons (ge_str) (ga_cons (ge_str) (ga_nil))))) (ga_nil)))))))) (gg_name g 0)) (gss_one (gs_ret (ge_cmp g (ge_lc [("_law_odd", 1)] (.nm 1) g (gi_iter (ge_var 0)) (blkOk_by (N := N__law_are_refused) (sc := defScope s__law_are_refused) (by decide +kernel)) (fun _ _ _ _ _ gB5 => gct_name 1 gB5) (fun _ _ _ _ _ gB5 => gts_one (gt_cmp gB5 (ge_reprF gB5 t.n_repr (ge_said S__law_heard hr gB5 ⟨_, tB 1 (by decide), rfl⟩ (fun _ _ _ _ _ _ _ rL6 gL7 kL8 => ge_call (D_read_event.mono (by decide)) rL6 gL7 kL8 (ga_cons (ge_var 1) (ga_nil)) (ln_cons (ln_nil))) (lamS_by rfl))) (ge_reprF gB5 t.n_repr (ge_tup (ga_cons (ge_str) (ga_cons (ge_str) (ga_cons (ge_neg (ge_int)) (ga_nil)))))))) (fun _ _ _ _ _ gB5 => ge_var 1)) (ge_lst (ga_nil))))))))))
abbrev N_law : List Str := ["_law_script", "_law_feed_here", "_law_lap", "_law_deed", "_law_line_in", "_law_spoken"]
theorem sc_law : FnScope N_law ["_law_script"] (defScope s_law) := ⟨rfl, rfl, rfl, by decide +kernel, rfl, by decide +kernel, by decide +kernel⟩
theorem h_law (t : Tx P w K mg cc) (tB : ∀ j < 2, TabB base mg (cc j) (tb j)) {f : Addr} {fd : FuncData} (hF : Fun K "law" "law" s_law f fd) : FnG P w K mg base 10 f fd ["_law_script"] (F_law tb) := by
  obtain ⟨f__law_feed, fd__law_feed, D__law_feed, _⟩ := h__law_feed (base := base) t
  obtain ⟨f__law_drawn_event, fd__law_drawn_event, D__law_drawn_event, _⟩ := h__law_drawn_event (base := base) t
  obtain ⟨f__law_line, fd__law_line, D__law_line, _⟩ := h__law_line (base := base) t
  obtain ⟨f_event_line, fd_event_line, D_event_line, BK_event_line_event, _⟩ := h_event_line (base := base) t
  obtain ⟨f_read_event, fd_read_event, D_read_event, BK_read_event_text, _⟩ := h_read_event (base := base) t
  obtain ⟨f__law_is_read_right, fd__law_is_read_right, D__law_is_read_right, _⟩ := h__law_is_read_right (base := base) t tB
  obtain ⟨f__law_bent, fd__law_bent, D__law_bent, _⟩ := h__law_bent (base := base) t
  obtain ⟨f__law_hand, fd__law_hand, D__law_hand, _⟩ := h__law_hand (base := base) t
  obtain ⟨f__law_are_refused, fd__law_are_refused, D__law_are_refused, _⟩ := h__law_are_refused (base := base) t tB
  refine fnG_of hF sc_law (.inr rfl) ?_
  intro cdv A outer s H E g hr tk po
  exact gss_cons (gs_asg (ge_call (D__law_feed.mono (by decide)) hr g tk (ga_cons (ge_var 0) (ga_nil)) (ln_cons (ln_nil))) (gg_name g 1)) (gss_cons (gs_for [2, 3, 4, 5] g po (gi_range1 t.n_range (ge_int)) (gg_name g 2) (gss_cons (gs_asg (ge_call (D__law_drawn_event.mono (by decide)) hr g tk (ga_cons (ge_var 1) (ga_nil)) (ln_cons (ln_nil))) (gg_name g 3)) (gss_cons (gs_asg (ge_call (D__law_line.mono (by decide)) hr g tk (ga_cons (ge_var 3) (ga_nil)) (ln_cons (ln_nil))) (gg_name g 4)) (gss_cons (gs_asg (ge_lst (ga_cons (ge_call (D_event_line.mono (by decide)) hr g tk (ga_cons (ge_var 3) (ga_nil)) (ln_cons (ln_nil))) (ga_cons (ge_callK0 (g' := perm [0]) (D_event_line.mono (by decide)) BK_event_line_event hr g tk (gk_cons (ge_var 3) (gk_nil)) (ln_cons (ln_nil))) (ga_cons (ge_call (D_read_event.mono (by decide)) hr g tk (ga_cons (ge_var 4) (ga_nil)) (ln_cons (ln_nil))) (ga_nil))))) (gg_name g 5)) (gss_cons (gs_if (gt_cmp g (ge_reprF g t.n_repr (ge_var 5)) (ge_reprF g t.n_repr (ge_lst (ga_cons (ge_var 4) (ga_cons (ge_var 4) (ga_cons (ge_var 3) (ga_nil))))))) (gss_one (gs_ret (ge_bool))) (gss_nil)) (gss_one (gs_if (gt_bool (gw_or (gt_not (gt_val (ge_call (D__law_is_read_right.mono (by decide)) hr g tk (ga_cons (ge_call (D__law_bent.mono (by decide)) hr g tk (ga_cons (ge_var 1) (ga_cons (ge_var 4) (ga_nil))) (ln_cons (ln_cons (ln_nil)))) (ga_nil)) (ln_cons (ln_nil))))) (gw_or1 (gt_not (gt_val (ge_call (D__law_is_read_right.mono (by decide)) hr g tk (ga_cons (ge_call (D__law_bent.mono (by decide)) hr g tk (ga_cons (ge_var 1) (ga_cons (ge_var 4) (ga_nil))) (ln_cons (ln_cons (ln_nil)))) (ga_nil)) (ln_cons (ln_nil)))))))) (gss_one (gs_ret (ge_bool))) (gss_nil)))))))) (gss_one (gs_ret (ge_and (ge_cmp g (ge_lc [("_law_line_in", 4)] (.nm 4) g (gi_iter (ge_call0 (D__law_hand.mono (by decide)) hr g tk)) (blkOk_by (N := N_law) (sc := defScope s_law) (by decide +kernel)) (fun _ _ _ _ _ gB1 => gct_name 4 gB1) (fun _ _ _ _ _ gB1 => gts_one (gt_not (gt_val (ge_call (D__law_is_read_right.mono (by decide)) hr gB1 L2.takes0 (ga_cons (ge_var 4) (ga_nil)) (ln_cons (ln_nil)))))) (fun _ _ _ _ _ gB1 => ge_var 4)) (ge_lst (ga_nil))) (ge_one (ge_call0 (D__law_are_refused.mono (by decide)) hr g tk))))))
end
theorem all_mk {w : World} {K : PySem.W.Frag} {h : Heap} {mg : Str → Option Value} {fa : Addr} (X : K.In h) (G : h.Ns mainGlobals mg) (hfa : mg "law" = some (.ref fa))
    {f0 : Addr} {od0 an0 : Option Addr} {sl0 : Array (Option Value)} {oc0 kV0 dc0 pm0 cd0 ct0 : Value}
    (a0 : PySem.W.nsIn K mainGlobals "_law_feed" = some (some (.ref f0)))
    (l0 : K.lookup f0 = some ⟨oc0, od0, .func (PySem.W.fnOf "_law_feed" "_law_feed" (defArgs s__law_feed) (defBody s__law_feed) (defScope s__law_feed) .none kV0 dc0 pm0 an0 cd0 ct0), sl0⟩)
    (c0 : PySem.W.codeIn K cd0 "_law_feed" = true)
    (k0 : PySem.W.keepIn K (.ref f0) = true)
    {f1 : Addr} {od1 an1 : Option Addr} {sl1 : Array (Option Value)} {oc1 kV1 dc1 pm1 cd1 ct1 : Value}
    (a1 : PySem.W.nsIn K mainGlobals "_law_draw" = some (some (.ref f1)))
    (l1 : K.lookup f1 = some ⟨oc1, od1, .func (PySem.W.fnOf "_law_draw" "_law_draw" (defArgs s__law_draw) (defBody s__law_draw) (defScope s__law_draw) .none kV1 dc1 pm1 an1 cd1 ct1), sl1⟩)
    (c1 : PySem.W.codeIn K cd1 "_law_draw" = true)
    (k1 : PySem.W.keepIn K (.ref f1) = true)
    {f2 : Addr} {od2 an2 : Option Addr} {sl2 : Array (Option Value)} {oc2 kV2 dc2 pm2 cd2 ct2 : Value}
    (a2 : PySem.W.nsIn K mainGlobals "_law_any" = some (some (.ref f2)))
    (l2 : K.lookup f2 = some ⟨oc2, od2, .func (PySem.W.fnOf "_law_any" "_law_any" (defArgs s__law_any) (defBody s__law_any) (defScope s__law_any) .none kV2 dc2 pm2 an2 cd2 ct2), sl2⟩)
    (c2 : PySem.W.codeIn K cd2 "_law_any" = true)
    (k2 : PySem.W.keepIn K (.ref f2) = true)
    {f3 : Addr} {od3 an3 : Option Addr} {sl3 : Array (Option Value)} {oc3 kV3 dc3 pm3 cd3 ct3 : Value}
    (a3 : PySem.W.nsIn K mainGlobals "_law_drawn_event" = some (some (.ref f3)))
    (l3 : K.lookup f3 = some ⟨oc3, od3, .func (PySem.W.fnOf "_law_drawn_event" "_law_drawn_event" (defArgs s__law_drawn_event) (defBody s__law_drawn_event) (defScope s__law_drawn_event) .none kV3 dc3 pm3 an3 cd3 ct3), sl3⟩)
    (c3 : PySem.W.codeIn K cd3 "_law_drawn_event" = true)
    (k3 : PySem.W.keepIn K (.ref f3) = true)
    {f4 : Addr} {od4 an4 : Option Addr} {sl4 : Array (Option Value)} {oc4 kV4 dc4 pm4 cd4 ct4 : Value}
    (a4 : PySem.W.nsIn K mainGlobals "_law_line" = some (some (.ref f4)))
    (l4 : K.lookup f4 = some ⟨oc4, od4, .func (PySem.W.fnOf "_law_line" "_law_line" (defArgs s__law_line) (defBody s__law_line) (defScope s__law_line) .none kV4 dc4 pm4 an4 cd4 ct4), sl4⟩)
    (c4 : PySem.W.codeIn K cd4 "_law_line" = true)
    (k4 : PySem.W.keepIn K (.ref f4) = true)
    {f5 : Addr} {od5 an5 : Option Addr} {sl5 : Array (Option Value)} {oc5 kV5 dc5 pm5 cd5 ct5 : Value}
    (a5 : PySem.W.nsIn K mainGlobals "want" = some (some (.ref f5)))
    (l5 : K.lookup f5 = some ⟨oc5, od5, .func (PySem.W.fnOf "want" "want" (defArgs s_want) (defBody s_want) (defScope s_want) .none kV5 dc5 pm5 an5 cd5 ct5), sl5⟩)
    (c5 : PySem.W.codeIn K cd5 "want" = true)
    (k5 : PySem.W.keepIn K (.ref f5) = true)
    {f6 : Addr} {od6 an6 : Option Addr} {sl6 : Array (Option Value)} {oc6 kV6 dc6 pm6 cd6 ct6 : Value}
    (a6 : PySem.W.nsIn K mainGlobals "is_name" = some (some (.ref f6)))
    (l6 : K.lookup f6 = some ⟨oc6, od6, .func (PySem.W.fnOf "is_name" "is_name" (defArgs s_is_name) (defBody s_is_name) (defScope s_is_name) .none kV6 dc6 pm6 an6 cd6 ct6), sl6⟩)
    (c6 : PySem.W.codeIn K cd6 "is_name" = true)
    (k6 : PySem.W.keepIn K (.ref f6) = true)
    {f7 : Addr} {od7 an7 : Option Addr} {sl7 : Array (Option Value)} {oc7 kV7 dc7 pm7 cd7 ct7 : Value}
    (a7 : PySem.W.nsIn K mainGlobals "is_integer" = some (some (.ref f7)))
    (l7 : K.lookup f7 = some ⟨oc7, od7, .func (PySem.W.fnOf "is_integer" "is_integer" (defArgs s_is_integer) (defBody s_is_integer) (defScope s_is_integer) .none kV7 dc7 pm7 an7 cd7 ct7), sl7⟩)
    (c7 : PySem.W.codeIn K cd7 "is_integer" = true)
    (k7 : PySem.W.keepIn K (.ref f7) = true)
    {f8 : Addr} {od8 an8 : Option Addr} {sl8 : Array (Option Value)} {oc8 kV8 dc8 pm8 cd8 ct8 : Value}
    (a8 : PySem.W.nsIn K mainGlobals "is_number" = some (some (.ref f8)))
    (l8 : K.lookup f8 = some ⟨oc8, od8, .func (PySem.W.fnOf "is_number" "is_number" (defArgs s_is_number) (defBody s_is_number) (defScope s_is_number) .none kV8 dc8 pm8 an8 cd8 ct8), sl8⟩)
    (c8 : PySem.W.codeIn K cd8 "is_number" = true)
    (k8 : PySem.W.keepIn K (.ref f8) = true)
    {f9 : Addr} {od9 an9 : Option Addr} {sl9 : Array (Option Value)} {oc9 kV9 dc9 pm9 cd9 ct9 : Value}
    (a9 : PySem.W.nsIn K mainGlobals "is_letter" = some (some (.ref f9)))
    (l9 : K.lookup f9 = some ⟨oc9, od9, .func (PySem.W.fnOf "is_letter" "is_letter" (defArgs s_is_letter) (defBody s_is_letter) (defScope s_is_letter) .none kV9 dc9 pm9 an9 cd9 ct9), sl9⟩)
    (c9 : PySem.W.codeIn K cd9 "is_letter" = true)
    (k9 : PySem.W.keepIn K (.ref f9) = true)
    {f10 : Addr} {od10 an10 : Option Addr} {sl10 : Array (Option Value)} {oc10 kV10 dc10 pm10 cd10 ct10 : Value}
    (a10 : PySem.W.nsIn K mainGlobals "is_told" = some (some (.ref f10)))
    (l10 : K.lookup f10 = some ⟨oc10, od10, .func (PySem.W.fnOf "is_told" "is_told" (defArgs s_is_told) (defBody s_is_told) (defScope s_is_told) .none kV10 dc10 pm10 an10 cd10 ct10), sl10⟩)
    (c10 : PySem.W.codeIn K cd10 "is_told" = true)
    (k10 : PySem.W.keepIn K (.ref f10) = true)
    {f11 : Addr} {od11 an11 : Option Addr} {sl11 : Array (Option Value)} {oc11 kV11 dc11 pm11 cd11 ct11 : Value}
    (a11 : PySem.W.nsIn K mainGlobals "is_clocked" = some (some (.ref f11)))
    (l11 : K.lookup f11 = some ⟨oc11, od11, .func (PySem.W.fnOf "is_clocked" "is_clocked" (defArgs s_is_clocked) (defBody s_is_clocked) (defScope s_is_clocked) .none kV11 dc11 pm11 an11 cd11 ct11), sl11⟩)
    (c11 : PySem.W.codeIn K cd11 "is_clocked" = true)
    (k11 : PySem.W.keepIn K (.ref f11) = true)
    {f12 : Addr} {od12 an12 : Option Addr} {sl12 : Array (Option Value)} {oc12 kV12 dc12 pm12 cd12 ct12 : Value}
    (a12 : PySem.W.nsIn K mainGlobals "are_two" = some (some (.ref f12)))
    (l12 : K.lookup f12 = some ⟨oc12, od12, .func (PySem.W.fnOf "are_two" "are_two" (defArgs s_are_two) (defBody s_are_two) (defScope s_are_two) .none kV12 dc12 pm12 an12 cd12 ct12), sl12⟩)
    (c12 : PySem.W.codeIn K cd12 "are_two" = true)
    (k12 : PySem.W.keepIn K (.ref f12) = true)
    {f13 : Addr} {od13 an13 : Option Addr} {sl13 : Array (Option Value)} {oc13 kV13 dc13 pm13 cd13 ct13 : Value}
    (a13 : PySem.W.nsIn K mainGlobals "is_led" = some (some (.ref f13)))
    (l13 : K.lookup f13 = some ⟨oc13, od13, .func (PySem.W.fnOf "is_led" "is_led" (defArgs s_is_led) (defBody s_is_led) (defScope s_is_led) .none kV13 dc13 pm13 an13 cd13 ct13), sl13⟩)
    (c13 : PySem.W.codeIn K cd13 "is_led" = true)
    (k13 : PySem.W.keepIn K (.ref f13) = true)
    {f14 : Addr} {od14 an14 : Option Addr} {sl14 : Array (Option Value)} {oc14 kV14 dc14 pm14 cd14 ct14 : Value}
    (a14 : PySem.W.nsIn K mainGlobals "is_live_event" = some (some (.ref f14)))
    (l14 : K.lookup f14 = some ⟨oc14, od14, .func (PySem.W.fnOf "is_live_event" "is_live_event" (defArgs s_is_live_event) (defBody s_is_live_event) (defScope s_is_live_event) .none kV14 dc14 pm14 an14 cd14 ct14), sl14⟩)
    (c14 : PySem.W.codeIn K cd14 "is_live_event" = true)
    (k14 : PySem.W.keepIn K (.ref f14) = true)
    {f15 : Addr} {od15 an15 : Option Addr} {sl15 : Array (Option Value)} {oc15 kV15 dc15 pm15 cd15 ct15 : Value}
    (a15 : PySem.W.nsIn K mainGlobals "event_line" = some (some (.ref f15)))
    (l15 : K.lookup f15 = some ⟨oc15, od15, .func (PySem.W.fnOf "event_line" "event_line" (defArgs s_event_line) (defBody s_event_line) (defScope s_event_line) .none kV15 dc15 pm15 an15 cd15 ct15), sl15⟩)
    (c15 : PySem.W.codeIn K cd15 "event_line" = true)
    (k15 : PySem.W.keepIn K (.ref f15) = true)
    {f16 : Addr} {od16 an16 : Option Addr} {sl16 : Array (Option Value)} {oc16 kV16 dc16 pm16 cd16 ct16 : Value}
    (a16 : PySem.W.nsIn K mainGlobals "number_of" = some (some (.ref f16)))
    (l16 : K.lookup f16 = some ⟨oc16, od16, .func (PySem.W.fnOf "number_of" "number_of" (defArgs s_number_of) (defBody s_number_of) (defScope s_number_of) .none kV16 dc16 pm16 an16 cd16 ct16), sl16⟩)
    (c16 : PySem.W.codeIn K cd16 "number_of" = true)
    (k16 : PySem.W.keepIn K (.ref f16) = true)
    {f17 : Addr} {od17 an17 : Option Addr} {sl17 : Array (Option Value)} {oc17 kV17 dc17 pm17 cd17 ct17 : Value}
    (a17 : PySem.W.nsIn K mainGlobals "integer_of" = some (some (.ref f17)))
    (l17 : K.lookup f17 = some ⟨oc17, od17, .func (PySem.W.fnOf "integer_of" "integer_of" (defArgs s_integer_of) (defBody s_integer_of) (defScope s_integer_of) .none kV17 dc17 pm17 an17 cd17 ct17), sl17⟩)
    (c17 : PySem.W.codeIn K cd17 "integer_of" = true)
    (k17 : PySem.W.keepIn K (.ref f17) = true)
    {f18 : Addr} {od18 an18 : Option Addr} {sl18 : Array (Option Value)} {oc18 kV18 dc18 pm18 cd18 ct18 : Value}
    (a18 : PySem.W.nsIn K mainGlobals "part_of" = some (some (.ref f18)))
    (l18 : K.lookup f18 = some ⟨oc18, od18, .func (PySem.W.fnOf "part_of" "part_of" (defArgs s_part_of) (defBody s_part_of) (defScope s_part_of) .none kV18 dc18 pm18 an18 cd18 ct18), sl18⟩)
    (c18 : PySem.W.codeIn K cd18 "part_of" = true)
    (k18 : PySem.W.keepIn K (.ref f18) = true)
    {f19 : Addr} {od19 an19 : Option Addr} {sl19 : Array (Option Value)} {oc19 kV19 dc19 pm19 cd19 ct19 : Value}
    (a19 : PySem.W.nsIn K mainGlobals "event_in" = some (some (.ref f19)))
    (l19 : K.lookup f19 = some ⟨oc19, od19, .func (PySem.W.fnOf "event_in" "event_in" (defArgs s_event_in) (defBody s_event_in) (defScope s_event_in) .none kV19 dc19 pm19 an19 cd19 ct19), sl19⟩)
    (c19 : PySem.W.codeIn K cd19 "event_in" = true)
    (k19 : PySem.W.keepIn K (.ref f19) = true)
    {f20 : Addr} {od20 an20 : Option Addr} {sl20 : Array (Option Value)} {oc20 kV20 dc20 pm20 cd20 ct20 : Value}
    (a20 : PySem.W.nsIn K mainGlobals "read_event" = some (some (.ref f20)))
    (l20 : K.lookup f20 = some ⟨oc20, od20, .func (PySem.W.fnOf "read_event" "read_event" (defArgs s_read_event) (defBody s_read_event) (defScope s_read_event) .none kV20 dc20 pm20 an20 cd20 ct20), sl20⟩)
    (c20 : PySem.W.codeIn K cd20 "read_event" = true)
    (k20 : PySem.W.keepIn K (.ref f20) = true)
    {f21 : Addr} {od21 an21 : Option Addr} {sl21 : Array (Option Value)} {oc21 kV21 dc21 pm21 cd21 ct21 : Value}
    (a21 : PySem.W.nsIn K mainGlobals "_law_is_name" = some (some (.ref f21)))
    (l21 : K.lookup f21 = some ⟨oc21, od21, .func (PySem.W.fnOf "_law_is_name" "_law_is_name" (defArgs s__law_is_name) (defBody s__law_is_name) (defScope s__law_is_name) .none kV21 dc21 pm21 an21 cd21 ct21), sl21⟩)
    (c21 : PySem.W.codeIn K cd21 "_law_is_name" = true)
    (k21 : PySem.W.keepIn K (.ref f21) = true)
    {f22 : Addr} {od22 an22 : Option Addr} {sl22 : Array (Option Value)} {oc22 kV22 dc22 pm22 cd22 ct22 : Value}
    (a22 : PySem.W.nsIn K mainGlobals "_law_is_figures" = some (some (.ref f22)))
    (l22 : K.lookup f22 = some ⟨oc22, od22, .func (PySem.W.fnOf "_law_is_figures" "_law_is_figures" (defArgs s__law_is_figures) (defBody s__law_is_figures) (defScope s__law_is_figures) .none kV22 dc22 pm22 an22 cd22 ct22), sl22⟩)
    (c22 : PySem.W.codeIn K cd22 "_law_is_figures" = true)
    (k22 : PySem.W.keepIn K (.ref f22) = true)
    {f23 : Addr} {od23 an23 : Option Addr} {sl23 : Array (Option Value)} {oc23 kV23 dc23 pm23 cd23 ct23 : Value}
    (a23 : PySem.W.nsIn K mainGlobals "_law_is_whole" = some (some (.ref f23)))
    (l23 : K.lookup f23 = some ⟨oc23, od23, .func (PySem.W.fnOf "_law_is_whole" "_law_is_whole" (defArgs s__law_is_whole) (defBody s__law_is_whole) (defScope s__law_is_whole) .none kV23 dc23 pm23 an23 cd23 ct23), sl23⟩)
    (c23 : PySem.W.codeIn K cd23 "_law_is_whole" = true)
    (k23 : PySem.W.keepIn K (.ref f23) = true)
    {f24 : Addr} {od24 an24 : Option Addr} {sl24 : Array (Option Value)} {oc24 kV24 dc24 pm24 cd24 ct24 : Value}
    (a24 : PySem.W.nsIn K mainGlobals "_law_fits" = some (some (.ref f24)))
    (l24 : K.lookup f24 = some ⟨oc24, od24, .func (PySem.W.fnOf "_law_fits" "_law_fits" (defArgs s__law_fits) (defBody s__law_fits) (defScope s__law_fits) .none kV24 dc24 pm24 an24 cd24 ct24), sl24⟩)
    (c24 : PySem.W.codeIn K cd24 "_law_fits" = true)
    (k24 : PySem.W.keepIn K (.ref f24) = true)
    {f25 : Addr} {od25 an25 : Option Addr} {sl25 : Array (Option Value)} {oc25 kV25 dc25 pm25 cd25 ct25 : Value}
    (a25 : PySem.W.nsIn K mainGlobals "_law_event_read" = some (some (.ref f25)))
    (l25 : K.lookup f25 = some ⟨oc25, od25, .func (PySem.W.fnOf "_law_event_read" "_law_event_read" (defArgs s__law_event_read) (defBody s__law_event_read) (defScope s__law_event_read) .none kV25 dc25 pm25 an25 cd25 ct25), sl25⟩)
    (c25 : PySem.W.codeIn K cd25 "_law_event_read" = true)
    (k25 : PySem.W.keepIn K (.ref f25) = true)
    {f26 : Addr} {od26 an26 : Option Addr} {sl26 : Array (Option Value)} {oc26 kV26 dc26 pm26 cd26 ct26 : Value}
    (a26 : PySem.W.nsIn K mainGlobals "_law_heard" = some (some (.ref f26)))
    (l26 : K.lookup f26 = some ⟨oc26, od26, .func (PySem.W.fnOf "_law_heard" "_law_heard" (defArgs s__law_heard) (defBody s__law_heard) (defScope s__law_heard) .none kV26 dc26 pm26 an26 cd26 ct26), sl26⟩)
    (c26 : PySem.W.codeIn K cd26 "_law_heard" = true)
    (k26 : PySem.W.keepIn K (.ref f26) = true)
    {f27 c0t P0t : Addr} {od27 an27 odt27 : Option Addr} {sl27 slt27 : Array (Option Value)} {oc27 kV27 dc27 pm27 ct27 oct27 : Value} {vs27 : Array Value}
    (a27 : PySem.W.nsIn K mainGlobals "_law_is_read_right" = some (some (.ref f27)))
    (l27 : K.lookup f27 = some ⟨oc27, od27, .func (PySem.W.fnOf "_law_is_read_right" "_law_is_read_right" (defArgs s__law_is_read_right) (defBody s__law_is_read_right) (defScope s__law_is_read_right) .none kV27 dc27 pm27 an27 (.ref c0t) ct27), sl27⟩)
    (c27 : PySem.W.codeIn K (.ref c0t) "_law_is_read_right" = true)
    (k27 : PySem.W.keepIn K (.ref f27) = true)
    (lt27 : K.lookup c0t = some ⟨oct27, odt27, .fields vs27, slt27⟩)
    (p27 : vs27[11]? = some (.ref P0t))
    {f28 : Addr} {od28 an28 : Option Addr} {sl28 : Array (Option Value)} {oc28 kV28 dc28 pm28 cd28 ct28 : Value}
    (a28 : PySem.W.nsIn K mainGlobals "_law_bent" = some (some (.ref f28)))
    (l28 : K.lookup f28 = some ⟨oc28, od28, .func (PySem.W.fnOf "_law_bent" "_law_bent" (defArgs s__law_bent) (defBody s__law_bent) (defScope s__law_bent) .none kV28 dc28 pm28 an28 cd28 ct28), sl28⟩)
    (c28 : PySem.W.codeIn K cd28 "_law_bent" = true)
    (k28 : PySem.W.keepIn K (.ref f28) = true)
    {f29 : Addr} {od29 an29 : Option Addr} {sl29 : Array (Option Value)} {oc29 kV29 dc29 pm29 cd29 ct29 : Value}
    (a29 : PySem.W.nsIn K mainGlobals "_law_hand" = some (some (.ref f29)))
    (l29 : K.lookup f29 = some ⟨oc29, od29, .func (PySem.W.fnOf "_law_hand" "_law_hand" (defArgs s__law_hand) (defBody s__law_hand) (defScope s__law_hand) .none kV29 dc29 pm29 an29 cd29 ct29), sl29⟩)
    (c29 : PySem.W.codeIn K cd29 "_law_hand" = true)
    (k29 : PySem.W.keepIn K (.ref f29) = true)
    {f30 c1t P1t : Addr} {od30 an30 odt30 : Option Addr} {sl30 slt30 : Array (Option Value)} {oc30 kV30 dc30 pm30 ct30 oct30 : Value} {vs30 : Array Value}
    (a30 : PySem.W.nsIn K mainGlobals "_law_are_refused" = some (some (.ref f30)))
    (l30 : K.lookup f30 = some ⟨oc30, od30, .func (PySem.W.fnOf "_law_are_refused" "_law_are_refused" (defArgs s__law_are_refused) (defBody s__law_are_refused) (defScope s__law_are_refused) .none kV30 dc30 pm30 an30 (.ref c1t) ct30), sl30⟩)
    (c30 : PySem.W.codeIn K (.ref c1t) "_law_are_refused" = true)
    (k30 : PySem.W.keepIn K (.ref f30) = true)
    (lt30 : K.lookup c1t = some ⟨oct30, odt30, .fields vs30, slt30⟩)
    (p30 : vs30[11]? = some (.ref P1t))
    {f31 : Addr} {od31 an31 : Option Addr} {sl31 : Array (Option Value)} {oc31 kV31 dc31 pm31 cd31 ct31 : Value}
    (a31 : PySem.W.nsIn K mainGlobals "law" = some (some (.ref f31)))
    (l31 : K.lookup f31 = some ⟨oc31, od31, .func (PySem.W.fnOf "law" "law" (defArgs s_law) (defBody s_law) (defScope s_law) .none kV31 dc31 pm31 an31 cd31 ct31), sl31⟩)
    (c31 : PySem.W.codeIn K cd31 "law" = true)
    (k31 : PySem.W.keepIn K (.ref f31) = true)
    (z_ValueError : PySem.W.nsIn K mainGlobals "ValueError" = some none)
    (z_all : PySem.W.nsIn K mainGlobals "all" = some none)
    (z_bool : PySem.W.nsIn K mainGlobals "bool" = some none)
    (z_enumerate : PySem.W.nsIn K mainGlobals "enumerate" = some none)
    (z_int : PySem.W.nsIn K mainGlobals "int" = some none)
    (z_isinstance : PySem.W.nsIn K mainGlobals "isinstance" = some none)
    (z_len : PySem.W.nsIn K mainGlobals "len" = some none)
    (z_range : PySem.W.nsIn K mainGlobals "range" = some none)
    (z_repr : PySem.W.nsIn K mainGlobals "repr" = some none)
    (z_str : PySem.W.nsIn K mainGlobals "str" = some none)
    (z_tuple : PySem.W.nsIn K mainGlobals "tuple" = some none)
    {t_DIGITS : Tok}
    (g_DIGITS : PySem.W.nsIn K mainGlobals "DIGITS" = some (some (.str "0123456789" t_DIGITS)))
    {t_LETTERS : Tok}
    (g_LETTERS : PySem.W.nsIn K mainGlobals "LETTERS" = some (some (.str "abcdefghijklmnopqrstuvwxyz" t_LETTERS)))
    {t_MOST_DIGITS : Tok}
    (g_MOST_DIGITS : PySem.W.nsIn K mainGlobals "MOST_DIGITS" = some (some (.int (60) t_MOST_DIGITS)))
    {ga_WORDS : Addr} {gn_WORDS : Nat}
    {tk0_WORDS t0_0_WORDS t0_1_WORDS t0_2_WORDS t0_3_WORDS : Tok} {va0_WORDS : Addr} {vn0_WORDS : Nat} {vs0_WORDS : Array (Option Value)}
    {tk1_WORDS t1_0_WORDS t1_1_WORDS t1_2_WORDS : Tok} {va1_WORDS : Addr} {vn1_WORDS : Nat} {vs1_WORDS : Array (Option Value)}
    {tk2_WORDS t2_0_WORDS t2_1_WORDS t2_2_WORDS : Tok} {va2_WORDS : Addr} {vn2_WORDS : Nat} {vs2_WORDS : Array (Option Value)}
    {tk3_WORDS t3_0_WORDS t3_1_WORDS : Tok} {va3_WORDS : Addr} {vn3_WORDS : Nat} {vs3_WORDS : Array (Option Value)}
    (g_WORDS : PySem.W.nsIn K mainGlobals "WORDS" = some (some (.ref ga_WORDS)))
    (gl_WORDS : K.lookup ga_WORDS = some ⟨.type "dict", none, .dict #[⟨PyData.keyHash w.params "tell", .str "tell" tk0_WORDS, .ref va0_WORDS⟩, ⟨PyData.keyHash w.params "clock", .str "clock" tk1_WORDS, .ref va1_WORDS⟩, ⟨PyData.keyHash w.params "road", .str "road" tk2_WORDS, .ref va2_WORDS⟩, ⟨PyData.keyHash w.params "cut", .str "cut" tk3_WORDS, .ref va3_WORDS⟩] gn_WORDS, #[]⟩)
    (lo_WORDS : (ga_WORDS == sysModules) = false)
    (vl0_WORDS : K.lookup va0_WORDS = some ⟨.type "tuple", none, .seq #[.str "name" t0_0_WORDS, .str "integer" t0_1_WORDS, .str "integer" t0_2_WORDS, .str "letter" t0_3_WORDS] vn0_WORDS, vs0_WORDS⟩)
    (vl1_WORDS : K.lookup va1_WORDS = some ⟨.type "tuple", none, .seq #[.str "name" t1_0_WORDS, .str "number" t1_1_WORDS, .str "number" t1_2_WORDS] vn1_WORDS, vs1_WORDS⟩)
    (vl2_WORDS : K.lookup va2_WORDS = some ⟨.type "tuple", none, .seq #[.str "name" t2_0_WORDS, .str "other" t2_1_WORDS, .str "number" t2_2_WORDS] vn2_WORDS, vs2_WORDS⟩)
    (vl3_WORDS : K.lookup va3_WORDS = some ⟨.type "tuple", none, .seq #[.str "name" t3_0_WORDS, .str "other" t3_1_WORDS] vn3_WORDS, vs3_WORDS⟩)
    (x_sg : PySem.W.specialIn K (.builtin "object.__class__") "__get__" = some (some (.builtin "getset_descriptor.__get__")))
    (x_tk : PySem.W.takesIn K (.builtin "object.__class__") = some true)
    (x_any : PySem.W.nsIn K PySem.cStatics "thirdparty.any" = some none)
    (z_super : PySem.W.nsIn K mainGlobals "super" = some none)
    {C_ClusterError : Addr}
    (y_ClusterError : PySem.W.nsIn K mainGlobals "ClusterError" = some (some (.ref C_ClusterError)))
    {C_InvalidRow : Addr}
    (y_InvalidRow : PySem.W.nsIn K mainGlobals "InvalidRow" = some (some (.ref C_InvalidRow)))
    {C_InvalidText : Addr}
    (y_InvalidText : PySem.W.nsIn K mainGlobals "InvalidText" = some (some (.ref C_InvalidText)))
    {C_LiveError : Addr}
    (y_LiveError : PySem.W.nsIn K mainGlobals "LiveError" = some (some (.ref C_LiveError)))
    {C_NotUsable : Addr}
    (y_NotUsable : PySem.W.nsIn K mainGlobals "NotUsable" = some (some (.ref C_NotUsable)))
    {C_PaperError : Addr}
    (y_PaperError : PySem.W.nsIn K mainGlobals "PaperError" = some (some (.ref C_PaperError)))
    {C_RunsAhead : Addr}
    (y_RunsAhead : PySem.W.nsIn K mainGlobals "RunsAhead" = some (some (.ref C_RunsAhead)))
    {C_Shut : Addr}
    (y_Shut : PySem.W.nsIn K mainGlobals "Shut" = some (some (.ref C_Shut)))
    {C_StampError : Addr}
    (y_StampError : PySem.W.nsIn K mainGlobals "StampError" = some (some (.ref C_StampError)))
    {C_TextError : Addr}
    (y_TextError : PySem.W.nsIn K mainGlobals "TextError" = some (some (.ref C_TextError)))
    {nm_InvalidText qn_InvalidText : Str} {N_InvalidText : Addr} {bs_InvalidText bm_InvalidText sub_InvalidText : List Value} {sn_InvalidText : List Str} {ab_InvalidText : Bool} {col_InvalidText : Option Bool} {dd_InvalidText : Option Addr} {m0_InvalidText m1_InvalidText m2_InvalidText m3_InvalidText m5_InvalidText : Option Value}
    (xL_InvalidText : K.lookup C_InvalidText = some (excClassObj nm_InvalidText qn_InvalidText C_InvalidText N_InvalidText bs_InvalidText bm_InvalidText true sn_InvalidText sub_InvalidText ab_InvalidText col_InvalidText dd_InvalidText m0_InvalidText m1_InvalidText m2_InvalidText m3_InvalidText m5_InvalidText "ValueError.__new__"))
    (bm_InvalidText_ok : PySem.HandSPX.refsVE bm_InvalidText = true)
    (sa_InvalidText : PySem.W.findIn K (.ref C_InvalidText) "__setattr__" = some (some (.builtin "object.__setattr__")))
    (ga_InvalidText : PySem.W.findIn K (.ref C_InvalidText) "__getattribute__" = some (some (.builtin "BaseException.__getattribute__")))
    (gg_InvalidText : PySem.W.findIn K (.ref C_InvalidText) "__getattr__" = some none)
    (cl_InvalidText : PySem.W.findIn K (.ref C_InvalidText) "__class__" = some (some (.builtin "object.__class__")))
    (eC_InvalidText : PySem.W.subIn K (.ref C_InvalidText) (.type "BaseException") = some true)
    (vC_InvalidText : PySem.W.subIn K (.ref C_InvalidText) (.type "ValueError") = some true)
    (tC_InvalidText : PySem.W.typeIn K (.ref C_InvalidText) = some (.type "type"))
    (kC_InvalidText : PySem.W.keepIn K (.ref C_InvalidText) = true)
    (hC_InvalidText : PySem.W.hasDictIn K C_InvalidText = true)
    (mC_InvalidText : PySem.W.mroIn K C_InvalidText (.ref C_InvalidText) = some true)
    (mO_InvalidText : PySem.W.mroIn K C_InvalidText (.type "object") = some true)
    (sup_InvalidText : PySem.W.ks_superIn K C_InvalidText C_InvalidText "__init__" = some (some (.builtin "ValueError.__init__")))
    (self_InvalidText : PySem.W.subIn K (.ref C_InvalidText) (.ref C_InvalidText) = some true)
    (n_at_InvalidText : PySem.W.findIn K (.ref C_InvalidText) "at" = some none)
    (n_field_InvalidText : PySem.W.findIn K (.ref C_InvalidText) "field" = some none)
    (n_line_InvalidText : PySem.W.findIn K (.ref C_InvalidText) "line" = some none)
    (n_word_InvalidText : PySem.W.findIn K (.ref C_InvalidText) "word" = some none)
    {nm_NotUsable qn_NotUsable : Str} {N_NotUsable : Addr} {bs_NotUsable bm_NotUsable sub_NotUsable : List Value} {sn_NotUsable : List Str} {ab_NotUsable : Bool} {col_NotUsable : Option Bool} {dd_NotUsable : Option Addr} {m0_NotUsable m1_NotUsable m2_NotUsable m3_NotUsable m5_NotUsable : Option Value}
    (xL_NotUsable : K.lookup C_NotUsable = some (excClassObj nm_NotUsable qn_NotUsable C_NotUsable N_NotUsable bs_NotUsable bm_NotUsable true sn_NotUsable sub_NotUsable ab_NotUsable col_NotUsable dd_NotUsable m0_NotUsable m1_NotUsable m2_NotUsable m3_NotUsable m5_NotUsable "ValueError.__new__"))
    (bm_NotUsable_ok : PySem.HandSPX.refsVE bm_NotUsable = true)
    (sa_NotUsable : PySem.W.findIn K (.ref C_NotUsable) "__setattr__" = some (some (.builtin "object.__setattr__")))
    (ga_NotUsable : PySem.W.findIn K (.ref C_NotUsable) "__getattribute__" = some (some (.builtin "BaseException.__getattribute__")))
    (gg_NotUsable : PySem.W.findIn K (.ref C_NotUsable) "__getattr__" = some none)
    (cl_NotUsable : PySem.W.findIn K (.ref C_NotUsable) "__class__" = some (some (.builtin "object.__class__")))
    (eC_NotUsable : PySem.W.subIn K (.ref C_NotUsable) (.type "BaseException") = some true)
    (vC_NotUsable : PySem.W.subIn K (.ref C_NotUsable) (.type "ValueError") = some true)
    (tC_NotUsable : PySem.W.typeIn K (.ref C_NotUsable) = some (.type "type"))
    (kC_NotUsable : PySem.W.keepIn K (.ref C_NotUsable) = true)
    (hC_NotUsable : PySem.W.hasDictIn K C_NotUsable = true)
    (mC_NotUsable : PySem.W.mroIn K C_NotUsable (.ref C_NotUsable) = some true)
    (mO_NotUsable : PySem.W.mroIn K C_NotUsable (.type "object") = some true)
    (sup_NotUsable : PySem.W.ks_superIn K C_NotUsable C_NotUsable "__init__" = some (some (.builtin "ValueError.__init__")))
    (self_NotUsable : PySem.W.subIn K (.ref C_NotUsable) (.ref C_NotUsable) = some true)
    (n_at_NotUsable : PySem.W.findIn K (.ref C_NotUsable) "at" = some none)
    (n_field_NotUsable : PySem.W.findIn K (.ref C_NotUsable) "field" = some none)
    (n_line_NotUsable : PySem.W.findIn K (.ref C_NotUsable) "line" = some none)
    (n_word_NotUsable : PySem.W.findIn K (.ref C_NotUsable) "word" = some none)
    {fI_InvalidText cda_InvalidText cce_InvalidText : Addr} {oci_InvalidText dci_InvalidText pmi_InvalidText cti_InvalidText cli_InvalidText ccl_InvalidText : Value} {odi_InvalidText ani_InvalidText cld_InvalidText cdd_InvalidText : Option Addr} {osl_InvalidText csl_InvalidText ccs_InvalidText : Array (Option Value)} {vsi_InvalidText : Array Value}
    (ini_InvalidText : PySem.W.findIn K (.ref C_InvalidText) "__init__" = some (some (.ref fI_InvalidText)))
    (ty_InvalidText : PySem.W.typeIn K (.ref fI_InvalidText) = some (.type "function"))
    (lk_InvalidText : K.lookup fI_InvalidText = some ⟨oci_InvalidText, odi_InvalidText, .func (PySem.W.ksFn "__init__" "InvalidText.__init__" (defArgs i_InvalidText) (defBody i_InvalidText) (defScope i_InvalidText) .none .none dci_InvalidText pmi_InvalidText ani_InvalidText (.ref cda_InvalidText) cti_InvalidText cce_InvalidText), osl_InvalidText⟩)
    (cdi_InvalidText : PySem.W.codeIn K (.ref cda_InvalidText) "InvalidText.__init__" = true)
    (lc_InvalidText : K.lookup cda_InvalidText = some ⟨ccl_InvalidText, cdd_InvalidText, .fields vsi_InvalidText, ccs_InvalidText⟩)
    (hv_InvalidText : ∃ file tf, vsi_InvalidText[2]? = some (.str file tf) ∧ ((PySem.Challenge.pw_stampahead_k76_events_written.main.file : Str) == file) = true)
    (cell_InvalidText : K.lookup cce_InvalidText = some ⟨cli_InvalidText, cld_InvalidText, .cell (some (.ref C_InvalidText)), csl_InvalidText⟩)
    {fI_NotUsable cda_NotUsable cce_NotUsable : Addr} {oci_NotUsable dci_NotUsable pmi_NotUsable cti_NotUsable cli_NotUsable ccl_NotUsable : Value} {odi_NotUsable ani_NotUsable cld_NotUsable cdd_NotUsable : Option Addr} {osl_NotUsable csl_NotUsable ccs_NotUsable : Array (Option Value)} {vsi_NotUsable : Array Value}
    (ini_NotUsable : PySem.W.findIn K (.ref C_NotUsable) "__init__" = some (some (.ref fI_NotUsable)))
    (ty_NotUsable : PySem.W.typeIn K (.ref fI_NotUsable) = some (.type "function"))
    (lk_NotUsable : K.lookup fI_NotUsable = some ⟨oci_NotUsable, odi_NotUsable, .func (PySem.W.ksFn "__init__" "NotUsable.__init__" (defArgs i_NotUsable) (defBody i_NotUsable) (defScope i_NotUsable) .none .none dci_NotUsable pmi_NotUsable ani_NotUsable (.ref cda_NotUsable) cti_NotUsable cce_NotUsable), osl_NotUsable⟩)
    (cdi_NotUsable : PySem.W.codeIn K (.ref cda_NotUsable) "NotUsable.__init__" = true)
    (lc_NotUsable : K.lookup cda_NotUsable = some ⟨ccl_NotUsable, cdd_NotUsable, .fields vsi_NotUsable, ccs_NotUsable⟩)
    (hv_NotUsable : ∃ file tf, vsi_NotUsable[2]? = some (.str file tf) ∧ ((PySem.Challenge.pw_stampahead_k76_events_written.main.file : Str) == file) = true)
    (cell_NotUsable : K.lookup cce_NotUsable = some ⟨cli_NotUsable, cld_NotUsable, .cell (some (.ref C_NotUsable)), csl_NotUsable⟩)
    (eC_ClusterError : PySem.W.subIn K (.ref C_ClusterError) (.type "BaseException") = some true)
    (tC_ClusterError : PySem.W.typeIn K (.ref C_ClusterError) = some (.type "type"))
    (iC_ClusterError : PySem.W.isClsIn K C_ClusterError = true)
    (s_NotUsable_ClusterError : PySem.W.subIn K (.ref C_NotUsable) (.ref C_ClusterError) = some true)
    (s_InvalidText_ClusterError : PySem.W.subIn K (.ref C_InvalidText) (.ref C_ClusterError) = some false)
    (eC_InvalidRow : PySem.W.subIn K (.ref C_InvalidRow) (.type "BaseException") = some true)
    (tC_InvalidRow : PySem.W.typeIn K (.ref C_InvalidRow) = some (.type "type"))
    (iC_InvalidRow : PySem.W.isClsIn K C_InvalidRow = true)
    (s_NotUsable_InvalidRow : PySem.W.subIn K (.ref C_NotUsable) (.ref C_InvalidRow) = some false)
    (s_InvalidText_InvalidRow : PySem.W.subIn K (.ref C_InvalidText) (.ref C_InvalidRow) = some false)
    (iC_InvalidText : PySem.W.isClsIn K C_InvalidText = true)
    (s_NotUsable_InvalidText : PySem.W.subIn K (.ref C_NotUsable) (.ref C_InvalidText) = some false)
    (eC_LiveError : PySem.W.subIn K (.ref C_LiveError) (.type "BaseException") = some true)
    (tC_LiveError : PySem.W.typeIn K (.ref C_LiveError) = some (.type "type"))
    (iC_LiveError : PySem.W.isClsIn K C_LiveError = true)
    (s_NotUsable_LiveError : PySem.W.subIn K (.ref C_NotUsable) (.ref C_LiveError) = some false)
    (s_InvalidText_LiveError : PySem.W.subIn K (.ref C_InvalidText) (.ref C_LiveError) = some false)
    (iC_NotUsable : PySem.W.isClsIn K C_NotUsable = true)
    (s_InvalidText_NotUsable : PySem.W.subIn K (.ref C_InvalidText) (.ref C_NotUsable) = some false)
    (eC_PaperError : PySem.W.subIn K (.ref C_PaperError) (.type "BaseException") = some true)
    (tC_PaperError : PySem.W.typeIn K (.ref C_PaperError) = some (.type "type"))
    (iC_PaperError : PySem.W.isClsIn K C_PaperError = true)
    (s_NotUsable_PaperError : PySem.W.subIn K (.ref C_NotUsable) (.ref C_PaperError) = some false)
    (s_InvalidText_PaperError : PySem.W.subIn K (.ref C_InvalidText) (.ref C_PaperError) = some false)
    (eC_RunsAhead : PySem.W.subIn K (.ref C_RunsAhead) (.type "BaseException") = some true)
    (tC_RunsAhead : PySem.W.typeIn K (.ref C_RunsAhead) = some (.type "type"))
    (iC_RunsAhead : PySem.W.isClsIn K C_RunsAhead = true)
    (s_NotUsable_RunsAhead : PySem.W.subIn K (.ref C_NotUsable) (.ref C_RunsAhead) = some false)
    (s_InvalidText_RunsAhead : PySem.W.subIn K (.ref C_InvalidText) (.ref C_RunsAhead) = some false)
    (eC_Shut : PySem.W.subIn K (.ref C_Shut) (.type "BaseException") = some true)
    (tC_Shut : PySem.W.typeIn K (.ref C_Shut) = some (.type "type"))
    (iC_Shut : PySem.W.isClsIn K C_Shut = true)
    (s_NotUsable_Shut : PySem.W.subIn K (.ref C_NotUsable) (.ref C_Shut) = some false)
    (s_InvalidText_Shut : PySem.W.subIn K (.ref C_InvalidText) (.ref C_Shut) = some false)
    (eC_StampError : PySem.W.subIn K (.ref C_StampError) (.type "BaseException") = some true)
    (tC_StampError : PySem.W.typeIn K (.ref C_StampError) = some (.type "type"))
    (iC_StampError : PySem.W.isClsIn K C_StampError = true)
    (s_NotUsable_StampError : PySem.W.subIn K (.ref C_NotUsable) (.ref C_StampError) = some true)
    (s_InvalidText_StampError : PySem.W.subIn K (.ref C_InvalidText) (.ref C_StampError) = some true)
    (eC_TextError : PySem.W.subIn K (.ref C_TextError) (.type "BaseException") = some true)
    (tC_TextError : PySem.W.typeIn K (.ref C_TextError) = some (.type "type"))
    (iC_TextError : PySem.W.isClsIn K C_TextError = true)
    (s_NotUsable_TextError : PySem.W.subIn K (.ref C_NotUsable) (.ref C_TextError) = some false)
    (s_InvalidText_TextError : PySem.W.subIn K (.ref C_InvalidText) (.ref C_TextError) = some true)
    : ∃ fd : FuncData, (∀ (s : Shared) (v : Value), BindsTo s fd ⟨[v], []⟩ [("_law_script", v)]) ∧ ∀ base : Heap, K.In base → base.Ns mainGlobals mg → (∀ p ∈ ([(c0t, P0t, "_law_is_read_right.<locals>.<lambda>"), (c1t, P1t, "_law_are_refused.<locals>.<lambda>")] : List Tb3), TabB base mg p.1 p.2.1) → FnG PySem.Challenge.pw_stampahead_k76_events_written w K mg base 10 fa fd ["_law_script"] (F_law (tbL [P0t, P1t])) := by
  have XT : XTop K := ⟨x_sg, x_tk, x_any⟩
  have R_InvalidText : XRaw K C_InvalidText := ⟨⟨nm_InvalidText, qn_InvalidText, N_InvalidText, bs_InvalidText, bm_InvalidText, sn_InvalidText, sub_InvalidText, ab_InvalidText, col_InvalidText, dd_InvalidText, m0_InvalidText, m1_InvalidText, m2_InvalidText, m3_InvalidText, m5_InvalidText, xL_InvalidText, bm_InvalidText_ok⟩, sa_InvalidText, ga_InvalidText, gg_InvalidText, cl_InvalidText, eC_InvalidText, vC_InvalidText, tC_InvalidText, kC_InvalidText, hC_InvalidText, mC_InvalidText, mO_InvalidText, sup_InvalidText⟩
  have R_NotUsable : XRaw K C_NotUsable := ⟨⟨nm_NotUsable, qn_NotUsable, N_NotUsable, bs_NotUsable, bm_NotUsable, sn_NotUsable, sub_NotUsable, ab_NotUsable, col_NotUsable, dd_NotUsable, m0_NotUsable, m1_NotUsable, m2_NotUsable, m3_NotUsable, m5_NotUsable, xL_NotUsable, bm_NotUsable_ok⟩, sa_NotUsable, ga_NotUsable, gg_NotUsable, cl_NotUsable, eC_NotUsable, vC_NotUsable, tC_NotUsable, kC_NotUsable, hC_NotUsable, mC_NotUsable, mO_NotUsable, sup_NotUsable⟩
  have Y_ClusterError : YRaw K C_ClusterError := ⟨eC_ClusterError, tC_ClusterError, iC_ClusterError⟩
  have Y_InvalidRow : YRaw K C_InvalidRow := ⟨eC_InvalidRow, tC_InvalidRow, iC_InvalidRow⟩
  have Y_InvalidText : YRaw K C_InvalidText := ⟨eC_InvalidText, tC_InvalidText, iC_InvalidText⟩
  have Y_LiveError : YRaw K C_LiveError := ⟨eC_LiveError, tC_LiveError, iC_LiveError⟩
  have Y_NotUsable : YRaw K C_NotUsable := ⟨eC_NotUsable, tC_NotUsable, iC_NotUsable⟩
  have Y_PaperError : YRaw K C_PaperError := ⟨eC_PaperError, tC_PaperError, iC_PaperError⟩
  have Y_RunsAhead : YRaw K C_RunsAhead := ⟨eC_RunsAhead, tC_RunsAhead, iC_RunsAhead⟩
  have Y_Shut : YRaw K C_Shut := ⟨eC_Shut, tC_Shut, iC_Shut⟩
  have Y_StampError : YRaw K C_StampError := ⟨eC_StampError, tC_StampError, iC_StampError⟩
  have Y_TextError : YRaw K C_TextError := ⟨eC_TextError, tC_TextError, iC_TextError⟩
  have E_InvalidText : Exc2 PySem.Challenge.pw_stampahead_k76_events_written w K mg "InvalidText" "line" "field" := by
    obtain ⟨file, tf, hv, hfile⟩ := hv_InvalidText
    exact exc2_mk (is := i_InvalidText) (x1 := "line") (x2 := "field") R_InvalidText XT (PySem.W.mg_of X G y_InvalidText) ini_InvalidText ty_InvalidText lk_InvalidText cdi_InvalidText lc_InvalidText hv hfile cell_InvalidText (PySem.W.mg_none_of X G z_super) n_line_InvalidText n_field_InvalidText (by rfl) (by rfl) (by intro env; rfl) _ (by intro env; rfl) ⟨_, rfl, rfl⟩ (fun us hl => match us, hl with | [_, _, _], _ => rfl) rfl rfl rfl (by decide +kernel) (by decide +kernel) (by decide +kernel) rfl rfl (by decide +kernel) ⟨by decide +kernel, by decide +kernel⟩ ⟨by decide +kernel, by decide +kernel⟩
  have E_NotUsable : Exc2 PySem.Challenge.pw_stampahead_k76_events_written w K mg "NotUsable" "word" "at" := by
    obtain ⟨file, tf, hv, hfile⟩ := hv_NotUsable
    exact exc2_mk (is := i_NotUsable) (x1 := "word") (x2 := "at") R_NotUsable XT (PySem.W.mg_of X G y_NotUsable) ini_NotUsable ty_NotUsable lk_NotUsable cdi_NotUsable lc_NotUsable hv hfile cell_NotUsable (PySem.W.mg_none_of X G z_super) n_word_NotUsable n_at_NotUsable (by rfl) (by rfl) (by intro env; rfl) _ (by intro env; rfl) ⟨_, rfl, rfl⟩ (fun us hl => match us, hl with | [_, _, _], _ => rfl) rfl rfl rfl (by decide +kernel) (by decide +kernel) (by decide +kernel) rfl rfl (by decide +kernel) ⟨by decide +kernel, by decide +kernel⟩ ⟨by decide +kernel, by decide +kernel⟩
  have F0 := fun_mk (x := "_law_feed") (qual := "_law_feed") (st := s__law_feed) l0 c0 k0
  have b0 := F0.binds (ps := ["_law_script"]) fun _ _ _ _ _ _ us hl => match us, hl with | [_], _ => rfl
  have F1 := fun_mk (x := "_law_draw") (qual := "_law_draw") (st := s__law_draw) l1 c1 k1
  have b1 := F1.binds (ps := ["_law_feed_here", "_law_many"]) fun _ _ _ _ _ _ us hl => match us, hl with | [_, _], _ => rfl
  have F2 := fun_mk (x := "_law_any") (qual := "_law_any") (st := s__law_any) l2 c2 k2
  have b2 := F2.binds (ps := ["_law_feed_here", "_law_some"]) fun _ _ _ _ _ _ us hl => match us, hl with | [_, _], _ => rfl
  have F3 := fun_mk (x := "_law_drawn_event") (qual := "_law_drawn_event") (st := s__law_drawn_event) l3 c3 k3
  have b3 := F3.binds (ps := ["_law_feed_here"]) fun _ _ _ _ _ _ us hl => match us, hl with | [_], _ => rfl
  have F4 := fun_mk (x := "_law_line") (qual := "_law_line") (st := s__law_line) l4 c4 k4
  have b4 := F4.binds (ps := ["_law_deed"]) fun _ _ _ _ _ _ us hl => match us, hl with | [_], _ => rfl
  have F5 := fun_mk (x := "want") (qual := "want") (st := s_want) l5 c5 k5
  have b5 := F5.binds (ps := ["is_right", "word"]) fun _ _ _ _ _ _ us hl => match us, hl with | [_, _], _ => rfl
  have F6 := fun_mk (x := "is_name") (qual := "is_name") (st := s_is_name) l6 c6 k6
  have b6 := F6.binds (ps := ["thing"]) fun _ _ _ _ _ _ us hl => match us, hl with | [_], _ => rfl
  have F7 := fun_mk (x := "is_integer") (qual := "is_integer") (st := s_is_integer) l7 c7 k7
  have b7 := F7.binds (ps := ["thing"]) fun _ _ _ _ _ _ us hl => match us, hl with | [_], _ => rfl
  have F8 := fun_mk (x := "is_number") (qual := "is_number") (st := s_is_number) l8 c8 k8
  have b8 := F8.binds (ps := ["thing"]) fun _ _ _ _ _ _ us hl => match us, hl with | [_], _ => rfl
  have F9 := fun_mk (x := "is_letter") (qual := "is_letter") (st := s_is_letter) l9 c9 k9
  have b9 := F9.binds (ps := ["thing"]) fun _ _ _ _ _ _ us hl => match us, hl with | [_], _ => rfl
  have F10 := fun_mk (x := "is_told") (qual := "is_told") (st := s_is_told) l10 c10 k10
  have b10 := F10.binds (ps := ["parts"]) fun _ _ _ _ _ _ us hl => match us, hl with | [_], _ => rfl
  have F11 := fun_mk (x := "is_clocked") (qual := "is_clocked") (st := s_is_clocked) l11 c11 k11
  have b11 := F11.binds (ps := ["parts"]) fun _ _ _ _ _ _ us hl => match us, hl with | [_], _ => rfl
  have F12 := fun_mk (x := "are_two") (qual := "are_two") (st := s_are_two) l12 c12 k12
  have b12 := F12.binds (ps := ["one", "other"]) fun _ _ _ _ _ _ us hl => match us, hl with | [_, _], _ => rfl
  have F13 := fun_mk (x := "is_led") (qual := "is_led") (st := s_is_led) l13 c13 k13
  have b13 := F13.binds (ps := ["parts"]) fun _ _ _ _ _ _ us hl => match us, hl with | [_], _ => rfl
  have F14 := fun_mk (x := "is_live_event") (qual := "is_live_event") (st := s_is_live_event) l14 c14 k14
  have b14 := F14.binds (ps := ["thing"]) fun _ _ _ _ _ _ us hl => match us, hl with | [_], _ => rfl
  have F15 := fun_mk (x := "event_line") (qual := "event_line") (st := s_event_line) l15 c15 k15
  have b15 := F15.binds (ps := ["event"]) fun _ _ _ _ _ _ us hl => match us, hl with | [_], _ => rfl
  have bk15_0 := bk_perm (ps := ["event"]) (ks := ["event"]) [0] F15 rfl (by decide) fun _ _ _ _ _ _ us hl => match us, hl with | [_], _ => rfl
  have F16 := fun_mk (x := "number_of") (qual := "number_of") (st := s_number_of) l16 c16 k16
  have b16 := F16.binds (ps := ["text"]) fun _ _ _ _ _ _ us hl => match us, hl with | [_], _ => rfl
  have F17 := fun_mk (x := "integer_of") (qual := "integer_of") (st := s_integer_of) l17 c17 k17
  have b17 := F17.binds (ps := ["text"]) fun _ _ _ _ _ _ us hl => match us, hl with | [_], _ => rfl
  have F18 := fun_mk (x := "part_of") (qual := "part_of") (st := s_part_of) l18 c18 k18
  have b18 := F18.binds (ps := ["word", "kind", "before"]) fun _ _ _ _ _ _ us hl => match us, hl with | [_, _, _], _ => rfl
  have F19 := fun_mk (x := "event_in") (qual := "event_in") (st := s_event_in) l19 c19 k19
  have b19 := F19.binds (ps := ["row_text", "k"]) fun _ _ _ _ _ _ us hl => match us, hl with | [_, _], _ => rfl
  have F20 := fun_mk (x := "read_event") (qual := "read_event") (st := s_read_event) l20 c20 k20
  have b20 := F20.binds (ps := ["text"]) fun _ _ _ _ _ _ us hl => match us, hl with | [_], _ => rfl
  have bk20_0 := bk_perm (ps := ["text"]) (ks := ["text"]) [0] F20 rfl (by decide) fun _ _ _ _ _ _ us hl => match us, hl with | [_], _ => rfl
  have F21 := fun_mk (x := "_law_is_name") (qual := "_law_is_name") (st := s__law_is_name) l21 c21 k21
  have b21 := F21.binds (ps := ["_law_item"]) fun _ _ _ _ _ _ us hl => match us, hl with | [_], _ => rfl
  have F22 := fun_mk (x := "_law_is_figures") (qual := "_law_is_figures") (st := s__law_is_figures) l22 c22 k22
  have b22 := F22.binds (ps := ["_law_part"]) fun _ _ _ _ _ _ us hl => match us, hl with | [_], _ => rfl
  have F23 := fun_mk (x := "_law_is_whole") (qual := "_law_is_whole") (st := s__law_is_whole) l23 c23 k23
  have b23 := F23.binds (ps := ["_law_part"]) fun _ _ _ _ _ _ us hl => match us, hl with | [_], _ => rfl
  have F24 := fun_mk (x := "_law_fits") (qual := "_law_fits") (st := s__law_fits) l24 c24 k24
  have b24 := F24.binds (ps := ["_law_sort", "_law_part"]) fun _ _ _ _ _ _ us hl => match us, hl with | [_, _], _ => rfl
  have F25 := fun_mk (x := "_law_event_read") (qual := "_law_event_read") (st := s__law_event_read) l25 c25 k25
  have b25 := F25.binds (ps := ["_law_text_in"]) fun _ _ _ _ _ _ us hl => match us, hl with | [_], _ => rfl
  have F26 := fun_mk (x := "_law_heard") (qual := "_law_heard") (st := s__law_heard) l26 c26 k26
  have b26 := F26.binds (ps := ["_law_deed"]) fun _ _ _ _ _ _ us hl => match us, hl with | [_], _ => rfl
  have F27 := cd_of (x := "_law_is_read_right") (st := s__law_is_read_right) l27 c27
  have b27 : Binds K _ ["_law_text_in"] [] := .all fun us hl => (match us, hl with | [_], _ => rfl : bindArgs (PySem.W.fnOf "_law_is_read_right" "_law_is_read_right" (defArgs s__law_is_read_right) (defBody s__law_is_read_right) (defScope s__law_is_read_right) .none kV27 dc27 pm27 an27 (.ref c0t) ct27) ⟨us, []⟩ = pure ((["_law_text_in"] : List Str).zip us))
  have F28 := fun_mk (x := "_law_bent") (qual := "_law_bent") (st := s__law_bent) l28 c28 k28
  have b28 := F28.binds (ps := ["_law_feed_here", "_law_text_in"]) fun _ _ _ _ _ _ us hl => match us, hl with | [_, _], _ => rfl
  have F29 := fun_mk (x := "_law_hand") (qual := "_law_hand") (st := s__law_hand) l29 c29 k29
  have b29 := F29.binds (ps := []) fun _ _ _ _ _ _ us hl => match us, hl with | [], _ => rfl
  have F30 := cd_of (x := "_law_are_refused") (st := s__law_are_refused) l30 c30
  have b30 : Binds K _ [] [] := .all fun us hl => (match us, hl with | [], _ => rfl : bindArgs (PySem.W.fnOf "_law_are_refused" "_law_are_refused" (defArgs s__law_are_refused) (defBody s__law_are_refused) (defScope s__law_are_refused) .none kV30 dc30 pm30 an30 (.ref c1t) ct30) ⟨us, []⟩ = pure (([] : List Str).zip us))
  have F31 := fun_mk (x := "law") (qual := "law") (st := s_law) l31 c31 k31
  have T : Tx PySem.Challenge.pw_stampahead_k76_events_written w K mg (tbL [c0t, c1t]) := {
    d__law_feed := ⟨_, _, F0, PySem.W.mg_of X G a0, b0, trivial⟩
    d__law_draw := ⟨_, _, F1, PySem.W.mg_of X G a1, b1, trivial⟩
    d__law_any := ⟨_, _, F2, PySem.W.mg_of X G a2, b2, trivial⟩
    d__law_drawn_event := ⟨_, _, F3, PySem.W.mg_of X G a3, b3, trivial⟩
    d__law_line := ⟨_, _, F4, PySem.W.mg_of X G a4, b4, trivial⟩
    d_want := ⟨_, _, F5, PySem.W.mg_of X G a5, b5, trivial⟩
    d_is_name := ⟨_, _, F6, PySem.W.mg_of X G a6, b6, trivial⟩
    d_is_integer := ⟨_, _, F7, PySem.W.mg_of X G a7, b7, trivial⟩
    d_is_number := ⟨_, _, F8, PySem.W.mg_of X G a8, b8, trivial⟩
    d_is_letter := ⟨_, _, F9, PySem.W.mg_of X G a9, b9, trivial⟩
    d_is_told := ⟨_, _, F10, PySem.W.mg_of X G a10, b10, trivial⟩
    d_is_clocked := ⟨_, _, F11, PySem.W.mg_of X G a11, b11, trivial⟩
    d_are_two := ⟨_, _, F12, PySem.W.mg_of X G a12, b12, trivial⟩
    d_is_led := ⟨_, _, F13, PySem.W.mg_of X G a13, b13, trivial⟩
    d_is_live_event := ⟨_, _, F14, PySem.W.mg_of X G a14, b14, trivial⟩
    d_event_line := ⟨_, _, F15, PySem.W.mg_of X G a15, b15, bk15_0, trivial⟩
    d_number_of := ⟨_, _, F16, PySem.W.mg_of X G a16, b16, trivial⟩
    d_integer_of := ⟨_, _, F17, PySem.W.mg_of X G a17, b17, trivial⟩
    d_part_of := ⟨_, _, F18, PySem.W.mg_of X G a18, b18, trivial⟩
    d_event_in := ⟨_, _, F19, PySem.W.mg_of X G a19, b19, trivial⟩
    d_read_event := ⟨_, _, F20, PySem.W.mg_of X G a20, b20, bk20_0, trivial⟩
    d__law_is_name := ⟨_, _, F21, PySem.W.mg_of X G a21, b21, trivial⟩
    d__law_is_figures := ⟨_, _, F22, PySem.W.mg_of X G a22, b22, trivial⟩
    d__law_is_whole := ⟨_, _, F23, PySem.W.mg_of X G a23, b23, trivial⟩
    d__law_fits := ⟨_, _, F24, PySem.W.mg_of X G a24, b24, trivial⟩
    d__law_event_read := ⟨_, _, F25, PySem.W.mg_of X G a25, b25, trivial⟩
    d__law_heard := ⟨_, _, F26, PySem.W.mg_of X G a26, b26, trivial⟩
    d__law_is_read_right := ⟨_, _, F27, k27, PySem.W.mg_of X G a27, b27, trivial⟩
    d__law_bent := ⟨_, _, F28, PySem.W.mg_of X G a28, b28, trivial⟩
    d__law_hand := ⟨_, _, F29, PySem.W.mg_of X G a29, b29, trivial⟩
    d__law_are_refused := ⟨_, _, F30, k30, PySem.W.mg_of X G a30, b30, trivial⟩
    n_ValueError := PySem.W.mg_none_of X G z_ValueError
    n_all := PySem.W.mg_none_of X G z_all
    n_bool := PySem.W.mg_none_of X G z_bool
    n_enumerate := PySem.W.mg_none_of X G z_enumerate
    n_int := PySem.W.mg_none_of X G z_int
    n_isinstance := PySem.W.mg_none_of X G z_isinstance
    n_len := PySem.W.mg_none_of X G z_len
    n_range := PySem.W.mg_none_of X G z_range
    n_repr := PySem.W.mg_none_of X G z_repr
    n_str := PySem.W.mg_none_of X G z_str
    n_tuple := PySem.W.mg_none_of X G z_tuple
    c_DIGITS := ⟨_, V.str "0123456789", PySem.W.mg_of X G g_DIGITS, ⟨_, rfl⟩, fun W => rfl⟩
    c_LETTERS := ⟨_, V.str "abcdefghijklmnopqrstuvwxyz", PySem.W.mg_of X G g_LETTERS, ⟨_, rfl⟩, fun W => rfl⟩
    c_MOST_DIGITS := ⟨_, V.int (60), PySem.W.mg_of X G g_MOST_DIGITS, ⟨_, rfl⟩, fun W => rfl⟩
    c_WORDS := kd_mk (PySem.W.mg_of X G g_WORDS) gl_WORDS lo_WORDS (by exact .cons ⟨⟨_, rfl⟩, rfl, .ref va0_WORDS, rfl, fun W => ⟨va0_WORDS, [V.str "name", V.str "integer", V.str "integer", V.str "letter"], rfl, .inl ⟨_, _, _, vl0_WORDS, rfl, rfl, rfl, (by show 4 ≤ sizeLine; decide), .cons ⟨_, rfl⟩ (.cons ⟨_, rfl⟩ (.cons ⟨_, rfl⟩ (.cons ⟨_, rfl⟩ (.nil))))⟩, ⟨_, _, rfl, rfl, ⟨_, _, rfl, rfl, ⟨_, _, rfl, rfl, ⟨_, _, rfl, rfl, rfl⟩⟩⟩⟩⟩⟩ (.cons ⟨⟨_, rfl⟩, rfl, .ref va1_WORDS, rfl, fun W => ⟨va1_WORDS, [V.str "name", V.str "number", V.str "number"], rfl, .inl ⟨_, _, _, vl1_WORDS, rfl, rfl, rfl, (by show 3 ≤ sizeLine; decide), .cons ⟨_, rfl⟩ (.cons ⟨_, rfl⟩ (.cons ⟨_, rfl⟩ (.nil)))⟩, ⟨_, _, rfl, rfl, ⟨_, _, rfl, rfl, ⟨_, _, rfl, rfl, rfl⟩⟩⟩⟩⟩ (.cons ⟨⟨_, rfl⟩, rfl, .ref va2_WORDS, rfl, fun W => ⟨va2_WORDS, [V.str "name", V.str "other", V.str "number"], rfl, .inl ⟨_, _, _, vl2_WORDS, rfl, rfl, rfl, (by show 3 ≤ sizeLine; decide), .cons ⟨_, rfl⟩ (.cons ⟨_, rfl⟩ (.cons ⟨_, rfl⟩ (.nil)))⟩, ⟨_, _, rfl, rfl, ⟨_, _, rfl, rfl, ⟨_, _, rfl, rfl, rfl⟩⟩⟩⟩⟩ (.cons ⟨⟨_, rfl⟩, rfl, .ref va3_WORDS, rfl, fun W => ⟨va3_WORDS, [V.str "name", V.str "other"], rfl, .inl ⟨_, _, _, vl3_WORDS, rfl, rfl, rfl, (by show 2 ≤ sizeLine; decide), .cons ⟨_, rfl⟩ (.cons ⟨_, rfl⟩ (.nil))⟩, ⟨_, _, rfl, rfl, ⟨_, _, rfl, rfl, rfl⟩⟩⟩⟩ (.nil)))))
    x_InvalidText := E_InvalidText
    x_NotUsable := E_NotUsable
    m_StampError := ⟨_, (PySem.W.mg_of X G y_StampError), List.forall_mem_cons.mpr ⟨(fun D e => by rw [PySem.W.mg_of X G y_NotUsable] at e; cases e; exact Y_StampError.exm s_NotUsable_StampError), List.forall_mem_cons.mpr ⟨(fun D e => by rw [PySem.W.mg_of X G y_InvalidText] at e; cases e; exact Y_StampError.exm s_InvalidText_StampError), (fun _ h => nomatch h)⟩⟩⟩
    f_at := List.forall_mem_cons.mpr ⟨fldE_mk R_NotUsable (PySem.W.mg_of X G y_NotUsable) n_at_NotUsable, List.forall_mem_cons.mpr ⟨fldE_mk R_InvalidText (PySem.W.mg_of X G y_InvalidText) n_at_InvalidText, (fun _ h => nomatch h)⟩⟩
    f_field := List.forall_mem_cons.mpr ⟨fldE_mk R_NotUsable (PySem.W.mg_of X G y_NotUsable) n_field_NotUsable, List.forall_mem_cons.mpr ⟨fldE_mk R_InvalidText (PySem.W.mg_of X G y_InvalidText) n_field_InvalidText, (fun _ h => nomatch h)⟩⟩
    f_line := List.forall_mem_cons.mpr ⟨fldE_mk R_NotUsable (PySem.W.mg_of X G y_NotUsable) n_line_NotUsable, List.forall_mem_cons.mpr ⟨fldE_mk R_InvalidText (PySem.W.mg_of X G y_InvalidText) n_line_InvalidText, (fun _ h => nomatch h)⟩⟩
    f_word := List.forall_mem_cons.mpr ⟨fldE_mk R_NotUsable (PySem.W.mg_of X G y_NotUsable) n_word_NotUsable, List.forall_mem_cons.mpr ⟨fldE_mk R_InvalidText (PySem.W.mg_of X G y_InvalidText) n_word_InvalidText, (fun _ h => nomatch h)⟩⟩
    i_ClusterError := List.forall_mem_cons.mpr ⟨(by have e : ([("NotUsable" : Str)] : List Str).contains ("NotUsable" : Str) = true := (by decide +kernel); rw [e]; exact isE_mk R_NotUsable XT (PySem.W.mg_of X G y_NotUsable) (PySem.W.mg_of X G y_ClusterError) Y_ClusterError s_NotUsable_ClusterError self_NotUsable), List.forall_mem_cons.mpr ⟨(by have e : ([("NotUsable" : Str)] : List Str).contains ("InvalidText" : Str) = false := (by decide +kernel); rw [e]; exact isE_mk R_InvalidText XT (PySem.W.mg_of X G y_InvalidText) (PySem.W.mg_of X G y_ClusterError) Y_ClusterError s_InvalidText_ClusterError self_InvalidText), (fun _ h => nomatch h)⟩⟩
    i_InvalidRow := List.forall_mem_cons.mpr ⟨(by have e : ([] : List Str).contains ("NotUsable" : Str) = false := (by decide +kernel); rw [e]; exact isE_mk R_NotUsable XT (PySem.W.mg_of X G y_NotUsable) (PySem.W.mg_of X G y_InvalidRow) Y_InvalidRow s_NotUsable_InvalidRow self_NotUsable), List.forall_mem_cons.mpr ⟨(by have e : ([] : List Str).contains ("InvalidText" : Str) = false := (by decide +kernel); rw [e]; exact isE_mk R_InvalidText XT (PySem.W.mg_of X G y_InvalidText) (PySem.W.mg_of X G y_InvalidRow) Y_InvalidRow s_InvalidText_InvalidRow self_InvalidText), (fun _ h => nomatch h)⟩⟩
    i_InvalidText := List.forall_mem_cons.mpr ⟨(by have e : ([("InvalidText" : Str)] : List Str).contains ("NotUsable" : Str) = false := (by decide +kernel); rw [e]; exact isE_mk R_NotUsable XT (PySem.W.mg_of X G y_NotUsable) (PySem.W.mg_of X G y_InvalidText) Y_InvalidText s_NotUsable_InvalidText self_NotUsable), List.forall_mem_cons.mpr ⟨(by have e : ([("InvalidText" : Str)] : List Str).contains ("InvalidText" : Str) = true := (by decide +kernel); rw [e]; exact isE_mk R_InvalidText XT (PySem.W.mg_of X G y_InvalidText) (PySem.W.mg_of X G y_InvalidText) Y_InvalidText self_InvalidText self_InvalidText), (fun _ h => nomatch h)⟩⟩
    i_LiveError := List.forall_mem_cons.mpr ⟨(by have e : ([] : List Str).contains ("NotUsable" : Str) = false := (by decide +kernel); rw [e]; exact isE_mk R_NotUsable XT (PySem.W.mg_of X G y_NotUsable) (PySem.W.mg_of X G y_LiveError) Y_LiveError s_NotUsable_LiveError self_NotUsable), List.forall_mem_cons.mpr ⟨(by have e : ([] : List Str).contains ("InvalidText" : Str) = false := (by decide +kernel); rw [e]; exact isE_mk R_InvalidText XT (PySem.W.mg_of X G y_InvalidText) (PySem.W.mg_of X G y_LiveError) Y_LiveError s_InvalidText_LiveError self_InvalidText), (fun _ h => nomatch h)⟩⟩
    i_NotUsable := List.forall_mem_cons.mpr ⟨(by have e : ([("NotUsable" : Str)] : List Str).contains ("NotUsable" : Str) = true := (by decide +kernel); rw [e]; exact isE_mk R_NotUsable XT (PySem.W.mg_of X G y_NotUsable) (PySem.W.mg_of X G y_NotUsable) Y_NotUsable self_NotUsable self_NotUsable), List.forall_mem_cons.mpr ⟨(by have e : ([("NotUsable" : Str)] : List Str).contains ("InvalidText" : Str) = false := (by decide +kernel); rw [e]; exact isE_mk R_InvalidText XT (PySem.W.mg_of X G y_InvalidText) (PySem.W.mg_of X G y_NotUsable) Y_NotUsable s_InvalidText_NotUsable self_InvalidText), (fun _ h => nomatch h)⟩⟩
    i_PaperError := List.forall_mem_cons.mpr ⟨(by have e : ([] : List Str).contains ("NotUsable" : Str) = false := (by decide +kernel); rw [e]; exact isE_mk R_NotUsable XT (PySem.W.mg_of X G y_NotUsable) (PySem.W.mg_of X G y_PaperError) Y_PaperError s_NotUsable_PaperError self_NotUsable), List.forall_mem_cons.mpr ⟨(by have e : ([] : List Str).contains ("InvalidText" : Str) = false := (by decide +kernel); rw [e]; exact isE_mk R_InvalidText XT (PySem.W.mg_of X G y_InvalidText) (PySem.W.mg_of X G y_PaperError) Y_PaperError s_InvalidText_PaperError self_InvalidText), (fun _ h => nomatch h)⟩⟩
    i_RunsAhead := List.forall_mem_cons.mpr ⟨(by have e : ([] : List Str).contains ("NotUsable" : Str) = false := (by decide +kernel); rw [e]; exact isE_mk R_NotUsable XT (PySem.W.mg_of X G y_NotUsable) (PySem.W.mg_of X G y_RunsAhead) Y_RunsAhead s_NotUsable_RunsAhead self_NotUsable), List.forall_mem_cons.mpr ⟨(by have e : ([] : List Str).contains ("InvalidText" : Str) = false := (by decide +kernel); rw [e]; exact isE_mk R_InvalidText XT (PySem.W.mg_of X G y_InvalidText) (PySem.W.mg_of X G y_RunsAhead) Y_RunsAhead s_InvalidText_RunsAhead self_InvalidText), (fun _ h => nomatch h)⟩⟩
    i_Shut := List.forall_mem_cons.mpr ⟨(by have e : ([] : List Str).contains ("NotUsable" : Str) = false := (by decide +kernel); rw [e]; exact isE_mk R_NotUsable XT (PySem.W.mg_of X G y_NotUsable) (PySem.W.mg_of X G y_Shut) Y_Shut s_NotUsable_Shut self_NotUsable), List.forall_mem_cons.mpr ⟨(by have e : ([] : List Str).contains ("InvalidText" : Str) = false := (by decide +kernel); rw [e]; exact isE_mk R_InvalidText XT (PySem.W.mg_of X G y_InvalidText) (PySem.W.mg_of X G y_Shut) Y_Shut s_InvalidText_Shut self_InvalidText), (fun _ h => nomatch h)⟩⟩
    i_TextError := List.forall_mem_cons.mpr ⟨(by have e : ([("InvalidText" : Str)] : List Str).contains ("NotUsable" : Str) = false := (by decide +kernel); rw [e]; exact isE_mk R_NotUsable XT (PySem.W.mg_of X G y_NotUsable) (PySem.W.mg_of X G y_TextError) Y_TextError s_NotUsable_TextError self_NotUsable), List.forall_mem_cons.mpr ⟨(by have e : ([("InvalidText" : Str)] : List Str).contains ("InvalidText" : Str) = true := (by decide +kernel); rw [e]; exact isE_mk R_InvalidText XT (PySem.W.mg_of X G y_InvalidText) (PySem.W.mg_of X G y_TextError) Y_TextError s_InvalidText_TextError self_InvalidText), (fun _ h => nomatch h)⟩⟩
    i_ValueError := List.forall_mem_cons.mpr ⟨(by have e : ([("NotUsable" : Str), ("InvalidText" : Str)] : List Str).contains ("NotUsable" : Str) = true := (by decide +kernel); rw [e]; exact isEb_mk R_NotUsable XT (PySem.W.mg_of X G y_NotUsable) (by decide +kernel) vC_NotUsable), List.forall_mem_cons.mpr ⟨(by have e : ([("NotUsable" : Str), ("InvalidText" : Str)] : List Str).contains ("InvalidText" : Str) = true := (by decide +kernel); rw [e]; exact isEb_mk R_InvalidText XT (PySem.W.mg_of X G y_InvalidText) (by decide +kernel) vC_InvalidText), (fun _ h => nomatch h)⟩⟩ }
  have e := hfa.symm.trans (PySem.W.mg_of X G a31)
  cases e
  exact ⟨_, bl_of F31 fun _ _ _ _ _ _ _ => rfl, (fun base _ _ hTB => h_law T (fun j hj => match j, hj with | 0, _ => hTB (c0t, P0t, "_law_is_read_right.<locals>.<lambda>") (by simp) | 1, _ => hTB (c1t, P1t, "_law_are_refused.<locals>.<lambda>") (by simp)) F31)⟩
end Gstampahead_k76_events_written
open PySem PySem.W PyProof.Rows
set_option maxRecDepth 100000 in
set_option maxHeartbeats 0 in
theorem PySem.Challenge.cw_stampahead_k76_events_written_holds : PySem.Challenge.rw_stampahead_k76_events_written.Holds := by
  w_on; o_law; k_head; (case hw => w_witness2)
  k_fill
  refine' Pv.walk_GT (l := PySem.Challenge.rw_stampahead_k76_events_written) (k := 10) (x := "_law_script") (F := Gstampahead_k76_events_written.F_law (Pv.tbL [_, _])) [(_, _, "_law_is_read_right.<locals>.<lambda>"), (_, _, "_law_are_refused.<locals>.<lambda>")] rfl (by decide) rfl ⟨rfl, by decide, by decide⟩ (fun w h Y => PySem.W.km_in_of Y) ?nd ?C ?F ?L
  case F =>
    intro w mg fa h KX G hmg
    refine' Gstampahead_k76_events_written.all_mk KX G hmg ?a0 ?l0 ?c0 ?k0 ?a1 ?l1 ?c1 ?k1 ?a2 ?l2 ?c2 ?k2 ?a3 ?l3 ?c3 ?k3 ?a4 ?l4 ?c4 ?k4 ?a5 ?l5 ?c5 ?k5 ?a6 ?l6 ?c6 ?k6 ?a7 ?l7 ?c7 ?k7 ?a8 ?l8 ?c8 ?k8 ?a9 ?l9 ?c9 ?k9 ?a10 ?l10 ?c10 ?k10 ?a11 ?l11 ?c11 ?k11 ?a12 ?l12 ?c12 ?k12 ?a13 ?l13 ?c13 ?k13 ?a14 ?l14 ?c14 ?k14 ?a15 ?l15 ?c15 ?k15 ?a16 ?l16 ?c16 ?k16 ?a17 ?l17 ?c17 ?k17 ?a18 ?l18 ?c18 ?k18 ?a19 ?l19 ?c19 ?k19 ?a20 ?l20 ?c20 ?k20 ?a21 ?l21 ?c21 ?k21 ?a22 ?l22 ?c22 ?k22 ?a23 ?l23 ?c23 ?k23 ?a24 ?l24 ?c24 ?k24 ?a25 ?l25 ?c25 ?k25 ?a26 ?l26 ?c26 ?k26 ?a27 ?l27 ?c27 ?k27 ?lt27 ?p27 ?a28 ?l28 ?c28 ?k28 ?a29 ?l29 ?c29 ?k29 ?a30 ?l30 ?c30 ?k30 ?lt30 ?p30 ?a31 ?l31 ?c31 ?k31 ?z_ValueError ?z_all ?z_bool ?z_enumerate ?z_int ?z_isinstance ?z_len ?z_range ?z_repr ?z_str ?z_tuple ?g_DIGITS ?g_LETTERS ?g_MOST_DIGITS ?g_WORDS ?gl_WORDS ?lo_WORDS ?vl0_WORDS ?vl1_WORDS ?vl2_WORDS ?vl3_WORDS ?x_sg ?x_tk ?x_any ?z_super ?y_ClusterError ?y_InvalidRow ?y_InvalidText ?y_LiveError ?y_NotUsable ?y_PaperError ?y_RunsAhead ?y_Shut ?y_StampError ?y_TextError ?xL_InvalidText ?bm_InvalidText_ok ?sa_InvalidText ?ga_InvalidText ?gg_InvalidText ?cl_InvalidText ?eC_InvalidText ?vC_InvalidText ?tC_InvalidText ?kC_InvalidText ?hC_InvalidText ?mC_InvalidText ?mO_InvalidText ?sup_InvalidText ?self_InvalidText ?n_at_InvalidText ?n_field_InvalidText ?n_line_InvalidText ?n_word_InvalidText ?xL_NotUsable ?bm_NotUsable_ok ?sa_NotUsable ?ga_NotUsable ?gg_NotUsable ?cl_NotUsable ?eC_NotUsable ?vC_NotUsable ?tC_NotUsable ?kC_NotUsable ?hC_NotUsable ?mC_NotUsable ?mO_NotUsable ?sup_NotUsable ?self_NotUsable ?n_at_NotUsable ?n_field_NotUsable ?n_line_NotUsable ?n_word_NotUsable ?ini_InvalidText ?ty_InvalidText ?lk_InvalidText ?cdi_InvalidText ?lc_InvalidText ?hv_InvalidText ?cell_InvalidText ?ini_NotUsable ?ty_NotUsable ?lk_NotUsable ?cdi_NotUsable ?lc_NotUsable ?hv_NotUsable ?cell_NotUsable ?eC_ClusterError ?tC_ClusterError ?iC_ClusterError ?s_NotUsable_ClusterError ?s_InvalidText_ClusterError ?eC_InvalidRow ?tC_InvalidRow ?iC_InvalidRow ?s_NotUsable_InvalidRow ?s_InvalidText_InvalidRow ?iC_InvalidText ?s_NotUsable_InvalidText ?eC_LiveError ?tC_LiveError ?iC_LiveError ?s_NotUsable_LiveError ?s_InvalidText_LiveError ?iC_NotUsable ?s_InvalidText_NotUsable ?eC_PaperError ?tC_PaperError ?iC_PaperError ?s_NotUsable_PaperError ?s_InvalidText_PaperError ?eC_RunsAhead ?tC_RunsAhead ?iC_RunsAhead ?s_NotUsable_RunsAhead ?s_InvalidText_RunsAhead ?eC_Shut ?tC_Shut ?iC_Shut ?s_NotUsable_Shut ?s_InvalidText_Shut ?eC_StampError ?tC_StampError ?iC_StampError ?s_NotUsable_StampError ?s_InvalidText_StampError ?eC_TextError ?tC_TextError ?iC_TextError ?s_NotUsable_TextError ?s_InvalidText_TextError
    case a0 => k_is
    case l0 => k_is
    case c0 => k_is
    case k0 => k_is
    case a1 => k_is
    case l1 => k_is
    case c1 => k_is
    case k1 => k_is
    case a2 => k_is
    case l2 => k_is
    case c2 => k_is
    case k2 => k_is
    case a3 => k_is
    case l3 => k_is
    case c3 => k_is
    case k3 => k_is
    case a4 => k_is
    case l4 => k_is
    case c4 => k_is
    case k4 => k_is
    case a5 => k_is
    case l5 => k_is
    case c5 => k_is
    case k5 => k_is
    case a6 => k_is
    case l6 => k_is
    case c6 => k_is
    case k6 => k_is
    case a7 => k_is
    case l7 => k_is
    case c7 => k_is
    case k7 => k_is
    case a8 => k_is
    case l8 => k_is
    case c8 => k_is
    case k8 => k_is
    case a9 => k_is
    case l9 => k_is
    case c9 => k_is
    case k9 => k_is
    case a10 => k_is
    case l10 => k_is
    case c10 => k_is
    case k10 => k_is
    case a11 => k_is
    case l11 => k_is
    case c11 => k_is
    case k11 => k_is
    case a12 => k_is
    case l12 => k_is
    case c12 => k_is
    case k12 => k_is
    case a13 => k_is
    case l13 => k_is
    case c13 => k_is
    case k13 => k_is
    case a14 => k_is
    case l14 => k_is
    case c14 => k_is
    case k14 => k_is
    case a15 => k_is
    case l15 => k_is
    case c15 => k_is
    case k15 => k_is
    case a16 => k_is
    case l16 => k_is
    case c16 => k_is
    case k16 => k_is
    case a17 => k_is
    case l17 => k_is
    case c17 => k_is
    case k17 => k_is
    case a18 => k_is
    case l18 => k_is
    case c18 => k_is
    case k18 => k_is
    case a19 => k_is
    case l19 => k_is
    case c19 => k_is
    case k19 => k_is
    case a20 => k_is
    case l20 => k_is
    case c20 => k_is
    case k20 => k_is
    case a21 => k_is
    case l21 => k_is
    case c21 => k_is
    case k21 => k_is
    case a22 => k_is
    case l22 => k_is
    case c22 => k_is
    case k22 => k_is
    case a23 => k_is
    case l23 => k_is
    case c23 => k_is
    case k23 => k_is
    case a24 => k_is
    case l24 => k_is
    case c24 => k_is
    case k24 => k_is
    case a25 => k_is
    case l25 => k_is
    case c25 => k_is
    case k25 => k_is
    case a26 => k_is
    case l26 => k_is
    case c26 => k_is
    case k26 => k_is
    case a27 => k_is
    case l27 => k_is
    case c27 => k_is
    case k27 => k_is
    case lt27 => k_is
    case p27 => rfl
    case a28 => k_is
    case l28 => k_is
    case c28 => k_is
    case k28 => k_is
    case a29 => k_is
    case l29 => k_is
    case c29 => k_is
    case k29 => k_is
    case a30 => k_is
    case l30 => k_is
    case c30 => k_is
    case k30 => k_is
    case lt30 => k_is
    case p30 => rfl
    case a31 => k_is
    case l31 => k_is
    case c31 => k_is
    case k31 => k_is
    case z_ValueError => k_is
    case z_all => k_is
    case z_bool => k_is
    case z_enumerate => k_is
    case z_int => k_is
    case z_isinstance => k_is
    case z_len => k_is
    case z_range => k_is
    case z_repr => k_is
    case z_str => k_is
    case z_tuple => k_is
    case g_DIGITS => k_is
    case g_LETTERS => k_is
    case g_MOST_DIGITS => k_is
    case g_WORDS => k_is
    case gl_WORDS => k_is
    case lo_WORDS => rfl
    case vl0_WORDS => k_is
    case vl1_WORDS => k_is
    case vl2_WORDS => k_is
    case vl3_WORDS => k_is
    case x_sg => k_is
    case x_tk => k_is
    case x_any => k_is
    case z_super => k_is
    case y_ClusterError => k_is
    case y_InvalidRow => k_is
    case y_InvalidText => k_is
    case y_LiveError => k_is
    case y_NotUsable => k_is
    case y_PaperError => k_is
    case y_RunsAhead => k_is
    case y_Shut => k_is
    case y_StampError => k_is
    case y_TextError => k_is
    case xL_InvalidText => k_is
    case bm_InvalidText_ok => decide +kernel
    case sa_InvalidText => k_is
    case ga_InvalidText => k_is
    case gg_InvalidText => k_is
    case cl_InvalidText => k_is
    case eC_InvalidText => k_is
    case vC_InvalidText => k_is
    case tC_InvalidText => k_is
    case kC_InvalidText => k_is
    case hC_InvalidText => k_is
    case mC_InvalidText => k_is
    case mO_InvalidText => k_is
    case sup_InvalidText => kernel_rfl
    case self_InvalidText => k_is
    case n_at_InvalidText => k_is
    case n_field_InvalidText => k_is
    case n_line_InvalidText => k_is
    case n_word_InvalidText => k_is
    case xL_NotUsable => k_is
    case bm_NotUsable_ok => decide +kernel
    case sa_NotUsable => k_is
    case ga_NotUsable => k_is
    case gg_NotUsable => k_is
    case cl_NotUsable => k_is
    case eC_NotUsable => k_is
    case vC_NotUsable => k_is
    case tC_NotUsable => k_is
    case kC_NotUsable => k_is
    case hC_NotUsable => k_is
    case mC_NotUsable => k_is
    case mO_NotUsable => k_is
    case sup_NotUsable => kernel_rfl
    case self_NotUsable => k_is
    case n_at_NotUsable => k_is
    case n_field_NotUsable => k_is
    case n_line_NotUsable => k_is
    case n_word_NotUsable => k_is
    case ini_InvalidText => k_is
    case ty_InvalidText => k_is
    case lk_InvalidText => k_is
    case cdi_InvalidText => k_is
    case lc_InvalidText => k_is
    case hv_InvalidText => exact ⟨_, _, rfl, by decide +kernel⟩
    case cell_InvalidText => k_is
    case ini_NotUsable => k_is
    case ty_NotUsable => k_is
    case lk_NotUsable => k_is
    case cdi_NotUsable => k_is
    case lc_NotUsable => k_is
    case hv_NotUsable => exact ⟨_, _, rfl, by decide +kernel⟩
    case cell_NotUsable => k_is
    case eC_ClusterError => k_is
    case tC_ClusterError => k_is
    case iC_ClusterError => k_is
    case s_NotUsable_ClusterError => k_is
    case s_InvalidText_ClusterError => k_is
    case eC_InvalidRow => k_is
    case tC_InvalidRow => k_is
    case iC_InvalidRow => k_is
    case s_NotUsable_InvalidRow => k_is
    case s_InvalidText_InvalidRow => k_is
    case iC_InvalidText => k_is
    case s_NotUsable_InvalidText => k_is
    case eC_LiveError => k_is
    case tC_LiveError => k_is
    case iC_LiveError => k_is
    case s_NotUsable_LiveError => k_is
    case s_InvalidText_LiveError => k_is
    case iC_NotUsable => k_is
    case s_InvalidText_NotUsable => k_is
    case eC_PaperError => k_is
    case tC_PaperError => k_is
    case iC_PaperError => k_is
    case s_NotUsable_PaperError => k_is
    case s_InvalidText_PaperError => k_is
    case eC_RunsAhead => k_is
    case tC_RunsAhead => k_is
    case iC_RunsAhead => k_is
    case s_NotUsable_RunsAhead => k_is
    case s_InvalidText_RunsAhead => k_is
    case eC_Shut => k_is
    case tC_Shut => k_is
    case iC_Shut => k_is
    case s_NotUsable_Shut => k_is
    case s_InvalidText_Shut => k_is
    case eC_StampError => k_is
    case tC_StampError => k_is
    case iC_StampError => k_is
    case s_NotUsable_StampError => k_is
    case s_InvalidText_StampError => k_is
    case eC_TextError => k_is
    case tC_TextError => k_is
    case iC_TextError => k_is
    case s_NotUsable_TextError => k_is
    case s_InvalidText_TextError => k_is
  case L => exact Gstampahead_k76_events_written.law_ok _ (by decide)
  case nd => decide
  case C => exact fun w h Y => ⟨List.forall_mem_cons.mpr ⟨PySem.W.km_tabs_of Y _ (by k_mem), List.forall_mem_cons.mpr ⟨PySem.W.km_tabs_of Y _ (by k_mem), (fun _ h => nomatch h)⟩⟩, List.forall_mem_cons.mpr ⟨(by kernel_rfl), List.forall_mem_cons.mpr ⟨(by kernel_rfl), (fun _ h => nomatch h)⟩⟩, List.forall_mem_cons.mpr ⟨(by kernel_rfl), List.forall_mem_cons.mpr ⟨(by kernel_rfl), (fun _ h => nomatch h)⟩⟩⟩
#print axioms PySem.Challenge.cw_stampahead_k76_events_written_holds
