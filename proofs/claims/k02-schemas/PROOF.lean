import PyProof.Rows.All
import Wide.All
import OpenK.AllK
import Wide.FinOn
import HandS.Base
import HandS.Call
import HandS.List
import HandS.Comp
import HandS.Dict
import HandS.Iter
import HandS.Text
import HandS.IsInst
import HandS.Exc
import HandS.Words
import HandS.WordsList
import HandS.WordsDict
import KE.DataEq
import HandS.ExcOwn
import HandS.ExcInit
import HandS.Star
import HandS.WordsExc
import KE.SortData
import KE.KDictSum
import KE.KDictCopyH
import HandS.Set
import KE.KDictList
import KE.KDictWalk
import HandS.Conv
import HandS.Style
import HandS.TupLen
import PyProof.DictCompW
import HandS.More
import HandS.DictComp
import HandS.SetKeys
import PyProof.DictMoreH
import PyProof.Draws
import KE.GoesMore
import KE.GoesEnum
import HandS.Zip
import HandS.Wide
import PyProof.ListIndex
import KE.LtData
import KE.KSortTupAny
import OpenK.KEqL
import OpenK.KOwn
import PyProof.InstNe
import PyProof.InstEq
import PyProof.NsMap
import HandS.TupSets
import HandS.SetFor
import HandS.Strs
import HandS.Lambda
import HandS.Nested
import KE.KLam
import HandS.Defaults
import HandS.ExcIs
import HandS.ExcField
import KE.KExcInit
import KE.KExcPX
import HandS.HeadHook1
import HandS.HeadHook2
import HandS.HeadHook3
import HandS.HeadHook4
import OpenK.KWalk
import PyProof.EqAt
import PyProof.EqKinds
import PyProof.TupleCall
import KE.KEqDict
import KE.KEqNest
import HandS.OwnEq
import HandS.TupAny
import HandS.ListItems
import KE.KStateDown
import Lean
import HandS.Ends
import HandS.Small
import HandS.Flow
import HandS.Head0
import HandS.Head1
import HandS.Head2
import HandS.HeadEnd
import HandS.HeadWalk
import HandS.EndTab
import HandS.EndBits
import PySem.Challenge.RW_arrowkinds_k02_schemas
set_option Elab.async false
set_option linter.all false
set_option maxRecDepth 100000
set_option maxHeartbeats 0
/-! Ak 1: Python values as data trees over the abstract heap; a reading evaluates to a datum. -/
namespace Ak
open PySem PySem.Spec PyProof.Rows L2

/-! ### heaps that grow; masks -/
/-- lists, tuples, instances are as they were; dicts are, or are locked -/
structure Fx (H H' : Hp) : Prop where
  lst : forall {a xs}, H a = some (.lst xs) -> H' a = some (.lst xs)
  tup : forall {a xs}, H a = some (.tup xs) -> H' a = some (.tup xs)
  ins : forall {a C dx fs}, H a = some (.ins C dx fs) -> H' a = some (.ins C dx fs)
  rk : forall {a k}, Rd H a (.dK k) -> Rd H' a (.dK k)
  rt : forall {a k}, Rd H a (.dT k) -> Rd H' a (.dT k)
theorem rd_same {H H' : Hp} (e : Same H H') {a : Addr} {o : HO} (h : Rd H a o) : Rd H' a o := by
  rcases h with h | ⟨ob, h⟩
  · exact .inl (e _ _ h)
  · exact .inr ⟨ob, e _ _ h⟩
theorem Fx.of {H H' : Hp} (e : Same H H') : Fx H H' := ⟨fun h => e _ _ h, fun h => e _ _ h, fun h => e _ _ h, fun h => rd_same e h, fun h => rd_same e h⟩
theorem Fx.refl (H : Hp) : Fx H H := Fx.of (Same.refl H)
theorem Fx.trans {H H1 H2 : Hp} (a : Fx H H1) (b : Fx H1 H2) : Fx H H2 := ⟨fun h => b.lst (a.lst h), fun h => b.tup (a.tup h), fun h => b.ins (a.ins h), fun h => b.rk (a.rk h), fun h => b.rt (a.rt h)⟩
abbrev MK := Addr -> Prop
open Classical in
/-- the heap without what is masked -/
noncomputable def msk (M : MK) (H : Hp) : Hp := fun a => if M a then none else H a
theorem msk_at {M : MK} {H : Hp} {a : Addr} (h : ¬ M a) : msk M H a = H a := by unfold msk; rw [if_neg h]
theorem msk_of {M : MK} {H : Hp} {a : Addr} {o : HO} (h : msk M H a = some o) : ¬ M a ∧ H a = some o := by
  unfold msk at h
  split at h
  · cases h
  · rename_i n
    exact ⟨n, h⟩
theorem msk_same {M : MK} {H : Hp} : Same (msk M H) H := fun _ _ h => (msk_of h).2
theorem msk_mono {M : MK} {H H' : Hp} (e : Same H H') : Same (msk M H) (msk M H') := fun a o h => by
  obtain ⟨n, h⟩ := msk_of h
  rw [msk_at n]
  exact e a o h
theorem msk_less {M N : MK} {H : Hp} (i : forall a, N a -> M a) : Same (msk M H) (msk N H) := fun a o h => by
  obtain ⟨n, h⟩ := msk_of h
  rw [msk_at fun z => n (i a z)]
  exact h
/-- what is masked may change -/
theorem msk_upd {M : MK} {H : Hp} {p : Addr} {o : HO} (h : M p) : msk M (upd H p o) = msk M H := by
  funext a
  unfold msk
  by_cases e : a = p
  · subst e
    rw [if_pos h, if_pos h]
  · rw [upd_ne e]
/-- what is masked is tracked, and can change -/
def Mok (M : MK) (H : Hp) : Prop := forall a, M a -> exists o, H a = some o ∧ forall xs, o ≠ .tup xs
theorem Mok.new {M : MK} {H : Hp} (m : Mok M H) {p : Addr} (h : H p = none) : ¬ M p := fun z => by
  obtain ⟨o, e, _⟩ := m p z
  rw [h] at e
  cases e
theorem Mok.up {M : MK} {H H' : Hp} (m : Mok M H) (e : Same H H') : Mok M H' := fun a z => by
  obtain ⟨o, h, n⟩ := m a z
  exact ⟨o, e _ _ h, n⟩
theorem Mok.upd {M : MK} {H : Hp} (m : Mok M H) {p : Addr} {o : HO} (nt : forall xs, o ≠ .tup xs := by intro xs e; cases e) : Mok M (upd H p o) := fun a z => by
  by_cases h : a = p
  · subst h
    exact ⟨o, upd_same, nt⟩
  · rw [upd_ne h]
    exact m a z
theorem Mok.add {M : MK} {H : Hp} (m : Mok M H) {p : Addr} {o : HO} (h : H p = some o) (nt : forall xs, o ≠ .tup xs := by intro xs e; cases e) : Mok (fun a => M a ∨ a = p) H := fun a z => by
  rcases z with z | z
  · exact m a z
  · rw [z]
    exact ⟨o, h, nt⟩
/-- tuples are never masked -/
theorem Mok.tup {M : MK} {H : Hp} (m : Mok M H) {p : Addr} {xs : List V} (h : H p = some (.tup xs)) : msk M H p = some (.tup xs) := by
  rw [msk_at]
  · exact h
  · intro z
    obtain ⟨o, e, n⟩ := m p z
    rw [h] at e
    cases e
    exact n xs rfl
theorem Mok.none (H : Hp) : Mok (fun _ => False) H := fun _ z => z.elim
theorem same_new {H : Hp} {p : Addr} {o : HO} (h : H p = none) : Same H (upd H p o) := fun a u e => by
  rw [upd_ne (ne_of_none e h)]
  exact e
theorem msk_new {M : MK} {H : Hp} (m : Mok M H) {p : Addr} {o : HO} (h : H p = none) : msk M (upd H p o) p = some o := by
  rw [msk_at (m.new h), upd_same]

/-- what a lock is for -/
def isDict (u : HO) : Prop := (exists k, u = .dK k) ∨ exists k, u = .dT k
theorem fx_lock {H : Hp} {d : Addr} {u : HO} {od : Obj} (hd : H d = some u) (hu : isDict u) : Fx H (upd H d (.frz od u)) := by
  have n1 : forall {a : Addr} {o : HO}, H a = some o -> (forall k, o ≠ .dK k) -> (forall k, o ≠ .dT k) -> upd H d (.frz od u) a = some o := by
    intro a o h k1 k2
    rw [upd_ne]
    · exact h
    · rintro rfl
      rw [hd] at h
      cases h
      rcases hu with ⟨k, e⟩ | ⟨k, e⟩
      · exact k1 k e
      · exact k2 k e
  have n2 : forall {a : Addr} {o : HO}, (forall ob v, o ≠ .frz ob v) -> Rd H a o -> Rd (upd H d (.frz od u)) a o := by
    intro a o hn h
    by_cases e : a = d
    · subst e
      rcases h with h | ⟨ob, h⟩
      · rw [hd] at h
        cases h
        exact .inr ⟨od, upd_same⟩
      · rw [hd] at h
        cases h
        rcases hu with ⟨k, e⟩ | ⟨k, e⟩ <;> cases e
    · rcases h with h | ⟨ob, h⟩
      · exact .inl (by rw [upd_ne e]; exact h)
      · exact .inr ⟨ob, by rw [upd_ne e]; exact h⟩
  exact ⟨fun h => n1 h (fun _ e => nomatch e) (fun _ e => nomatch e), fun h => n1 h (fun _ e => nomatch e) (fun _ e => nomatch e), fun h => n1 h (fun _ e => nomatch e) (fun _ e => nomatch e), fun h => n2 (fun _ _ e => nomatch e) h, fun h => n2 (fun _ _ e => nomatch e) h⟩
theorem fx_unlock {H : Hp} {d : Addr} {u : HO} {od : Obj} (hd : H d = some (.frz od u)) (hu : isDict u) : Fx H (upd H d u) := by
  have n1 : forall {a : Addr} {o : HO}, H a = some o -> (forall ob v, o ≠ .frz ob v) -> upd H d u a = some o := by
    intro a o h k1
    rw [upd_ne]
    · exact h
    · rintro rfl
      rw [hd] at h
      cases h
      exact k1 _ _ rfl
  have n2 : forall {a : Addr} {o : HO}, (forall ob v, o ≠ .frz ob v) -> Rd H a o -> Rd (upd H d u) a o := by
    intro a o hn h
    by_cases e : a = d
    · subst e
      rcases h with h | ⟨ob, h⟩
      · rw [hd] at h
        cases h
        exact absurd rfl (hn _ _)
      · rw [hd] at h
        cases h
        exact .inl upd_same
    · rcases h with h | ⟨ob, h⟩
      · exact .inl (by rw [upd_ne e]; exact h)
      · exact .inr ⟨ob, by rw [upd_ne e]; exact h⟩
  exact ⟨fun h => n1 h (fun _ _ e => nomatch e), fun h => n1 h (fun _ _ e => nomatch e), fun h => n1 h (fun _ _ e => nomatch e), fun h => n2 (fun _ _ e => nomatch e) h, fun h => n2 (fun _ _ e => nomatch e) h⟩
theorem rd_msk {M : MK} {H : Hp} {a : Addr} {o : HO} (h : Rd (msk M H) a o) : ¬ M a ∧ Rd H a o := by
  rcases h with h | ⟨ob, h⟩
  · obtain ⟨n, h⟩ := msk_of h
    exact ⟨n, .inl h⟩
  · obtain ⟨n, h⟩ := msk_of h
    exact ⟨n, .inr ⟨ob, h⟩⟩
theorem rd_msk_of {M : MK} {H : Hp} {a : Addr} {o : HO} (n : ¬ M a) (h : Rd H a o) : Rd (msk M H) a o := by
  rcases h with h | ⟨ob, h⟩
  · exact .inl (by rw [msk_at n]; exact h)
  · exact .inr ⟨ob, by rw [msk_at n]; exact h⟩
/-- masks and Fx: what is masked behind was masked ahead, or is new -/
theorem Fx.msk {M N : MK} {H H' : Hp} (f : Fx H H') (i : forall a, N a -> M a ∨ H a = none) : Fx (msk M H) (msk N H') := by
  have n : forall {a o}, ¬ M a -> H a = some o -> ¬ N a := fun {a o} hm h z => by
    rcases i a z with q | q
    · exact hm q
    · rw [h] at q
      cases q
  have nr : forall {a o}, ¬ M a -> Rd H a o -> ¬ N a := fun {a o} hm h => by
    rcases h with h | ⟨ob, h⟩
    · exact n hm h
    · exact n hm h
  refine ⟨fun h => ?_, fun h => ?_, fun h => ?_, fun h => ?_, fun h => ?_⟩
  · obtain ⟨a, b⟩ := msk_of h
    rw [msk_at (n a b)]
    exact f.lst b
  · obtain ⟨a, b⟩ := msk_of h
    rw [msk_at (n a b)]
    exact f.tup b
  · obtain ⟨a, b⟩ := msk_of h
    rw [msk_at (n a b)]
    exact f.ins b
  · obtain ⟨a, b⟩ := rd_msk h
    exact rd_msk_of (nr a b) (f.rk b)
  · obtain ⟨a, b⟩ := rd_msk h
    exact rd_msk_of (nr a b) (f.rt b)

/-- what stood stands, but for what is masked; what is locked stays so -/
structure Kp (M : MK) (H H' : Hp) : Prop where
  fx : Fx (Ak.msk M H) (Ak.msk M H')
  fz : forall {a od u}, H a = some (.frz od u) -> H' a = some (.frz od u)
theorem Kp.of {M : MK} {H H' : Hp} (e : Same H H') : Kp M H H' := ⟨Fx.of (msk_mono e), fun h => e _ _ h⟩
theorem Kp.refl (M : MK) (H : Hp) : Kp M H H := Kp.of (Same.refl H)
theorem Kp.trans {M : MK} {H H1 H2 : Hp} (a : Kp M H H1) (b : Kp M H1 H2) : Kp M H H2 := ⟨a.fx.trans b.fx, fun h => b.fz (a.fz h)⟩
theorem Kp.upd {M : MK} {H H' : Hp} (k : Kp M H H') {p : Addr} {o : HO} (h : M p) (n : forall od u, H' p ≠ some (.frz od u)) : Kp M H (upd H' p o) := by
  refine ⟨?_, fun {a od u} e => ?_⟩
  · rw [msk_upd h]
    exact k.fx
  · have e' := k.fz e
    rw [upd_ne]
    · exact e'
    · rintro rfl
      exact n _ _ e'
theorem Kp.lst {M : MK} {H H' : Hp} (k : Kp M H H') {a : Addr} {xs : List V} (h : msk M H a = some (.lst xs)) : H' a = some (.lst xs) := (msk_of (k.fx.lst h)).2
theorem Kp.tup {M : MK} {H H' : Hp} (k : Kp M H H') {a : Addr} {xs : List V} (h : msk M H a = some (.tup xs)) : H' a = some (.tup xs) := (msk_of (k.fx.tup h)).2
/-- a wider mask: of what is new -/
theorem Kp.msk {M N : MK} {H H' : Hp} (k : Kp M H H') (i : forall a, N a -> M a ∨ H a = none) : Fx (Ak.msk M H) (Ak.msk N H') := by
  have go : forall {a o}, Ak.msk M H a = some o -> ¬ N a := fun {a o} h z => by
    obtain ⟨n, e⟩ := msk_of h
    rcases i a z with q | q
    · exact n q
    · rw [e] at q
      cases q
  have gor : forall {a o}, Rd (Ak.msk M H) a o -> ¬ N a := fun {a o} h => by
    rcases h with h | ⟨ob, h⟩
    · exact go h
    · exact go h
  refine ⟨fun h => ?_, fun h => ?_, fun h => ?_, fun h => ?_, fun h => ?_⟩
  · rw [msk_at (go h)]
    exact (msk_of (k.fx.lst h)).2
  · rw [msk_at (go h)]
    exact (msk_of (k.fx.tup h)).2
  · rw [msk_at (go h)]
    exact (msk_of (k.fx.ins h)).2
  · exact rd_msk_of (gor h) (rd_msk (k.fx.rk h)).2
  · exact rd_msk_of (gor h) (rd_msk (k.fx.rt h)).2

/-! ### data -/
inductive D where
  | non | bl (b : Bool) | int (i : Int) | str (s : Str) | oth (v : V)
  | tup (xs : List D) | lst (xs : List D)
  | ins (C : Addr) (fs : List (Str × D))
  | dK (kvs : List (Key × D)) | dT (kvs : List (List Key × D))

section
variable (G : Hp)
mutual
/-- the value v is the datum, in the heap G -/
def Rep : D -> V -> Prop
  | .non, v => v = .non
  | .bl b, v => v = .bl b
  | .int i, v => v = .int i
  | .str s, v => v = .str s
  | .oth w, v => v = w
  | .tup ds, v => exists a xs, v = .ref a ∧ G a = some (.tup xs) ∧ Reps ds xs
  | .lst ds, v => exists a xs, v = .ref a ∧ G a = some (.lst xs) ∧ Reps ds xs
  | .ins C fs, v => exists a dx vs, v = .ref a ∧ G a = some (.ins C dx vs) ∧ RepF fs vs
  | .dK kvs, v => exists a ws, v = .ref a ∧ Rd G a (.dK ws) ∧ RepK kvs ws
  | .dT kvs, v => exists a ws, v = .ref a ∧ Rd G a (.dT ws) ∧ RepT kvs ws
def Reps : List D -> List V -> Prop
  | [], vs => vs = []
  | d :: ds, vs => exists x xs, vs = x :: xs ∧ Rep d x ∧ Reps ds xs
def RepF : List (Str × D) -> List (Str × V) -> Prop
  | [], vs => vs = []
  | (f, d) :: ds, vs => exists x xs, vs = (f, x) :: xs ∧ Rep d x ∧ RepF ds xs
def RepK : List (Key × D) -> List (Key × V) -> Prop
  | [], vs => vs = []
  | (k, d) :: ds, vs => exists x xs, vs = (k, x) :: xs ∧ Rep d x ∧ RepK ds xs
def RepT : List (List Key × D) -> List (List Key × V) -> Prop
  | [], vs => vs = []
  | (k, d) :: ds, vs => exists x xs, vs = (k, x) :: xs ∧ Rep d x ∧ RepT ds xs
end
end
section
variable {K : PySem.W.Frag} {G G' : Hp}
mutual
theorem Rep.fx (f : Fx G G') : forall (d : D) {v : V}, Rep G d v -> Rep G' d v
  | .non, _, h => h
  | .bl _, _, h => h
  | .int _, _, h => h
  | .str _, _, h => h
  | .oth _, _, h => h
  | .tup ds, _, ⟨a, xs, e, h, r⟩ => ⟨a, xs, e, f.tup h, Reps.fx f ds r⟩
  | .lst ds, _, ⟨a, xs, e, h, r⟩ => ⟨a, xs, e, f.lst h, Reps.fx f ds r⟩
  | .ins C fs, _, ⟨a, dx, vs, e, h, r⟩ => ⟨a, dx, vs, e, f.ins h, RepF.fx f fs r⟩
  | .dK kvs, _, ⟨a, ws, e, h, r⟩ => ⟨a, ws, e, f.rk h, RepK.fx f kvs r⟩
  | .dT kvs, _, ⟨a, ws, e, h, r⟩ => ⟨a, ws, e, f.rt h, RepT.fx f kvs r⟩
theorem Reps.fx (f : Fx G G') : forall (ds : List D) {vs : List V}, Reps G ds vs -> Reps G' ds vs
  | [], _, h => h
  | d :: ds, _, ⟨x, xs, e, h, r⟩ => ⟨x, xs, e, Rep.fx f d h, Reps.fx f ds r⟩
theorem RepF.fx (f : Fx G G') : forall (ds : List (Str × D)) {vs : List (Str × V)}, RepF G ds vs -> RepF G' ds vs
  | [], _, h => h
  | (_, d) :: ds, _, ⟨x, xs, e, h, r⟩ => ⟨x, xs, e, Rep.fx f d h, RepF.fx f ds r⟩
theorem RepK.fx (f : Fx G G') : forall (ds : List (Key × D)) {vs : List (Key × V)}, RepK G ds vs -> RepK G' ds vs
  | [], _, h => h
  | (_, d) :: ds, _, ⟨x, xs, e, h, r⟩ => ⟨x, xs, e, Rep.fx f d h, RepK.fx f ds r⟩
theorem RepT.fx (f : Fx G G') : forall (ds : List (List Key × D)) {vs : List (List Key × V)}, RepT G ds vs -> RepT G' ds vs
  | [], _, h => h
  | (_, d) :: ds, _, ⟨x, xs, e, h, r⟩ => ⟨x, xs, e, Rep.fx f d h, RepT.fx f ds r⟩
end
theorem Rep.up {d : D} {v : V} (h : Rep G d v) (e : Same G G') : Rep G' d v := Rep.fx (Fx.of e) d h
theorem Reps.up {ds : List D} {vs : List V} (h : Reps G ds vs) (e : Same G G') : Reps G' ds vs := Reps.fx (Fx.of e) ds h
theorem Reps.len : forall {ds : List D} {vs : List V}, Reps G ds vs -> vs.length = ds.length
  | [], _, h => by rw [show _ = [] from h] <;> rfl
  | d :: ds, _, ⟨x, xs, e, _, r⟩ => by rw [e, List.length_cons, List.length_cons, Reps.len r]
theorem Reps.get : forall {ds : List D} {vs : List V} {i : Nat} {v : V}, Reps G ds vs -> vs[i]? = some v -> exists d, ds[i]? = some d ∧ Rep G d v
  | [], _, _, _, h, e => by rw [show _ = [] from h] at e; simp at e
  | d :: ds, _, 0, _, ⟨x, xs, e, h, _⟩, z => by rw [e] at z; simp at z; subst z; exact ⟨d, rfl, h⟩
  | d :: ds, _, i + 1, _, ⟨x, xs, e, _, r⟩, z => by
    rw [e] at z
    obtain ⟨d', h1, h2⟩ := Reps.get (i := i) r (by simpa using z)
    exact ⟨d', by simpa using h1, h2⟩
theorem Reps.at : forall {ds : List D} {vs : List V} {i : Nat} {d : D}, Reps G ds vs -> ds[i]? = some d -> exists v, vs[i]? = some v ∧ Rep G d v
  | [], _, _, _, _, e => by simp at e
  | d :: ds, _, 0, _, ⟨x, xs, e, h, _⟩, z => by simp at z; subst z; exact ⟨x, by rw [e] <;> rfl, h⟩
  | d :: ds, _, i + 1, _, ⟨x, xs, e, _, r⟩, z => by
    obtain ⟨v, h1, h2⟩ := Reps.at (i := i) r (by simpa using z)
    exact ⟨v, by rw [e]; simpa using h1, h2⟩
theorem Reps.app : forall {ds es : List D} {vs ws : List V}, Reps G ds vs -> Reps G es ws -> Reps G (ds ++ es) (vs ++ ws)
  | [], _, _, _, h, k => by rw [show _ = [] from h]; exact k
  | d :: ds, _, _, _, ⟨x, xs, e, h, r⟩, k => ⟨x, xs ++ _, by rw [e] <;> rfl, h, Reps.app r k⟩
theorem Reps.one {d : D} {v : V} (h : Rep G d v) : Reps G [d] [v] := ⟨v, [], rfl, h, rfl⟩
theorem Reps.ints : forall (ns : List Int), Reps G (ns.map D.int) (ns.map V.int)
  | [] => rfl
  | n :: ns => ⟨_, _, rfl, rfl, Reps.ints ns⟩
theorem Reps.strs : forall (ns : List Str), Reps G (ns.map D.str) (ns.map V.str)
  | [] => rfl
  | n :: ns => ⟨_, _, rfl, rfl, Reps.strs ns⟩
end

/-! ### data of the library's kind -/
mutual
def D.py : D -> PyData
  | .non => .none
  | .bl b => .bool b
  | .int i => .int i
  | .str s => .str s
  | .tup ds => .tuple (D.pys ds)
  | .lst ds => .list (D.pys ds)
  | _ => .none
def D.pys : List D -> List PyData
  | [] => []
  | d :: ds => d.py :: D.pys ds
end
mutual
/-- no objects, no dicts -/
def D.pl : D -> Bool
  | .non => true
  | .bl _ => true
  | .int _ => true
  | .str _ => true
  | .tup ds => D.pls ds
  | .lst ds => D.pls ds
  | _ => false
def D.pls : List D -> Bool
  | [] => true
  | d :: ds => d.pl && D.pls ds
end
section
variable {K : PySem.W.Frag} {G : Hp}
mutual
theorem Rep.dp : forall (d : D) {v : V}, d.pl = true -> Rep G d v -> Dp K G v d.py
  | .non, _, _, h => by rw [show _ = V.non from h]; exact .non
  | .bl _, _, _, h => by rw [show _ = V.bl _ from h]; exact .bl _
  | .int _, _, _, h => by rw [show _ = V.int _ from h]; exact .int _
  | .str _, _, _, h => by rw [show _ = V.str _ from h]; exact .str _
  | .tup ds, _, p, ⟨a, xs, e, h, r⟩ => by rw [e]; exact .tup (SqT.of h) (Reps.dp ds (show D.pls ds = true from p) r)
  | .lst ds, _, p, ⟨a, xs, e, h, r⟩ => by rw [e]; exact .lst (SqL.of h) (Reps.dp ds (show D.pls ds = true from p) r)
  | .oth _, _, p, _ => by cases (show false = true from p)
  | .ins _ _, _, p, _ => by cases (show false = true from p)
  | .dK _, _, p, _ => by cases (show false = true from p)
  | .dT _, _, p, _ => by cases (show false = true from p)
theorem Reps.dp : forall (ds : List D) {vs : List V}, D.pls ds = true -> Reps G ds vs -> DpAll K G vs (D.pys ds)
  | [], _, _, h => by rw [show _ = [] from h]; exact .nil
  | d :: ds, _, p, ⟨x, xs, e, h, r⟩ => by
    have p' : (d.pl && D.pls ds) = true := p
    rw [Bool.and_eq_true] at p'
    rw [e]
    exact .cons (Rep.dp d p'.1 h) (Reps.dp ds p'.2 r)
end
end
end Ak
/-! Ak 2: what a reading evaluates to. -/
namespace Ak
open PySem PySem.Spec PyProof.Rows L2

def Ev (M : MK) (te : TE) (s : L2.St) (H : Hp) (P : V -> Hp -> Prop) : Prop :=
  forall H1, Same H H1 -> forall Q : VK, (forall v H2, Same H1 H2 -> P v (msk M H2) -> Q v H2) -> te s H1 Q
def EvA (M : MK) (ta : TA) (s : L2.St) (H : Hp) (P : List V -> Hp -> Prop) : Prop :=
  forall H1, Same H H1 -> forall Q : List V -> Hp -> Prop, (forall v H2, Same H1 H2 -> P v (msk M H2) -> Q v H2) -> ta s H1 Q
def EvT (tt : TT) (s : L2.St) (H : Hp) (b : Bool) : Prop :=
  forall H1, Same H H1 -> forall Q : Bool -> Hp -> Prop, (forall H2, Same H1 H2 -> Q b H2) -> tt s H1 Q
abbrev EvD (M : MK) (te : TE) (s : L2.St) (H : Hp) (d : D) : Prop := Ev M te s H fun v G => Rep G d v
abbrev EvDs (M : MK) (ta : TA) (s : L2.St) (H : Hp) (ds : List D) : Prop := EvA M ta s H fun vs G => Reps G ds vs
/-- a two-place rule at data -/
def RD (M : MK) (r : R2) (H : Hp) (d e z : D) : Prop :=
  forall x y H1, Same H H1 -> Rep (msk M H1) d x -> Rep (msk M H1) e y -> forall Q : VK, (forall v H2, Same H1 H2 -> Rep (msk M H2) z v -> Q v H2) -> r x y H1 Q

section
variable {K : PySem.W.Frag} {M : MK} {s : L2.St} {H H' : Hp} {ta tb te tx : TE} {t u : TT} {d e z : D} {P P' : V -> Hp -> Prop}
theorem Ev.mono (e : Same H H') (h : Ev M te s H P) : Ev M te s H' P := fun H1 a Q q => h H1 (e.trans a) Q q
theorem EvA.mono {ta : TA} {P : List V -> Hp -> Prop} (e : Same H H') (h : EvA M ta s H P) : EvA M ta s H' P := fun H1 a Q q => h H1 (e.trans a) Q q
theorem EvT.mono {b : Bool} (e : Same H H') (h : EvT t s H b) : EvT t s H' b := fun H1 a Q q => h H1 (e.trans a) Q q
theorem Ev.imp (h : Ev M te s H P) (i : forall v G, P v G -> P' v G) : Ev M te s H P' := fun H1 a Q q => h H1 a Q fun v H2 e p => q v H2 e (i v _ p)
theorem Ev.to (h : EvD M te s H d) (e : d = z) : EvD M te s H z := by subst e; exact h
theorem ev_at (h : Ev M te s H P) {Q : VK} (q : forall v H2, Same H H2 -> P v (msk M H2) -> Q v H2) : te s H Q := h H (Same.refl H) Q q
theorem evt_at {b : Bool} (h : EvT t s H b) {Q : Bool -> Hp -> Prop} (q : forall H2, Same H H2 -> Q b H2) : t s H Q := h H (Same.refl H) Q q

theorem ev_var {i : Nat} {v : V} (h : s[i]? = some (some v)) (r : Rep (msk M H) d v) : EvD M (tVar i) s H d := fun H1 e Q q => ⟨v, h, q v H1 (Same.refl H1) (r.up (msk_mono e))⟩
theorem ev_c {v : V} (r : forall G, Rep G d v) : EvD M (tC v) s H d := fun H1 _ Q q => q v H1 (Same.refl H1) (r _)
theorem ev_int {i : Int} : EvD M (tC (.int i)) s H (.int i) := ev_c fun _ => rfl
theorem ev_str {x : Str} : EvD M (tC (.str x)) s H (.str x) := ev_c fun _ => rfl
theorem ev_bl {b : Bool} : EvD M (tC (.bl b)) s H (.bl b) := ev_c fun _ => rfl
theorem ev_non : EvD M (tC .non) s H .non := ev_c fun _ => rfl
theorem ev_op {r : R2} (ha : EvD M ta s H d) (hb : EvD M tb s H e) (hr : RD M r H d e z) : EvD M (tOp r ta tb) s H z := fun H1 e1 Q q =>
  ha H1 e1 _ fun x H2 e2 rx => hb H2 (e1.trans e2) _ fun y H3 e3 ry => hr x y H3 ((e1.trans e2).trans e3) (rx.up (msk_mono e3)) ry Q fun v H4 e4 rv => q v H4 ((e2.trans e3).trans e4) rv
/-- one operand, then its rule -/
theorem ev_then {r : V -> Hp -> VK -> Prop} (ha : EvD M ta s H d) (hr : forall x H1, Same H H1 -> Rep (msk M H1) d x -> forall Q : VK, (forall v H2, Same H1 H2 -> P v (msk M H2) -> Q v H2) -> r x H1 Q) : Ev M (fun s H Q => ta s H fun x H1 => r x H1 Q) s H P := fun H1 e1 Q q =>
  ha H1 e1 _ fun x H2 e2 rx => hr x H2 (e1.trans e2) rx Q fun v H3 e3 p => q v H3 (e2.trans e3) p
theorem ea_nil : EvDs M tNil s H [] := fun H1 _ Q q => q [] H1 (Same.refl H1) rfl
theorem ea_cons {tr : TA} {ds : List D} (h : EvD M te s H d) (hr : EvDs M tr s H ds) : EvDs M (tCons te tr) s H (d :: ds) := fun H1 e1 Q q =>
  h H1 e1 _ fun x H2 e2 rx => hr H2 (e1.trans e2) _ fun xs H3 e3 rs => q (x :: xs) H3 (e2.trans e3) ⟨x, xs, rfl, rx.up (msk_mono e3), rs⟩
theorem ea_one (h : EvD M te s H d) : EvDs M (tCons te tNil) s H [d] := ea_cons h ea_nil
theorem ev_tup {tr : TA} {ds : List D} (m : Mok M H) (h : EvDs M tr s H ds) (hz : ds.length ≤ 1000 := by first | decide | simp) : EvD M (tTup tr) s H (.tup ds) := fun H1 e1 Q q =>
  h H1 e1 _ fun xs H2 e2 rs => ⟨by rw [rs.len, sizeLine_eq]; omega, fun p hp => q (.ref p) _ (e2.trans (same_new hp)) ⟨p, xs, rfl, msk_new ((m.up e1).up e2) hp, rs.up (msk_mono (same_new hp))⟩⟩
theorem ev_lst {tr : TA} {ds : List D} (m : Mok M H) (h : EvDs M tr s H ds) (hz : ds.length ≤ 1000 := by first | decide | simp) : EvD M (tLst tr) s H (.lst ds) := fun H1 e1 Q q =>
  h H1 e1 _ fun xs H2 e2 rs => ⟨by rw [rs.len, sizeLine_eq]; omega, fun p hp => q (.ref p) _ (e2.trans (same_new hp)) ⟨p, xs, rfl, msk_new ((m.up e1).up e2) hp, rs.up (msk_mono (same_new hp))⟩⟩
/-- a built-in called: by its rule -/
theorem ev_cb {r : List V -> Hp -> VK -> Prop} {tr : TA} {ds : List D} (h : EvDs M tr s H ds) (hr : forall vs H1, Same H H1 -> Reps (msk M H1) ds vs -> forall Q : VK, (forall v H2, Same H1 H2 -> P v (msk M H2) -> Q v H2) -> r vs H1 Q) : Ev M (tCB r tr) s H P := fun H1 e1 Q q =>
  h H1 e1 _ fun vs H2 e2 rs => hr vs H2 (e1.trans e2) rs Q fun v H3 e3 p => q v H3 (e2.trans e3) p

/-! ### tests -/
theorem et_test {b : Bool} (h : EvD M te s H (.bl b)) : EvT (tTest te) s H b := fun H1 e Q q => h H1 e _ fun v H2 e2 r => ⟨b, r, q H2 e2⟩
theorem et_B {b : Bool} (h : EvD M te s H (.bl b)) : EvT (tB te) s H b := fun H1 e Q q => h H1 e _ fun v H2 e2 r => ⟨b, r, q H2 e2⟩
theorem et_not {b : Bool} (h : EvT t s H b) : EvT (tNot t) s H (!b) := fun H1 e Q q => h H1 e _ fun H2 e2 => q H2 e2
theorem et_and {a b : Bool} (h1 : EvT t s H a) (h2 : a = true -> EvT u s H b) : EvT (tAnd t u) s H (a && b) := fun H1 e Q q => h1 H1 e _ fun H2 e2 => by
  cases a with
  | true => exact iteT (h2 rfl H2 (e.trans e2) Q fun H3 e3 => q H3 (e2.trans e3))
  | false => exact iteF (q H2 e2)
theorem et_or {a b : Bool} (h1 : EvT t s H a) (h2 : a = false -> EvT u s H b) : EvT (tOr t u) s H (a || b) := fun H1 e Q q => h1 H1 e _ fun H2 e2 => by
  cases a with
  | true => exact iteT (q H2 e2)
  | false => exact iteF (h2 rfl H2 (e.trans e2) Q fun H3 e3 => q H3 (e2.trans e3))
theorem et_to {a b : Bool} (h : EvT t s H a) (e : a = b) : EvT t s H b := by subst e; exact h
theorem ev_andV {a : Bool} {z : D} (h1 : EvD M ta s H (.bl a)) (h2 : a = true -> EvD M tb s H z) (h3 : a = false -> z = .bl false) : EvD M (tAndV ta tb) s H z := fun H1 e Q q => h1 H1 e _ fun v H2 e2 r => ⟨a, r, by
  cases a with
  | true => exact iteT (h2 rfl H2 (e.trans e2) Q fun w H3 e3 => q w H3 (e2.trans e3))
  | false => exact iteF (q _ H2 e2 (by rw [h3 rfl]; rfl))⟩
theorem ev_orV {a : Bool} {z : D} (h1 : EvD M ta s H (.bl a)) (h2 : a = false -> EvD M tb s H z) (h3 : a = true -> z = .bl true) : EvD M (tOrV ta tb) s H z := fun H1 e Q q => h1 H1 e _ fun v H2 e2 r => ⟨a, r, by
  cases a with
  | true => exact iteT (q _ H2 e2 (by rw [h3 rfl]; rfl))
  | false => exact iteF (h2 rfl H2 (e.trans e2) Q fun w H3 e3 => q w H3 (e2.trans e3))⟩
theorem ev_notV {a : Bool} (h1 : EvD M ta s H (.bl a)) : EvD M (tNotV ta) s H (.bl (!a)) := fun H1 e Q q => h1 H1 e _ fun v H2 e2 r => ⟨a, r, q _ H2 e2 rfl⟩
theorem ev_ifE {b : Bool} (h : EvT t s H b) (h1 : b = true -> Ev M ta s H P) (h2 : b = false -> Ev M tb s H P) : Ev M (tIf t ta tb) s H P := fun H1 e Q q => h H1 e _ fun H2 e2 => by
  cases b with
  | true => exact iteT (h1 rfl H2 (e.trans e2) Q fun w H3 e3 => q w H3 (e2.trans e3))
  | false => exact iteF (h2 rfl H2 (e.trans e2) Q fun w H3 e3 => q w H3 (e2.trans e3))
/-! ### statements -/
theorem st_if {ts us : TS} {b : Bool} {E : Ends} (h : EvT t s H b) (k1 : b = true -> forall H2, Same H H2 -> ts E s H2) (k2 : b = false -> forall H2, Same H H2 -> us E s H2) : tIfS t ts us E s H := h H (Same.refl H) _ fun H2 e => by
  cases b with
  | true => exact iteT (k1 rfl H2 e)
  | false => exact iteF (k2 rfl H2 e)
theorem st_ret {E : Ends} (h : Ev M te s H P) (k : forall v H2, Same H H2 -> P v (msk M H2) -> E.rt v H2) : tRet te E s H := h H (Same.refl H) _ k
theorem st_set {i : Nat} {E : Ends} (h : Ev M te s H P) (k : forall v H2, Same H H2 -> P v (msk M H2) -> E.nx (s.set i (some v)) H2) : tAsg te (gName i) E s H := h H (Same.refl H) _ k

/-! ### operators at data -/
theorem rd_I0 {g : Int -> Int -> V} {i j : Int} (hz : forall G, Rep G z (g i j)) : RD M (rI0 g) H (.int i) (.int j) z := fun x y H1 _ rx ry Q q => ⟨i, j, rx, ry, q _ H1 (Same.refl H1) (hz _)⟩
theorem rd_I {C : Int -> Int -> Prop} {g : Int -> Int -> V} {i j : Int} (hc : C i j) (hz : forall G, Rep G z (g i j)) : RD M (rI C g) H (.int i) (.int j) z := fun x y H1 _ rx ry Q q => ⟨i, j, rx, ry, hc, q _ H1 (Same.refl H1) (hz _)⟩
/-- the scalar a datum is -/
def D.sc : D -> Option V
  | .non => some .non
  | .bl b => some (.bl b)
  | .int i => some (.int i)
  | .str s => some (.str s)
  | .oth v => some v
  | _ => none
theorem Rep.sc {G : Hp} {v w : V} (h : d.sc = some w) (r : Rep G d v) : v = w := by
  cases d with
  | non => cases h; exact r
  | bl b => cases h; exact r
  | int i => cases h; exact r
  | str s => cases h; exact r
  | oth x => cases h; exact r
  | _ => cases h
theorem rd_eq {x y : V} (hd : d.sc = some x) (he : e.sc = some y) (hs : scal x y = true) : RD M rEq H d e (.bl (decide (x = y))) := fun v w H1 _ rx ry Q q => by
  have ex := rx.sc hd
  have ey := ry.sc he
  subst ex ey
  exact ⟨hs, q _ H1 (Same.refl H1) rfl⟩
theorem rd_ne {x y : V} (hd : d.sc = some x) (he : e.sc = some y) (hs : scal x y = true) : RD M rNe H d e (.bl (!decide (x = y))) := fun v w H1 _ rx ry Q q => by
  have ex := rx.sc hd
  have ey := ry.sc he
  subst ex ey
  exact ⟨hs, q _ H1 (Same.refl H1) rfl⟩
/-- == of data -/
theorem rd_eqD (hd : d.pl = true) (he : e.pl = true) (sd : SeqAt.shaped d.py = true) (se : SeqAt.shaped e.py = true) : RD M (rEqD K) H d e (.bl (PyData.eqv d.py e.py)) := fun v w H1 _ rx ry Q q =>
  ⟨d.py, e.py, Rep.dp d hd (rx.up msk_same), Rep.dp e he (ry.up msk_same), sd, se, q _ H1 (Same.refl H1) rfl⟩
theorem rd_neD (hd : d.pl = true) (he : e.pl = true) (sd : SeqAt.shaped d.py = true) (se : SeqAt.shaped e.py = true) : RD M (rNeD K) H d e (.bl (!PyData.eqv d.py e.py)) := fun v w H1 _ rx ry Q q =>
  ⟨d.py, e.py, Rep.dp d hd (rx.up msk_same), Rep.dp e he (ry.up msk_same), sd, se, q _ H1 (Same.refl H1) rfl⟩
theorem Reps.at_ix {G : Hp} {ds : List D} {vs : List V} {i : Int} (r : Reps G ds vs) (h : atI ds i = some d) : exists v, atI vs i = some v ∧ Rep G d v := by
  unfold atI at h ⊢
  rw [r.len]
  cases q : ixN ds.length i with
  | none => rw [q] at h; cases h
  | some j =>
    rw [q] at h
    obtain ⟨v, h1, h2⟩ := r.at (i := j) h
    exact ⟨v, h1, h2⟩
theorem rd_ixT {ds : List D} {i : Int} (h : atI ds i = some z) : RD M (rIx K) H (.tup ds) (.int i) z := fun v w H1 _ rx ry Q q => by
  obtain ⟨a, xs, e1, hs, rs⟩ := rx
  obtain ⟨y, h1, h2⟩ := rs.at_ix h
  exact .inr (.inl ⟨a, xs, i, y, e1, ry, SqT.of (msk_same _ _ hs), h1, q _ H1 (Same.refl H1) h2⟩)
theorem rd_ixL {ds : List D} {i : Int} (h : atI ds i = some z) : RD M (rIx K) H (.lst ds) (.int i) z := fun v w H1 _ rx ry Q q => by
  obtain ⟨a, xs, e1, hs, rs⟩ := rx
  obtain ⟨y, h1, h2⟩ := rs.at_ix h
  exact .inl ⟨a, xs, i, y, e1, ry, SqL.of (msk_same _ _ hs), h1, q _ H1 (Same.refl H1) h2⟩
theorem rd_ixS {x : Str} {i : Int} {c : Nat} (hl : x.length ≤ sizeLine) (h : atI x.cps.toList i = some c) : RD M (rIx K) H (.str x) (.int i) (.str ⟨#[c]⟩) := fun v w H1 _ rx ry Q q =>
  .inr (.inr ⟨x, i, c, rx, ry, hl, h, q _ H1 (Same.refl H1) rfl⟩)
/-- in a row of flat things -/
def D.fl (ds : List D) (xs : List V) : Prop := ds.map D.sc = xs.map some ∧ xs.all flatV = true
theorem Reps.fl {G : Hp} : forall {ds : List D} {vs xs : List V}, ds.map D.sc = xs.map some -> Reps G ds vs -> vs = xs
  | [], _, xs, h, r => by
    cases xs with
    | nil => exact r
    | cons _ _ => cases h
  | d :: ds, _, xs, h, ⟨x, ys, e, rx, r⟩ => by
    cases xs with
    | nil => cases h
    | cons y xs =>
      rw [List.map_cons, List.map_cons] at h
      injection h with h1 h2
      rw [e, rx.sc h1, Reps.fl h2 r]
theorem rd_inT {neg : Bool} {ds : List D} {x : V} {xs : List V} (hd : d.sc = some x) (hx : flatV x = true) (hs : D.fl ds xs) : RD M (rIn K neg) H d (.tup ds) (.bl (if neg then !inV x xs else inV x xs)) := fun v w H1 _ rx ry Q q => by
  obtain ⟨a, ys, e1, h1, rs⟩ := ry
  have ex := rx.sc hd
  have ey := rs.fl hs.1
  subst ex ey
  exact ⟨a, ys, e1, .inr (SqT.of (msk_same _ _ h1)), hx, hs.2, q _ H1 (Same.refl H1) rfl⟩
theorem rd_inL {neg : Bool} {ds : List D} {x : V} {xs : List V} (hd : d.sc = some x) (hx : flatV x = true) (hs : D.fl ds xs) : RD M (rIn K neg) H d (.lst ds) (.bl (if neg then !inV x xs else inV x xs)) := fun v w H1 _ rx ry Q q => by
  obtain ⟨a, ys, e1, h1, rs⟩ := ry
  have ex := rx.sc hd
  have ey := rs.fl hs.1
  subst ex ey
  exact ⟨a, ys, e1, .inl (SqL.of (msk_same _ _ h1)), hx, hs.2, q _ H1 (Same.refl H1) rfl⟩
/-- xs + ys -/
theorem rd_cat {ds es : List D} (m : Mok M H) (hz : ds.length + es.length ≤ sizeLine) : RD M rCat H (.lst ds) (.lst es) (.lst (ds ++ es)) := fun v w H1 e1 rx ry Q q => by
  obtain ⟨a, xs, ea, ha, ra⟩ := rx
  obtain ⟨b, ys, eb, hb, rb⟩ := ry
  refine ⟨a, b, xs, ys, ea, eb, msk_same _ _ ha, msk_same _ _ hb, by rw [ra.len, rb.len]; exact hz, fun p hp => q _ _ (same_new hp) ⟨p, _, rfl, msk_new (m.up e1) hp, ?_⟩⟩
  exact Reps.app (ra.up (msk_mono (same_new hp))) (rb.up (msk_mono (same_new hp)))
theorem Reps.rep {G : Hp} {ds : List D} {vs : List V} (r : Reps G ds vs) : forall n : Nat, Reps G (List.replicate n ds).flatten (List.replicate n vs).flatten
  | 0 => rfl
  | n + 1 => by
    rw [List.replicate_succ, List.replicate_succ, List.flatten_cons, List.flatten_cons]
    exact Reps.app r (Reps.rep r n)
theorem rd_rep {ds : List D} {k : Int} (m : Mok M H) (h1 : -(2 ^ 63) ≤ k) (h2 : k < 2 ^ 63) (hz : ds.length * k.toNat ≤ sizeLine) : RD M rRep H (.lst ds) (.int k) (.lst (List.replicate k.toNat ds).flatten) := fun v w H1 e1 rx ry Q q => by
  obtain ⟨a, xs, ea, ha, ra⟩ := rx
  refine ⟨a, k, xs, ea, ry, msk_same _ _ ha, h1, h2, by rw [ra.len]; exact hz, fun p hp => q _ _ (same_new hp) ⟨p, _, rfl, msk_new (m.up e1) hp, ?_⟩⟩
  exact Reps.rep (ra.up (msk_mono (same_new hp))) _

/-! ### len, fields -/
/-- the length of a datum -/
def D.len : D -> Option Nat
  | .str x => some x.length
  | .tup ds => some ds.length
  | .lst ds => some ds.length
  | .dK kvs => some kvs.length
  | .dT kvs => some kvs.length
  | _ => none
theorem Reps.cut {G : Hp} : forall {ds : List D} {vs : List V} (a n : Nat), Reps G ds vs -> Reps G ((ds.drop a).take n) ((vs.drop a).take n) := by
  have tk : forall {ds : List D} {vs : List V} (n : Nat), Reps G ds vs -> Reps G (ds.take n) (vs.take n) := by
    intro ds
    induction ds with
    | nil => intro vs n r; rw [show vs = [] from r, List.take_nil, List.take_nil]; exact rfl
    | cons d ds ih =>
      intro vs n r
      obtain ⟨x, xs, e, rx, r⟩ := r
      cases n with
      | zero => exact rfl
      | succ n => rw [e]; exact ⟨x, _, rfl, rx, ih n r⟩
  have dr : forall {ds : List D} {vs : List V} (n : Nat), Reps G ds vs -> Reps G (ds.drop n) (vs.drop n) := by
    intro ds
    induction ds with
    | nil => intro vs n r; rw [show vs = [] from r, List.drop_nil, List.drop_nil]; exact rfl
    | cons d ds ih =>
      intro vs n r
      cases n with
      | zero => exact r
      | succ n =>
        obtain ⟨x, xs, e, rx, r⟩ := r
        rw [e]
        exact ih n r
  intro ds vs a n r
  exact tk n (dr a r)
/-- xs[lo:hi] -/
def cutD (ds : List D) (lo hi : Option Int) : List D := (ds.drop (HT.sIx ds.length 0 lo)).take (HT.sIx ds.length ds.length hi - HT.sIx ds.length 0 lo)
theorem Reps.cutV {G : Hp} {ds : List D} {vs : List V} (r : Reps G ds vs) (lo hi : Option Int) : Reps G (cutD ds lo hi) (L2.cutV vs lo hi) := by
  unfold cutD L2.cutV
  rw [r.len]
  exact r.cut _ _
def RepFld (fs : List (Str × D)) (f : Str) : Option D := fs.lookup f
theorem RepF.look {G : Hp} : forall {fs : List (Str × D)} {vs : List (Str × V)} {f : Str}, RepF G fs vs -> fs.lookup f = some d -> exists v, vs.lookup f = some v ∧ Rep G d v
  | [], _, _, _, h => by cases h
  | (g, d') :: fs, _, f, ⟨x, xs, e, rx, r⟩, h => by
    rw [e]
    by_cases hg : f = g
    · have hb : (f == g) = true := beq_iff_eq.mpr hg
      simp only [List.lookup, hb] at h ⊢
      cases h
      exact ⟨x, rfl, rx⟩
    · have hb : (f == g) = false := beq_eq_false_iff_ne.mpr hg
      simp only [List.lookup, hb] at h ⊢
      exact RepF.look r h
theorem RepF.none {G : Hp} : forall {fs : List (Str × D)} {vs : List (Str × V)} {f : Str}, RepF G fs vs -> fs.lookup f = Option.none -> vs.lookup f = Option.none
  | [], _, _, e, _ => by rw [show _ = [] from e] <;> rfl
  | (g, d') :: fs, _, f, ⟨x, xs, e, rx, r⟩, h => by
    rw [e]
    by_cases hg : f = g
    · have hb : (f == g) = true := beq_iff_eq.mpr hg
      simp only [List.lookup, hb] at h
      cases h
    · have hb : (f == g) = false := beq_eq_false_iff_ne.mpr hg
      simp only [List.lookup, hb] at h ⊢
      exact RepF.none r h
theorem ev_fld {C : Addr} {f : Str} {fs : List (Str × D)} (h : EvD M ta s H (.ins C fs)) (c : Cls K C) (n : NoAttr K C f) (l : fs.lookup f = some d) : EvD M (tFld K ta f) s H d := fun H1 e1 Q q =>
  h H1 e1 _ fun v H2 e2 r => by
    obtain ⟨a, dx, vs, ev, ha, rf⟩ := r
    obtain ⟨y, hl, ry⟩ := rf.look l
    exact ⟨a, C, dx, vs, y, ev, msk_same _ _ ha, c, n, hl, q y H2 e2 ry⟩
end
end Ak
/-! Ak 3: what a for and a comprehension walk, as rows of data. -/
namespace Ak
open PySem PySem.Spec PyProof.Rows L2

/-- the walk J yields the data ds, one behind the other, as long as H2 stands -/
structure ItD (M : MK) (J : It) (ds : List D) (H2 : Hp) : Prop where
  go : forall i H, Kp M H2 H -> i < ds.length -> J.go i H
  stop : forall H, Kp M H2 H -> J.stop ds.length H
  yld : forall i H x H' (N : MK), Kp M H2 H -> Mok N H -> (forall a, N a -> M a ∨ H2 a = none) -> i < ds.length -> J.yld i H x H' -> Same H H' ∧ exists d, ds[i]? = some d ∧ Rep (msk N H') d x
def EvI (M : MK) (wi : TI) (s : L2.St) (H : Hp) (ds : List D) : Prop :=
  forall H1, Same H H1 -> forall R : It -> Hp -> Prop, (forall J H2, Same H1 H2 -> ItD M J ds H2 -> R J H2) -> wi s H1 R

section
variable {K : PySem.W.Frag} {M : MK} {s : L2.St} {H H' : Hp} {te : TE} {ds : List D}
theorem EvI.mono {wi : TI} (e : Same H H') (h : EvI M wi s H ds) : EvI M wi s H' ds := fun H1 a Q q => h H1 (e.trans a) Q q
/-! ### sources -/
theorem ei_list (h : EvD M te s H (.lst ds)) : EvI M (iList K te) s H ds := fun H1 e R k => h H1 e _ fun v H2 e2 r => by
  obtain ⟨a, xs, ev, ha, rs⟩ := r
  have ha2 := msk_same _ _ ha
  refine ⟨a, ev, ⟨xs, SqL.of ha2⟩, k _ H2 e2 ⟨fun i H f hi => ?_, fun H f => ?_, fun i H x H' N f m hn hi y => ?_⟩⟩
  · have hl : i < xs.length := by rw [rs.len]; exact hi
    exact ⟨xs, xs[i], SqL.of (f.lst ha), by simp [hl]⟩
  · exact ⟨xs, SqL.of (f.lst ha), by rw [rs.len]; exact Nat.le_refl _⟩
  · obtain ⟨e, y⟩ := y
    subst e
    obtain ⟨d, h1, h2⟩ := rs.get (y xs (SqL.of (f.lst ha)))
    exact ⟨Same.refl _, d, h1, h2.fx (f.msk hn)⟩
theorem ei_tup (h : EvD M te s H (.tup ds)) : EvI M (iTup K te) s H ds := fun H1 e R k => h H1 e _ fun v H2 e2 r => by
  obtain ⟨a, xs, ev, ha, rs⟩ := r
  have ha2 := msk_same _ _ ha
  refine ⟨a, ev, ⟨xs, SqT.of ha2⟩, k _ H2 e2 ⟨fun i H f hi => ?_, fun H f => ?_, fun i H x H' N f m hn hi y => ?_⟩⟩
  · have hl : i < xs.length := by rw [rs.len]; exact hi
    exact ⟨xs, xs[i], SqT.of (f.tup ha), by simp [hl]⟩
  · exact ⟨xs, SqT.of (f.tup ha), by rw [rs.len]; exact Nat.le_refl _⟩
  · obtain ⟨e, y⟩ := y
    subst e
    obtain ⟨d, h1, h2⟩ := rs.get (y xs (SqT.of (f.tup ha)))
    exact ⟨Same.refl _, d, h1, h2.fx (f.msk hn)⟩
/-- n, n + 1, .. -/
def rngD (lo : Int) (n : Nat) : List D := (List.range n).map fun (i : Nat) => D.int (lo + (i : Int))
theorem rngD_len (lo : Int) (n : Nat) : (rngD lo n).length = n := by unfold rngD; rw [List.length_map, List.length_range]
theorem itr_d {lo : Int} {n : Nat} {H2 : Hp} : ItD M (Itr lo n) (rngD lo n) H2 := by
  refine ⟨fun i H f hi => ?_, fun H f => ?_, fun i H x H' N f m hn hi y => ?_⟩
  · rw [rngD_len] at hi
    exact hi
  · rw [rngD_len]
    exact Nat.le_refl _
  · obtain ⟨e, y⟩ := y
    rw [rngD_len] at hi
    subst e y
    refine ⟨Same.refl _, .int (lo + (i : Int)), ?_, rfl⟩
    unfold rngD
    rw [List.getElem?_map, List.getElem?_range hi] <;> rfl
theorem ei_rng1 {ta : TA} {j : Int} (h : EvDs M ta s H [.int j]) (h1 : -(2 ^ 62) ≤ j) (h2 : j < 2 ^ 62) : EvI M (iRng1 ta) s H (rngD 0 j.toNat) := fun H1 e R k => h H1 e _ fun vs H2 e2 r => by
  obtain ⟨x, xs, ev, rx, rs⟩ := r
  have e3 : x = V.int j := rx
  have e4 : xs = [] := rs
  subst e3 e4
  exact ⟨j, ev, h1, h2, k _ H2 e2 itr_d⟩
theorem ei_rng2 {ta : TA} {i j : Int} (h : EvDs M ta s H [.int i, .int j]) (h1 : -(2 ^ 62) ≤ i) (h2 : i < 2 ^ 62) (h3 : -(2 ^ 62) ≤ j) (h4 : j < 2 ^ 62) : EvI M (iRng2 ta) s H (rngD i (j - i).toNat) := fun H1 e R k => h H1 e _ fun vs H2 e2 r => by
  obtain ⟨x, xs, ev, rx, y, ys, ew, ry, rs⟩ := r
  have e3 : x = V.int i := rx
  have e4 : y = V.int j := ry
  have e5 : ys = [] := rs
  subst ew e3 e4 e5
  exact ⟨i, j, ev, ⟨h1, h2, h3, h4⟩, k _ H2 e2 itr_d⟩
/-- a text's signs -/
def signs (x : Str) : List D := x.cps.toList.map fun c => .str ⟨#[c]⟩
theorem ei_str {x : Str} (h : EvD M te s H (.str x)) : EvI M (fun s H R => te s H fun v H1 => exists y, v = .str y ∧ R (Its y) H1) s H (signs x) := fun H1 e R k => h H1 e _ fun v H2 e2 r => by
  refine ⟨x, r, k _ H2 e2 ⟨fun i H f hi => ?_, fun H f => ?_, fun i H x H' N f m hn hi y => ?_⟩⟩
  · unfold signs at hi
    rw [List.length_map, Array.length_toList] at hi
    exact hi
  · unfold signs
    rw [List.length_map, Array.length_toList]
    exact Nat.le_refl _
  · obtain ⟨e, c, h1, h2⟩ := y
    subst e h2
    refine ⟨Same.refl _, .str ⟨#[c]⟩, ?_, rfl⟩
    unfold signs
    rw [List.getElem?_map, Array.getElem?_toList, h1] <;> rfl
/-- (0, x), (1, y), .. -/
def enumD (ds : List D) : List D := ds.zipIdx.map fun p => .tup [.int (p.2 : Int), p.1]
theorem enumD_at {ds : List D} {i : Nat} {d : D} (h : ds[i]? = some d) : (enumD ds)[i]? = some (.tup [.int (i : Int), d]) := by
  unfold enumD
  rw [List.getElem?_map, List.getElem?_zipIdx, h]
  simp
theorem enumD_len (ds : List D) : (enumD ds).length = ds.length := by unfold enumD; rw [List.length_map, List.length_zipIdx]
theorem rep_new2 {N : MK} {H : Hp} {T : Addr} {x y : V} {d e : D} (m : Mok N H) (hT : H T = none) (r1 : Rep (msk N H) d x) (r2 : Rep (msk N H) e y) : Rep (msk N (upd H T (.tup [x, y]))) (.tup [d, e]) (.ref T) :=
  ⟨T, [x, y], rfl, msk_new m hT, x, [y], rfl, r1.up (msk_mono (same_new hT)), y, [], rfl, r2.up (msk_mono (same_new hT)), rfl⟩
theorem ei_enum {ta : TA} (h : EvDs M ta s H [.lst ds]) : EvI M (iEnum K ta) s H (enumD ds) := fun H1 e R k => h H1 e _ fun vs H2 e2 r => by
  obtain ⟨x, xs, ev, rx, r0⟩ := r
  have e4 : xs = [] := r0
  obtain ⟨a, ys, ea, ha, rs⟩ := rx
  have ha2 := msk_same _ _ ha
  subst e4 ea
  refine ⟨a, ys, ev, SqL.of ha2, k _ H2 e2 ⟨fun i H f hi => ?_, fun H f => ?_, fun i H x H' N f m hn hi y => ?_⟩⟩
  · rw [enumD_len] at hi
    have hl : i < ys.length := by rw [rs.len]; exact hi
    exact ⟨ys, ys[i], SqL.of (f.lst ha), by simp [hl]⟩
  · rw [enumD_len]
    exact ⟨ys, SqL.of (f.lst ha), by rw [rs.len]; exact Nat.le_refl _⟩
  · obtain ⟨T, z, e5, hT, e6, hz⟩ := y
    subst e5 e6
    obtain ⟨d, h1, h2⟩ := rs.get (hz ys (SqL.of (f.lst ha)))
    exact ⟨same_new hT, _, enumD_at h1, rep_new2 m hT rfl (h2.fx (f.msk hn))⟩

/-! ### one element of a comprehension -/
/-- the item x: kept as the datum o, or left out (none) -/
def Elt (N : MK) (g : TG) (tt : TT) (te : TE) (vs : List Nat) (s : L2.St) (H3 : Hp) (x : V) (o : Option D) : Prop :=
  forall (P : V -> Hp -> Prop) (S : Hp -> Prop), (forall d, o = some d -> forall y H4, Same H3 H4 -> Rep (msk N H4) d y -> P y H4) -> (o = none -> forall H4, Same H3 H4 -> S H4) ->
    g x (wipe s vs) H3 fun s2 H4 => wipe s2 vs = wipe s vs ∧ tt s2 H4 fun b H5 => if b = true then te s2 H5 P else S H5
theorem elt_of {N : MK} {g : TG} {tt : TT} {vs : List Nat} {H3 : Hp} {x : V} {o : Option D} {s2 : L2.St} (hg : forall Q : L2.St -> Hp -> Prop, Q s2 H3 -> g x (wipe s vs) H3 Q) (hw : wipe s2 vs = wipe s vs) {b : Bool}
    (ht : EvT tt s2 H3 b) (he : b = true -> exists d, o = some d ∧ EvD N te s2 H3 d) (hn : b = false -> o = none) : Elt N g tt te vs s H3 x o := fun P S kp ks => hg _ ⟨hw, ht H3 (Same.refl _) _ fun H4 e4 => by
  cases b with
  | true =>
    obtain ⟨d, eo, hd⟩ := he rfl
    exact iteT (hd H4 e4 _ fun y H5 e5 r => kp d eo y H5 (e4.trans e5) r)
  | false => exact iteF (ks (hn rfl) H4 e4)⟩
theorem et_yes : EvT tYes s H true := fun H1 _ Q q => q H1 (Same.refl H1)
/-- no test -/
theorem elt_all {N : MK} {g : TG} {vs : List Nat} {H3 : Hp} {x : V} {d : D} {s2 : L2.St} (hg : forall Q : L2.St -> Hp -> Prop, Q s2 H3 -> g x (wipe s vs) H3 Q) (hw : wipe s2 vs = wipe s vs) (he : EvD N te s2 H3 d) : Elt N g tYes te vs s H3 x (some d) :=
  elt_of hg hw et_yes (fun _ => ⟨d, rfl, he⟩) fun z => nomatch z
theorem ev_lc {wi : TI} {g : TG} {tt : TT} {vs : List Nat} (f : D -> Option D) (m : Mok M H) (hi : EvI M wi s H ds) (hz : ds.length ≤ 1000000)
    (hs : forall (N : MK) H3 d x, Mok N H3 -> Same (msk M H) (msk N H3) -> d ∈ ds -> Rep (msk N H3) d x -> Elt N g tt te vs s H3 x (f d)) : EvD M (tLc wi g tt te vs) s H (.lst (ds.filterMap f)) := fun H1 e1 Q q =>
  hi H1 e1 _ fun J H2 e2 it Da hD => by
    have m2 : Mok M H2 := (m.up e1).up e2
    have hM : ¬ M Da := m2.new hD
    let N : MK := fun a => M a ∨ a = Da
    have i2 : forall a, N a -> M a ∨ H2 a = none := fun a z => by
      rcases z with z | z
      · exact .inl z
      · exact .inr (by rw [z]; exact hD)
    have hlow : forall {H3 : Hp}, Same H2 H3 -> Same (msk M H2) (msk N H3) := fun {H3} e a o h => by
      obtain ⟨n, h⟩ := msk_of h
      rw [msk_at]
      · exact e _ _ h
      · rintro (z | z)
        · exact n z
        · rw [z, hD] at h
          cases h
    refine ⟨fun i k H3 => k = ds.length - i ∧ i ≤ ds.length ∧ Same H2 H3 ∧ exists acc, H3 Da = some (.lst acc) ∧ Reps (msk N H3) ((ds.take i).filterMap f) acc,
      ⟨ds.length, by simp, Nat.zero_le _, same_new hD, [], upd_same, rfl⟩, ?_⟩
    rintro i k H3 ⟨rfl, hi, e3, acc, ha, rs⟩
    have m3 : Mok N H3 := Mok.add (m2.up e3) ha
    have hlen : acc.length ≤ i := by
      rw [rs.len]
      exact Nat.le_trans (List.length_filterMap_le _ _) (by rw [List.length_take]; omega)
    by_cases hlt : i < ds.length
    · refine .inr ⟨it.go i H3 (Kp.of e3) hlt, fun H4 => Same H2 H4 ∧ exists acc, H4 Da = some (.lst acc) ∧ Reps (msk N H4) ((ds.take (i + 1)).filterMap f) acc, fun H4 w => ⟨ds.length - (i + 1), by omega, rfl, hlt, w⟩, fun x H4 y => ?_⟩
      obtain ⟨e4, d, hd, rd⟩ := it.yld i H3 x H4 N (Kp.of e3) m3 i2 hlt y
      have tk : ds.take (i + 1) = ds.take i ++ [d] := by rw [List.take_succ, hd] <;> rfl
      have ha4 := e4 _ _ ha
      have rs4 := rs.up (msk_mono e4)
      refine hs N H4 d x (m3.up e4) (fun a o h => hlow (e3.trans e4) _ _ (msk_mono (e1.trans e2) _ _ h)) (List.mem_of_getElem? hd) rd _ _ (fun d' ho y' H5 e5 r5 => ?_) (fun ho H5 e5 => ?_)
      · refine ⟨acc, e5 _ _ ha4, by rw [sizeLine_eq]; omega, fun a o h => ?_, acc ++ [y'], upd_same, ?_⟩
        · rw [upd_ne (ne_of_none h hD)]
          exact e5 _ _ (e4 _ _ (e3 _ _ h))
        · rw [tk, List.filterMap_append, List.filterMap_cons_some ho, List.filterMap_nil, msk_upd (M := N) (.inr rfl)]
          exact Reps.app (rs4.up (msk_mono e5)) (Reps.one r5)
      · refine ⟨(e3.trans e4).trans e5, acc, e5 _ _ ha4, ?_⟩
        rw [tk, List.filterMap_append, List.filterMap_cons_none ho, List.filterMap_nil, List.append_nil]
        exact rs4.up (msk_mono e5)
    · have e : i = ds.length := by omega
      subst e
      rw [List.take_length] at rs
      refine .inl ⟨it.stop H3 (Kp.of e3), q _ H3 (e2.trans e3) ⟨Da, acc, rfl, ?_, rs.up (msk_less fun a z => .inl z)⟩⟩
      rw [msk_at hM]
      exact ha
/-- the same, nothing left out -/
theorem ev_lcm {wi : TI} {g : TG} {vs : List Nat} (f : D -> D) (m : Mok M H) (hi : EvI M wi s H ds) (hz : ds.length ≤ 1000000)
    (hs : forall (N : MK) H3 d x, Mok N H3 -> Same (msk M H) (msk N H3) -> d ∈ ds -> Rep (msk N H3) d x -> Elt N g tYes te vs s H3 x (some (f d))) : EvD M (tLc wi g tYes te vs) s H (.lst (ds.map f)) := by
  have h := ev_lc (fun d => some (f d)) m hi hz hs
  have e : ds.filterMap (fun d => some (f d)) = ds.map f := congrFun List.filterMap_eq_map ds
  rw [e] at h
  exact h
/-! ### for -/
theorem st_for {wi : TI} {g : TG} {tb : TS} {E : Ends} (m : Mok M H) (hi : EvI M wi s H ds) (Pv : Hp -> Nat -> L2.St -> Hp -> Prop) (h0 : forall H2, Same H H2 -> Pv H2 0 s H2) (hf : forall H2 i s' H', Pv H2 i s' H' -> Kp M H2 H')
    (hs : forall H2 i d x s' H' H'', Same H H2 -> i < ds.length -> ds[i]? = some d -> Pv H2 i s' H' -> Same H' H'' -> (forall N, Mok N H' -> (forall a, N a -> M a ∨ H2 a = none) -> Rep (msk N H'') d x) ->
      g x s' H'' fun s2 H3 => tb { E with nx := Pv H2 (i + 1), ct := Pv H2 (i + 1), bk := E.nx } s2 H3)
    (hd : forall H2 s' H', Same H H2 -> Pv H2 ds.length s' H' -> E.nx s' H') : tFor wi g tb E s H :=
  hi H (Same.refl H) _ fun J H2 e2 it => by
    refine ⟨fun i k s' H' => k = ds.length - i ∧ i ≤ ds.length ∧ Pv H2 i s' H', ⟨ds.length, by simp, Nat.zero_le _, h0 H2 e2⟩, ?_⟩
    rintro i k s' H' ⟨rfl, hi, p⟩
    by_cases hlt : i < ds.length
    · refine .inr ⟨it.go i H' (hf _ _ _ _ p) hlt, Pv H2 (i + 1), fun s2 H3 p' => ⟨ds.length - (i + 1), by omega, rfl, hlt, p'⟩, fun x H'' y => ?_⟩
      have hd' : ds[i]? = some ds[i] := List.getElem?_eq_getElem hlt
      obtain ⟨e4, _, _, _⟩ := it.yld i H' x H'' (fun _ => False) (hf _ _ _ _ p) (Mok.none _) (fun _ z => z.elim) hlt y
      refine hs H2 i ds[i] x s' H' H'' e2 hlt hd' p e4 fun N mN iN => ?_
      obtain ⟨_, d, h1, r⟩ := it.yld i H' x H'' N (hf _ _ _ _ p) mN iN hlt y
      rw [hd'] at h1
      cases h1
      exact r
    · have e : i = ds.length := by omega
      subst e
      exact .inl ⟨it.stop H' (hf _ _ _ _ p), hd H2 s' H' e2 p⟩
end
end Ak
/-! Ak 4: one rule an operator, whatever the types. -/
namespace Ak
open PySem PySem.Spec PyProof.Rows L2

/-- a datum of the library's kind, not too deep -/
def D.ok (d : D) : Bool := d.pl && decide (d.py.depth ≤ 40)
mutual
theorem pl_plain : forall d : D, d.pl = true -> d.py.plain = true
  | .non, _ => rfl
  | .bl _, _ => rfl
  | .int _, _ => rfl
  | .str _, _ => rfl
  | .tup ds, h => pls_plain ds h
  | .lst ds, h => pls_plain ds h
  | .oth _, h => by cases (show false = true from h)
  | .ins _ _, h => by cases (show false = true from h)
  | .dK _, h => by cases (show false = true from h)
  | .dT _, h => by cases (show false = true from h)
theorem pls_plain : forall ds : List D, D.pls ds = true -> PyData.plainAll (D.pys ds) = true
  | [], _ => rfl
  | d :: ds, h => by
    have h' : (d.pl && D.pls ds) = true := h
    rw [Bool.and_eq_true] at h'
    show (d.py.plain && PyData.plainAll (D.pys ds)) = true
    rw [pl_plain d h'.1, pls_plain ds h'.2] <;> rfl
end
theorem D.ok_pl {d : D} (h : d.ok = true) : d.pl = true := by
  unfold D.ok at h
  rw [Bool.and_eq_true] at h
  exact h.1
theorem D.ok_dp {d : D} (h : d.ok = true) : d.py.depth ≤ 40 := by
  unfold D.ok at h
  rw [Bool.and_eq_true, decide_eq_true_eq] at h
  exact h.2
/-- == | != of data -/
def rEqU (neg : Bool) : R2 := fun x y H Q => exists d e : D, Rep H d x ∧ Rep H e y ∧ d.ok = true ∧ e.ok = true ∧ Q (.bl (if neg then !PyData.eqv d.py e.py else PyData.eqv d.py e.py)) H
section
variable {X : Cx}
theorem op_eqU (hu : X.A.units + 64 < cLine) : OpR X (compareOp .Eq) (rEqU false) := by
  intro pins s σ H x y v u Q I rx ry h
  obtain ⟨d, e, hd, he, sd, se, q⟩ := h
  obtain ⟨as, r1⟩ := Dp.reads I d.py x v (Rep.dp d (D.ok_pl sd) hd) rx
  obtain ⟨bs, r2⟩ := Dp.reads I e.py y u (Rep.dp e (D.ok_pl se) he) ry
  have h1 := D.ok_dp sd
  exact SeqAt.eq_plain r1 r2 (pl_plain d (D.ok_pl sd)) (pl_plain e (D.ok_pl se)) (by omega) ⟨.bl _, H, I, rfl, q⟩
theorem op_neU (hu : X.A.units + 64 < cLine) : OpR X (compareOp .NotEq) (rEqU true) := by
  intro pins s σ H x y v u Q I rx ry h
  obtain ⟨d, e, hd, he, sd, se, q⟩ := h
  obtain ⟨as, r1⟩ := Dp.reads I d.py x v (Rep.dp d (D.ok_pl sd) hd) rx
  obtain ⟨bs, r2⟩ := Dp.reads I e.py y u (Rep.dp e (D.ok_pl se) he) ry
  have h1 := D.ok_dp sd
  exact SeqAt.ne_plain r1 r2 (pl_plain d (D.ok_pl sd)) (pl_plain e (D.ok_pl se)) (by omega) ⟨.bl _, H, I, rfl, q⟩
end
/-- in | not in: a list, a tuple of data; a sign in a text; a dict -/
def inP (d : D) (es : List D) : Bool := es.any fun e => PyData.eqv e.py d.py
def oksP (es : List D) : Bool := es.all D.ok
def rInU (neg : Bool) : R2 := fun x y H Q =>
  (exists (d : D) (es : List D), Rep H d x ∧ (Rep H (.lst es) y ∨ Rep H (.tup es) y) ∧ d.ok = true ∧ oksP es = true ∧ Q (.bl (if neg then !inP d es else inP d es)) H) ∨
  (exists (c : Nat) (z : Str), x = .str ⟨#[c]⟩ ∧ y = .str z ∧ Q (.bl (if neg then !decide (c ∈ z.cps.toList) else decide (c ∈ z.cps.toList))) H) ∨
  (exists (a : Addr) (o : Option V), y = .ref a ∧ DGet H a x o ∧ Q (.bl (if neg then !o.isSome else o.isSome)) H)
theorem oks_pls : forall {es : List D}, oksP es = true -> D.pls es = true
  | [], _ => rfl
  | e :: es, h => by
    unfold oksP at h
    rw [List.all_cons, Bool.and_eq_true] at h
    show (e.pl && D.pls es) = true
    rw [D.ok_pl h.1, oks_pls (es := es) h.2] <;> rfl
theorem any_pys (d : D) : forall es : List D, ((D.pys es).any fun y => PyData.eqv y d.py) = inP d es
  | [] => rfl
  | e :: es => by
    show (PyData.eqv e.py d.py || (D.pys es).any fun y => PyData.eqv y d.py) = (PyData.eqv e.py d.py || inP d es)
    rw [any_pys d es]
section
variable {X : Cx}
theorem op_inU (hu : X.A.units + 64 < cLine) : OpR X (compareOp .In) (rInU false) := by
  intro pins s σ H x y v u Q I rx ry h
  rcases h with ⟨d, es, hd, hy, sd, se, q⟩ | ⟨c, z, e1, e2, q⟩ | ⟨a, o, e, g, q⟩
  · obtain ⟨as, r1⟩ := Dp.reads I d.py x v (Rep.dp d (D.ok_pl sd) hd) rx
    have h1 := D.ok_dp sd
    have h2 := oks_pls se
    rcases hy with hy | hy
    · obtain ⟨bs, r2⟩ := Dp.reads I (.list (D.pys es)) y u (Rep.dp (.lst es) h2 hy) ry
      exact SeqAt.in_list_data r2 r1 (pls_plain es h2) (pl_plain d (D.ok_pl sd)) (by omega) (by rw [any_pys]; exact ⟨.bl _, H, I, rfl, q⟩)
    · obtain ⟨bs, r2⟩ := Dp.reads I (.tuple (D.pys es)) y u (Rep.dp (.tup es) h2 hy) ry
      exact SeqAt.in_tuple_data r2 r1 (pls_plain es h2) (pl_plain d (D.ok_pl sd)) (by omega) (by rw [any_pys]; exact ⟨.bl _, H, I, rfl, q⟩)
  · exact op_in_sign pins s σ H x y v u Q I rx ry ⟨c, z, e1, e2, q⟩
  · subst e
    obtain rfl : u = Value.ref a := ry
    exact d_in (by omega) I g rx fun s' I' => ⟨.bl _, H, I', rfl, q⟩
theorem op_notInU (hu : X.A.units + 64 < cLine) : OpR X (compareOp .NotIn) (rInU true) := by
  intro pins s σ H x y v u Q I rx ry h
  rcases h with ⟨d, es, hd, hy, sd, se, q⟩ | ⟨c, z, e1, e2, q⟩ | ⟨a, o, e, g, q⟩
  · obtain ⟨as, r1⟩ := Dp.reads I d.py x v (Rep.dp d (D.ok_pl sd) hd) rx
    have h1 := D.ok_dp sd
    have h2 := oks_pls se
    rcases hy with hy | hy
    · obtain ⟨bs, r2⟩ := Dp.reads I (.list (D.pys es)) y u (Rep.dp (.lst es) h2 hy) ry
      exact SeqAt.notIn_list_data r2 r1 (pls_plain es h2) (pl_plain d (D.ok_pl sd)) (by omega) (by rw [any_pys]; exact ⟨.bl _, H, I, rfl, q⟩)
    · obtain ⟨bs, r2⟩ := Dp.reads I (.tuple (D.pys es)) y u (Rep.dp (.tup es) h2 hy) ry
      exact SeqAt.notIn_tuple_data r2 r1 (pls_plain es h2) (pl_plain d (D.ok_pl sd)) (by omega) (by rw [any_pys]; exact ⟨.bl _, H, I, rfl, q⟩)
  · exact op_notIn_sign pins s σ H x y v u Q I rx ry ⟨c, z, e1, e2, q⟩
  · subst e
    obtain rfl : u = Value.ref a := ry
    exact d_notIn (by omega) I g rx fun s' I' => ⟨.bl _, H, I', rfl, q⟩
/-- x + y -/
def rAddU (K : PySem.W.Frag) : R2 := fun x y H Q => rI0 (fun i j => .int (i + j)) x y H Q ∨ (exists i j, x = .str i ∧ y = .str j ∧ i.length + j.length ≤ sizeLine ∧ Q (.str (i ++ j)) H) ∨ rCat x y H Q ∨ rCatT K x y H Q
theorem op_addU : OpR X (binaryOp .Add) (rAddU X.K) := op_add.or (op_add_str.or (op_cat.or op_catT))
/-- x * y -/
def rMulU : R2 := fun x y H Q => rI CMul (fun i j => .int (i * j)) x y H Q ∨ rRep x y H Q
theorem op_mulU : OpR X (binaryOp .Mult) rMulU := op_mul.or op_rep
/-- x[i]: lists, tuples, texts, dicts (the key is there) -/
def tIxU (K : PySem.W.Frag) (ta tb : TE) : TE := tOp (rIx K) ta tb

/-- what a for walks: a list, a tuple, a text, a locked dict -/
def iAny (K : PySem.W.Frag) (te : TE) : TI := fun s H R => te s H fun v H1 => (exists a xs, v = .ref a ∧ H1 a = some (.lst xs) ∧ R (Itl K a) H1) ∨ (exists a xs, v = .ref a ∧ SqT K H1 a xs ∧ R (Itt K a) H1) ∨
  (exists x, v = .str x ∧ R (Its x) H1) ∨ (exists d o kvs, v = .ref d ∧ H1 d = some (.frz o (.dK kvs)) ∧ R (Itk d o kvs) H1) ∨ (exists d o kvs, v = .ref d ∧ H1 d = some (.frz o (.dT kvs)) ∧ R (Itkt d o kvs) H1)
theorem pi_any {tg l : Expr} {te : TE} (hl : PE X l te) : PI X tg l (iAny X.K te) := by
  refine ⟨fun pins s σ H R I h => ?_⟩
  refine thn (hl.run pins s σ H _ I h) fun v s1 ⟨x, H1, I1, r1, q1⟩ => ?_
  rcases q1 with ⟨a, xs, e, ha, q⟩ | ⟨a, xs, e, ha, q⟩ | ⟨z, e, q⟩ | ⟨d, o, kvs, e, hd, q⟩ | ⟨d, o, kvs, e, hd, q⟩
  · subst e
    cases r1
    obtain ⟨its, rv, p, hz⟩ := I1.list (SqL.of ha)
    exact wpAny_pyIter_list p.isList (pi_one (tk := s1.toks) I1 _ (turn_list a _) ⟨_, Heap.get?_push_size _ rfl, rfl, rfl⟩ q)
  · subst e
    cases r1
    obtain ⟨its, rv, p, hz⟩ := I1.tuple ha
    exact wpAny_pyIter_tuple (show s1.heap.IsTuple a its.toArray from p) (pi_one (tk := s1.toks) I1 _ (turn_tuple a _) ⟨_, Heap.get?_push_size _ rfl, rfl, rfl⟩ q)
  · subst e
    obtain ⟨t, rfl⟩ := r1
    cases ha : z.cps.all (· < 128)
    · exact wpAny_pyIter_wide ha (pi_one (tk := s1.toks) I1 _ (turn_str _ z t "str_iterator" (.inr rfl)) ⟨_, Heap.get?_push_size _ rfl, rfl, rfl⟩ q)
    · exact wpAny_pyIter_ascii ha (pi_one (tk := s1.toks) I1 _ (turn_str _ z t "str_ascii_iterator" (.inl rfl)) ⟨_, Heap.get?_push_size _ rfl, rfl, rfl⟩ q)
  · subst e
    cases r1
    obtain ⟨hs, hgd, hx, es, ep, vs, hdt, hsz, kv, hm⟩ := I1.frzK hd
    refine iter_keys hs hgd hx hdt (pi_one (tk := s1.toks) I1 _ (turn_keys _ hdt) ⟨_, Heap.get?_push_size _ rfl, rfl, ?_⟩ q)
    rw [hsz] <;> rfl
  · subst e
    cases r1
    obtain ⟨hs, hgd, hx, es, ep, hdt, hsz, ent⟩ := I1.frzT hd
    refine iter_keys hs hgd hx hdt (pi_one (tk := s1.toks) I1 _ (turn_keysT _ hdt) ⟨_, Heap.get?_push_size _ rfl, rfl, ?_⟩ q)
    rw [hsz] <;> rfl
end

section
variable {K : PySem.W.Frag} {M : MK} {s : L2.St} {H : Hp} {te : TE} {ds : List D} {d e : D}
theorem rd_eqU {neg : Bool} (hd : d.ok = true) (he : e.ok = true) : RD M (rEqU neg) H d e (.bl (if neg then !PyData.eqv d.py e.py else PyData.eqv d.py e.py)) := fun v w H1 _ rx ry Q q =>
  ⟨d, e, rx.up msk_same, ry.up msk_same, hd, he, q _ H1 (Same.refl H1) rfl⟩
theorem rd_inLU {neg : Bool} (hd : d.ok = true) (he : oksP ds = true) : RD M (rInU neg) H d (.lst ds) (.bl (if neg then !inP d ds else inP d ds)) := fun v w H1 _ rx ry Q q =>
  .inl ⟨d, ds, rx.up msk_same, .inl (Rep.up ry msk_same), hd, he, q _ H1 (Same.refl H1) rfl⟩
theorem rd_inTU {neg : Bool} (hd : d.ok = true) (he : oksP ds = true) : RD M (rInU neg) H d (.tup ds) (.bl (if neg then !inP d ds else inP d ds)) := fun v w H1 _ rx ry Q q =>
  .inl ⟨d, ds, rx.up msk_same, .inr (Rep.up ry msk_same), hd, he, q _ H1 (Same.refl H1) rfl⟩
theorem rd_inSU {neg : Bool} {c : Nat} {z : Str} : RD M (rInU neg) H (.str ⟨#[c]⟩) (.str z) (.bl (if neg then !decide (c ∈ z.cps.toList) else decide (c ∈ z.cps.toList))) := fun v w H1 _ rx ry Q q =>
  .inr (.inl ⟨c, z, rx, ry, q _ H1 (Same.refl H1) rfl⟩)
theorem rd_addI {i j : Int} : RD M (rAddU K) H (.int i) (.int j) (.int (i + j)) := fun v w H1 e1 rx ry Q q => .inl (rd_I0 (g := fun i j => .int (i + j)) (z := .int (i + j)) (fun _ => rfl) v w H1 e1 rx ry Q q)
theorem rd_addS {i j : Str} (hz : i.length + j.length ≤ sizeLine) : RD M (rAddU K) H (.str i) (.str j) (.str (i ++ j)) := fun v w H1 e1 rx ry Q q => .inr (.inl ⟨i, j, rx, ry, hz, q _ H1 (Same.refl H1) rfl⟩)
theorem rd_addL {es : List D} (m : Mok M H) (hz : ds.length + es.length ≤ sizeLine) : RD M (rAddU K) H (.lst ds) (.lst es) (.lst (ds ++ es)) := fun v w H1 e1 rx ry Q q => .inr (.inr (.inl (rd_cat m hz v w H1 e1 rx ry Q q)))
theorem rd_mulI {i j : Int} (h : CMul i j) : RD M rMulU H (.int i) (.int j) (.int (i * j)) := fun v w H1 e1 rx ry Q q => .inl (rd_I (g := fun i j => .int (i * j)) (z := .int (i * j)) h (fun _ => rfl) v w H1 e1 rx ry Q q)
theorem rd_mulL {k : Int} (m : Mok M H) (h1 : -(2 ^ 63) ≤ k) (h2 : k < 2 ^ 63) (hz : ds.length * k.toNat ≤ sizeLine) : RD M rMulU H (.lst ds) (.int k) (.lst (List.replicate k.toNat ds).flatten) := fun v w H1 e1 rx ry Q q => .inr (rd_rep m h1 h2 hz v w H1 e1 rx ry Q q)
/-! ### walks by pi_any -/
theorem ia_list (h : EvD M te s H (.lst ds)) : EvI M (iAny K te) s H ds := fun H1 e R k => h H1 e _ fun v H2 e2 r => by
  obtain ⟨a, xs, ev, ha, rs⟩ := r
  have ha2 := msk_same _ _ ha
  refine .inl ⟨a, xs, ev, ha2, k _ H2 e2 ⟨fun i H f hi => ?_, fun H f => ?_, fun i H x H' N f m hn hi y => ?_⟩⟩
  · have hl : i < xs.length := by rw [rs.len]; exact hi
    exact ⟨xs, xs[i], SqL.of (f.lst ha), by simp [hl]⟩
  · exact ⟨xs, SqL.of (f.lst ha), by rw [rs.len]; exact Nat.le_refl _⟩
  · obtain ⟨e, y⟩ := y
    subst e
    obtain ⟨d, h1, h2⟩ := rs.get (y xs (SqL.of (f.lst ha)))
    exact ⟨Same.refl _, d, h1, h2.fx (f.msk hn)⟩
theorem ia_tup (h : EvD M te s H (.tup ds)) : EvI M (iAny K te) s H ds := fun H1 e R k => h H1 e _ fun v H2 e2 r => by
  obtain ⟨a, xs, ev, ha, rs⟩ := r
  have ha2 := msk_same _ _ ha
  refine .inr (.inl ⟨a, xs, ev, SqT.of ha2, k _ H2 e2 ⟨fun i H f hi => ?_, fun H f => ?_, fun i H x H' N f m hn hi y => ?_⟩⟩)
  · have hl : i < xs.length := by rw [rs.len]; exact hi
    exact ⟨xs, xs[i], SqT.of (f.tup ha), by simp [hl]⟩
  · exact ⟨xs, SqT.of (f.tup ha), by rw [rs.len]; exact Nat.le_refl _⟩
  · obtain ⟨e, y⟩ := y
    subst e
    obtain ⟨d, h1, h2⟩ := rs.get (y xs (SqT.of (f.tup ha)))
    exact ⟨Same.refl _, d, h1, h2.fx (f.msk hn)⟩
theorem ia_str {x : Str} (h : EvD M te s H (.str x)) : EvI M (iAny K te) s H (signs x) := fun H1 e R k => h H1 e _ fun v H2 e2 r => by
  refine .inr (.inr (.inl ⟨x, r, k _ H2 e2 ⟨fun i H f hi => ?_, fun H f => ?_, fun i H x H' N f m hn hi y => ?_⟩⟩))
  · unfold signs at hi
    rw [List.length_map, Array.length_toList] at hi
    exact hi
  · unfold signs
    rw [List.length_map, Array.length_toList]
    exact Nat.le_refl _
  · obtain ⟨e, c, h1, h2⟩ := y
    subst e h2
    refine ⟨Same.refl _, .str ⟨#[c]⟩, ?_, rfl⟩
    unfold signs
    rw [List.getElem?_map, Array.getElem?_toList, h1] <;> rfl
end
end Ak
/-! Ak 5: promises over data, calls, isinstance, len, tuple, list, all, any, raise. -/
namespace Ak
open PySem PySem.Spec PyProof.Rows L2

/-! ### promises -/
/-- a def that makes of the data ds the datum d, and changes nothing -/
def SpR (R : List D -> D -> Prop) : Sp := fun vs H Q _ => exists (M : MK) (ds : List D) (d : D), Mok M H ∧ Reps (msk M H) ds vs ∧ R ds d ∧ forall v H', Same H H' -> Rep (msk M H') d v -> Q v H'
/-- .. or raises the exception of the class C with the attributes fs -/
def SpE (R : List D -> D -> Prop) (X : List D -> Addr -> List (Str × D) -> Prop) : Sp := fun vs H Q E => exists (M : MK) (ds : List D), Mok M H ∧ Reps (msk M H) ds vs ∧
  ((exists d, R ds d ∧ forall v H', Same H H' -> Rep (msk M H') d v -> Q v H') ∨
   (exists C fs, X ds C fs ∧ forall dx ws H', Same H H' -> H dx = none -> H' dx = some (.xd ws) -> RepF (msk M H') fs ws -> E (.ref C) (some dx) H'))
/-- an __init__ of a plain class: self's attributes -/
def SpI (C : Addr) (R : List D -> List (Str × D) -> Prop) (X : List D -> Addr -> List (Str × D) -> Prop) : Sp := fun vs H Q E => exists (M : MK) (ds : List D) (x dx : Addr) (ws : List V), Mok M H ∧ M x ∧ vs = .ref x :: ws ∧ Reps (msk M H) ds ws ∧ H x = some (.ins C dx []) ∧
  ((exists fs, R ds fs ∧ forall vs' H', (forall a o, a ≠ x -> H a = some o -> H' a = some o) -> H' x = some (.ins C dx vs') -> RepF (msk M H') fs vs' -> Q .non H') ∨
   (exists C' fs, X ds C' fs ∧ forall dy ys H', (forall a o, a ≠ x -> H a = some o -> H' a = some o) -> H dy = none -> H' dy = some (.xd ys) -> RepF (msk M H') fs ys -> E (.ref C') (some dy) H'))
def nox : List D -> Addr -> List (Str × D) -> Prop := fun _ _ _ => False
/-- an exception's __init__ that keeps its arguments as attributes -/
def SpX (C : Addr) (ns : List Str) : Sp := fun vs H Q _ => exists (a : Addr) (ys : List V), vs = .ref a :: ys ∧ ys.length = ns.length ∧ H a = some (exo a C none) ∧
  forall d H2, H d = none -> d ≠ a -> H2 a = some (exo a C (some d)) -> H2 d = some (exd d (ns.zip ys).reverse) -> (forall b, b ≠ a -> b ≠ d -> H2 b = H b) -> Q .non H2
theorem SpR.len {R : List D -> D -> Prop} {n : Nat} (hR : forall ds d, R ds d -> ds.length = n) {vs : List V} {H : Hp} {Q : VK} {E : XK} (h : SpR R vs H Q E) : vs.length = n := by
  obtain ⟨M, ds, d, _, rs, r, _⟩ := h
  rw [rs.len, hR ds d r]
theorem SpE.len {R : List D -> D -> Prop} {X : List D -> Addr -> List (Str × D) -> Prop} {n : Nat} (hR : forall ds d, R ds d -> ds.length = n) (hX : forall ds C fs, X ds C fs -> ds.length = n) {vs : List V} {H : Hp} {Q : VK} {E : XK} (h : SpE R X vs H Q E) : vs.length = n := by
  obtain ⟨M, ds, _, rs, ⟨d, r, _⟩ | ⟨C, fs, r, _⟩⟩ := h
  · rw [rs.len, hR ds d r]
  · rw [rs.len, hX ds C fs r]
theorem SpI.len {C : Addr} {R : List D -> List (Str × D) -> Prop} {X : List D -> Addr -> List (Str × D) -> Prop} {n : Nat} (hR : forall ds d, R ds d -> ds.length = n) (hX : forall ds C fs, X ds C fs -> ds.length = n) {vs : List V} {H : Hp} {Q : VK} {E : XK} (h : SpI C R X vs H Q E) : vs.length = n + 1 := by
  obtain ⟨M, ds, x, dx, ws, _, _, ev, rs, _, ⟨d, r, _⟩ | ⟨C', fs, r, _⟩⟩ := h
  · rw [ev, List.length_cons, rs.len, hR ds d r]
  · rw [ev, List.length_cons, rs.len, hX ds C' fs r]
theorem Reps.cons_iff {G : Hp} {d : D} {ds : List D} {vs : List V} : Reps G (d :: ds) vs <-> exists x xs, vs = x :: xs ∧ Rep G d x ∧ Reps G ds xs := Iff.rfl

section
variable {K : PySem.W.Frag} {M : MK} {s : L2.St} {H : Hp} {ta te to : TE} {tr : TA} {ds : List D} {d e z : D} {E : XK}
/-! ### calls -/
theorem ev_call {R : List D -> D -> Prop} (m : Mok M H) (h : EvDs M tr s H ds) (hR : R ds d) : EvD M (tCall (SpR R) [] E tr) s H d := fun H1 e1 Q q =>
  h H1 e1 _ fun vs H2 e2 rs => ⟨M, ds, d, (m.up e1).up e2, by rw [List.append_nil]; exact rs, hR, fun v H' e3 r => q v H' (e2.trans e3) r⟩
theorem ev_callE {R : List D -> D -> Prop} {X : List D -> Addr -> List (Str × D) -> Prop} (m : Mok M H) (h : EvDs M tr s H ds) (hR : R ds d) : EvD M (tCall (SpE R X) [] E tr) s H d := fun H1 e1 Q q =>
  h H1 e1 _ fun vs H2 e2 rs => ⟨M, ds, (m.up e1).up e2, by rw [List.append_nil]; exact rs, .inl ⟨d, hR, fun v H' e3 r => q v H' (e2.trans e3) r⟩⟩
theorem ev_meth {C : Addr} {nm : Str} {R : List D -> D -> Prop} {fs : List (Str × D)} (m : Mok M H) (ho : EvD M to s H (.ins C fs)) (hl : fs.lookup nm = none) (h : EvDs M tr s H ds) (hR : R (.ins C fs :: ds) d) : EvD M (tMeth C nm (SpR R) [] E to tr) s H d := fun H1 e1 Q q =>
  ho H1 e1 _ fun v H2 e2 r => by
    obtain ⟨a, dx, vs, ev, ha, rf⟩ := id r
    refine ⟨a, dx, vs, ev, msk_same _ _ ha, rf.none hl, h H2 (e1.trans e2) _ fun ws H3 e3 rs => ?_⟩
    exact ⟨M, .ins C fs :: ds, d, ((m.up e1).up e2).up e3, ⟨v, ws, by rw [List.append_nil], r.up (msk_mono e3), rs⟩, hR, fun v' H' e4 r' => q v' H' ((e2.trans e3).trans e4) r'⟩
theorem ev_methE {C : Addr} {nm : Str} {R : List D -> D -> Prop} {X : List D -> Addr -> List (Str × D) -> Prop} {fs : List (Str × D)} (m : Mok M H) (ho : EvD M to s H (.ins C fs)) (hl : fs.lookup nm = none) (h : EvDs M tr s H ds) (hR : R (.ins C fs :: ds) d) : EvD M (tMeth C nm (SpE R X) [] E to tr) s H d := fun H1 e1 Q q =>
  ho H1 e1 _ fun v H2 e2 r => by
    obtain ⟨a, dx, vs, ev, ha, rf⟩ := id r
    refine ⟨a, dx, vs, ev, msk_same _ _ ha, rf.none hl, h H2 (e1.trans e2) _ fun ws H3 e3 rs => ?_⟩
    exact ⟨M, .ins C fs :: ds, ((m.up e1).up e2).up e3, ⟨v, ws, by rw [List.append_nil], r.up (msk_mono e3), rs⟩, .inl ⟨d, hR, fun v' H' e4 r' => q v' H' ((e2.trans e3).trans e4) r'⟩⟩
/-- a new object of a plain class -/
theorem make_ok {C : Addr} {R : List D -> List (Str × D) -> Prop} {X : List D -> Addr -> List (Str × D) -> Prop} {fs : List (Str × D)} {vs : List V} {Q : VK} (m : Mok M H) (rs : Reps (msk M H) ds vs) (hR : R ds fs) (q : forall v H', Same H H' -> Rep (msk M H') (.ins C fs) v -> Q v H') {x dx : Addr} (hx : H x = none) (hdx : H dx = none) (hne : dx ≠ x) :
    SpI C R X (.ref x :: vs) (upd (upd H dx (.own x)) x (.ins C dx [])) (fun v H2 => v = .non ∧ Q (.ref x) H2) E := by
  have sm : Same H (upd (upd H dx (.own x)) x (.ins C dx [])) := fun a o h => by
    rw [upd_ne (ne_of_none h hx), upd_ne (ne_of_none h hdx)]
    exact h
  have low : forall {H' : Hp}, (forall a o, a ≠ x -> H a = some o -> H' a = some o) -> Same (msk M H) (msk (fun a => M a ∨ a = x) H') := fun {H'} k a o h => by
    obtain ⟨n, h⟩ := msk_of h
    have hne : a ≠ x := ne_of_none h hx
    rw [msk_at fun z => z.elim n hne]
    exact k a o hne h
  refine ⟨fun a => M a ∨ a = x, ds, x, dx, vs, fun a z => ?_, .inr rfl, rfl, rs.up (low fun a o _ h => sm a o h), upd_same, .inl ⟨fs, hR, fun vs' H' k hx' rf => ⟨rfl, q _ H' (fun a o h => k a o (ne_of_none h hx) (sm a o h)) ?_⟩⟩⟩
  · rcases z with z | z
    · exact (m.up sm) a z
    · rw [z]
      exact ⟨_, upd_same, fun _ e => nomatch e⟩
  · refine ⟨x, dx, vs', rfl, ?_, RepF.fx (Fx.of (msk_less fun a z => .inl z)) fs rf⟩
    rw [msk_at (m.new hx)]
    exact hx'
theorem ev_make {C : Addr} {R : List D -> List (Str × D) -> Prop} {X : List D -> Addr -> List (Str × D) -> Prop} {fs : List (Str × D)} (m : Mok M H) (h : EvDs M tr s H ds) (hR : R ds fs) : EvD M (tMake C (SpI C R X) [] E tr) s H (.ins C fs) := fun H1 e1 Q q =>
  h H1 e1 _ fun vs H2 e2 rs x dx hx hdx hne => by
    rw [List.append_nil]
    exact make_ok ((m.up e1).up e2) rs hR (fun v H' e3 r => q v H' (e2.trans e3) r) hx hdx hne
/-- .. that raises -/
theorem make_err {C C' : Addr} {R : List D -> List (Str × D) -> Prop} {X : List D -> Addr -> List (Str × D) -> Prop} {fs : List (Str × D)} {vs : List V} {Q : VK} (m : Mok M H) (rs : Reps (msk M H) ds vs) (hX : X ds C' fs)
    (q : forall dy ys H', Same H H' -> H dy = none -> H' dy = some (.xd ys) -> RepF (msk M H') fs ys -> E (.ref C') (some dy) H') {x dx : Addr} (hx : H x = none) (hdx : H dx = none) (hne : dx ≠ x) :
    SpI C R X (.ref x :: vs) (upd (upd H dx (.own x)) x (.ins C dx [])) Q E := by
  have sm : Same H (upd (upd H dx (.own x)) x (.ins C dx [])) := fun a o h => by
    rw [upd_ne (ne_of_none h hx), upd_ne (ne_of_none h hdx)]
    exact h
  have low : forall {H' : Hp}, (forall a o, a ≠ x -> H a = some o -> H' a = some o) -> Same (msk M H) (msk (fun a => M a ∨ a = x) H') := fun {H'} k a o h => by
    obtain ⟨n, h⟩ := msk_of h
    have hne : a ≠ x := ne_of_none h hx
    rw [msk_at fun z => z.elim n hne]
    exact k a o hne h
  refine ⟨fun a => M a ∨ a = x, ds, x, dx, vs, fun a z => ?_, .inr rfl, rfl, rs.up (low fun a o _ h => sm a o h), upd_same, .inr ⟨C', fs, hX, fun dy ys H' k hn hy rf => q dy ys H' (fun a o h => k a o (ne_of_none h hx) (sm a o h)) (sm.free hn) hy (RepF.fx (Fx.of (msk_less fun a z => .inl z)) fs rf)⟩⟩
  rcases z with z | z
  · exact (m.up sm) a z
  · rw [z]
    exact ⟨_, upd_same, fun _ e => nomatch e⟩
/-! ### raise -/
theorem RepF.zip {G : Hp} : forall {ns : List Str} {ds : List D} {ys : List V}, Reps G ds ys -> RepF G (ns.zip ds) (ns.zip ys)
  | [], _, _, _ => rfl
  | _ :: _, [], _, r => by rw [show _ = [] from r]; exact rfl
  | n :: ns, d :: ds, _, ⟨x, xs, e, h, r⟩ => by rw [e]; exact ⟨x, _, rfl, h, RepF.zip r⟩
theorem RepF.app {G : Hp} : forall {fs gs : List (Str × D)} {xs ys : List (Str × V)}, RepF G fs xs -> RepF G gs ys -> RepF G (fs ++ gs) (xs ++ ys)
  | [], _, _, _, h, k => by rw [show _ = [] from h]; exact k
  | (f, d) :: fs, _, _, _, ⟨x, xs, e, h, r⟩, k => by rw [e]; exact ⟨x, _, rfl, h, RepF.app r k⟩
theorem RepF.rev {G : Hp} : forall {fs : List (Str × D)} {xs : List (Str × V)}, RepF G fs xs -> RepF G fs.reverse xs.reverse
  | [], _, h => by rw [show _ = [] from h]; exact rfl
  | (f, d) :: fs, _, ⟨x, xs, e, h, r⟩ => by
    rw [e, List.reverse_cons, List.reverse_cons]
    exact RepF.app (RepF.rev r) ⟨x, [], rfl, h, rfl⟩
theorem tmk_ok {C : Addr} {ns : List Str} {Q : XK} (h : EvDs M tr s H ds) (hn : ds.length = ns.length) (hz : ds.length ≤ 100) (m : Mok M H)
    (k : forall dx ws H', Same H H' -> H dx = none -> H' dx = some (.xd ws) -> RepF (msk M H') (ns.zip ds).reverse ws -> Q (.ref C) (some dx) H') : tMkO C (SpX C ns) [] tr s H Q :=
  h H (Same.refl H) _ fun vs H1 e1 rs => by
    refine ⟨by rw [rs.len]; omega, fun a ha => ⟨a, vs, by rw [List.append_nil], by rw [rs.len, hn], upd_same, fun d H2 hd hne h1 h2 h3 => ⟨rfl, d, _, h1, h2, ?_, ?_⟩⟩⟩
    · rw [upd_ne hne] at hd
      exact hd
    · rw [upd_ne hne] at hd
      have sm : Same H1 (upd (del H2 a) d (.xd (ns.zip vs).reverse)) := fun b o hb => by
        have hba : b ≠ a := ne_of_none hb ha
        have hbd : b ≠ d := ne_of_none hb hd
        rw [upd_ne hbd, del_ne hba, h3 b hba hbd, upd_ne hba]
        exact hb
      exact k d _ _ (e1.trans sm) (e1.free hd) upd_same (RepF.rev (RepF.zip (rs.up (msk_mono sm))))
end
end Ak
/-! Ak 6: sorted of data. -/
namespace Ak
open PySem PySem.Spec PyProof.Rows L2
section
variable {X : Cx} {pins : List (Addr × Obj)} {σ : L2.St} {H : Hp} {s : Shared}
mutual
theorem Rep.reads (I : Inv X pins σ H s) : forall (d : D) (v : V) (u : Value), d.pl = true -> Rep H d v -> RelV v u -> exists as, Reads s.heap u d.py as ∧ forall b, b ∈ as -> b < s.heap.objs.size
  | .non, v, u, _, h, r => by
    have e : v = V.non := h
    subst e
    cases r
    exact ⟨[], .none, by simp⟩
  | .bl b, v, u, _, h, r => by
    have e : v = V.bl b := h
    subst e
    cases r
    exact ⟨[], .bool b, by simp⟩
  | .int i, v, u, _, h, r => by
    have e : v = V.int i := h
    subst e
    obtain ⟨t, rfl⟩ := r
    exact ⟨[], .int i t, by simp⟩
  | .str x, v, u, _, h, r => by
    have e : v = V.str x := h
    subst e
    obtain ⟨t, rfl⟩ := r
    exact ⟨[], .str x t, by simp⟩
  | .lst ds, v, u, p, ⟨a, xs, e, ha, rs⟩, r => by
    subst e
    cases r
    obtain ⟨its, rv, ⟨o, n, ho, hc, _, hd⟩, _⟩ := I.list (SqL.of ha)
    obtain ⟨as, h1, h2⟩ := Reps.reads I ds xs its p rs rv
    refine ⟨a :: as, .list ho hc hd h1, fun b hb => ?_⟩
    rcases List.mem_cons.mp hb with z | z
    · rw [z]
      exact Heap.lt_size ho
    · exact h2 b z
  | .tup ds, v, u, p, ⟨a, xs, e, ha, rs⟩, r => by
    subst e
    cases r
    obtain ⟨its, rv, ⟨o, ho, hc, n, hd⟩, _⟩ := I.tuple (SqT.of ha)
    obtain ⟨as, h1, h2⟩ := Reps.reads I ds xs its p rs rv
    exact ⟨as, .tuple ho hc hd h1, h2⟩
  | .oth _, _, _, p, _, _ => by cases (show false = true from p)
  | .ins _ _, _, _, p, _, _ => by cases (show false = true from p)
  | .dK _, _, _, p, _, _ => by cases (show false = true from p)
  | .dT _, _, _, p, _, _ => by cases (show false = true from p)
theorem Reps.reads (I : Inv X pins σ H s) : forall (ds : List D) (vs : List V) (us : List Value), D.pls ds = true -> Reps H ds vs -> Vals vs us -> exists as, ReadsAll s.heap us (D.pys ds) as ∧ forall b, b ∈ as -> b < s.heap.objs.size
  | [], vs, us, _, h, r => by
    have e : vs = [] := h
    subst e
    cases r
    exact ⟨[], .nil, by simp⟩
  | d :: ds, vs, us, p, ⟨x, xs, e, h, rs⟩, r => by
    subst e
    have p' : (d.pl && D.pls ds) = true := p
    rw [Bool.and_eq_true] at p'
    cases r with
    | cons r1 r2 =>
      obtain ⟨as, a1, a2⟩ := Rep.reads I d x _ p'.1 h r1
      obtain ⟨bs, b1, b2⟩ := Reps.reads I ds xs _ p'.2 rs r2
      exact ⟨as ++ bs, .cons a1 b1, fun b hb => (List.mem_append.mp hb).elim (a2 b) (b2 b)⟩
end
end

/-! ### the order of data -/
/-- Python's sorted, of data -/
def leD (a b : D) : Bool := PySem.W.dataLe false D.py a b
def sortD (ds : List D) : List D := ds.mergeSort leD
theorem sortD_perm (ds : List D) : (sortD ds).Perm ds := List.mergeSort_perm ds leD
theorem sortD_len (ds : List D) : (sortD ds).length = ds.length := (sortD_perm ds).length_eq
/-- what can be sorted -/
structure CanSort (ds : List D) : Prop where
  alike : PySem.W.AllAlike (ds.map D.py)
  kind : PySem.W.Sortable (ds.map D.py)
  ok : forall d, d ∈ ds -> d.ok = true
theorem CanSort.perm {ds es : List D} (c : CanSort ds) (p : es.Perm ds) : CanSort es := by
  have hm : forall x, x ∈ es.map D.py -> x ∈ ds.map D.py := fun x hx => (p.map D.py).mem_iff.mp hx
  refine ⟨fun d h d' h' => c.alike d (hm d h) d' (hm d' h'), ?_, fun d h => c.ok d (p.mem_iff.mp h)⟩
  rcases c.kind with k | k
  · exact .inl fun d h => k d (hm d h)
  · exact .inr fun d h => k d (hm d h)
theorem reps_zip {G : Hp} : forall {bs : List (V × D)}, (forall p, p ∈ bs -> Rep G p.2 p.1) -> Reps G (bs.map (·.2)) (bs.map (·.1))
  | [], _ => rfl
  | b :: bs, h => ⟨b.1, _, rfl, h b List.mem_cons_self, reps_zip fun p hp => h p (List.mem_cons_of_mem _ hp)⟩
theorem zip_reps {G : Hp} : forall {ds : List D} {vs : List V}, Reps G ds vs -> exists bs : List (V × D), bs.map (·.1) = vs ∧ bs.map (·.2) = ds ∧ forall p, p ∈ bs -> Rep G p.2 p.1
  | [], _, h => ⟨[], (show _ = [] from h).symm, rfl, by simp⟩
  | d :: ds, _, ⟨x, xs, e, h, r⟩ => by
    obtain ⟨bs, h1, h2, h3⟩ := zip_reps r
    refine ⟨(x, d) :: bs, by rw [e, ← h1] <;> rfl, by rw [← h2] <;> rfl, fun p hp => ?_⟩
    rcases List.mem_cons.mp hp with z | z
    · rw [z]
      exact h
    · exact h3 p z
theorem each_vals : forall {bs : List (V × D)} {us : List Value}, Vals (bs.map (·.1)) us -> PySem.W.EachIs (fun (u : Value) (b : V × D) => RelV b.1 u) us bs
  | [], _, r => by cases r; exact .nil
  | b :: bs, _, r => by
    cases r with
    | cons r1 r2 => exact .cons r1 (each_vals r2)
theorem vals_each : forall {bs : List (V × D)} {us : List Value}, PySem.W.EachIs (fun (u : Value) (b : V × D) => RelV b.1 u) us bs -> Vals (bs.map (·.1)) us
  | _, _, .nil => .nil
  | _, _, .cons h t => .cons h (vals_each t)
theorem each_reads {X : Cx} {pins : List (Addr × Obj)} {σ : L2.St} {H : Hp} {s s2 : Shared} (I : Inv X pins σ H s) (k : forall b o, s.heap.get? b = some o -> s2.heap.get? b = some o) {a : Addr} (ha : s.heap.objs.size ≤ a) : forall {bs : List (V × D)} {us : List Value}, (forall p, p ∈ bs -> Rep H p.2 p.1 ∧ p.2.pl = true) -> Vals (bs.map (·.1)) us ->
    PySem.W.EachIs (fun (u : Value) (b : V × D) => exists as, Reads s2.heap u b.2.py as ∧ ¬ a ∈ as) us bs
  | [], _, _, r => by cases r; exact .nil
  | b :: bs, _, h, r => by
    cases r with
    | cons r1 r2 =>
      obtain ⟨h1, h2⟩ := h b List.mem_cons_self
      obtain ⟨as, h3, h4⟩ := Rep.reads I b.2 b.1 _ h2 h1 r1
      exact .cons ⟨as, PyProof.Rows.Reads.keeps k h3, fun z => absurd (h4 a z) (Nat.not_lt.mpr ha)⟩ (each_reads I k ha (fun p hp => h p (List.mem_cons_of_mem _ hp)) r2)
theorem sort_pairs (bs : List (V × D)) : (bs.mergeSort (PySem.W.dataLe false fun b => b.2.py)).map (·.2) = sortD (bs.map (·.2)) :=
  List.map_mergeSort (r := PySem.W.dataLe false fun b : V × D => b.2.py) (s := leD) (f := fun b : V × D => b.2) fun _ _ _ _ => rfl

section
variable {X : Cx} {pins : List (Addr × Obj)} {σ : L2.St} {H : Hp} {s : Shared}
/-- from what was gathered: the list, sorted -/
theorem sorted_go {G : Hp} (hG : Same G H) {s1 : Shared} {us : List Value} {bs : List (V × D)} {Q : VK} (I : Inv X pins σ H s1) (hu : X.A.units + 64 < cLine) (rv : Vals (bs.map (·.1)) us) (hb : forall p, p ∈ bs -> Rep G p.2 p.1) (c : CanSort (bs.map (·.2))) (hz : bs.length ≤ sizeLine)
    (q : forall p out, H p = none -> Reps G (sortD (bs.map (·.2))) out -> Q (.ref p) (upd H p (.lst out))) {β : Type} {mk : Value -> β} {R : β -> Shared -> Prop} (fin : forall u s2, EP X pins σ Q u s2 -> R (mk u) s2) {E : Value -> Shared -> Prop} {A : Around} (hA : A.units ≤ X.A.units + 2) :
    wpAny (model X.prog X.w) A (newList us >>= fun l => holding [l] (call (.builtin "list.sort") [l]) >>= fun _ => pure (mk l)) R E s1 := by
  have hl : us.length = bs.length := by rw [← rv.length, List.length_map]
  have okb : forall p, p ∈ bs -> Rep H p.2 p.1 ∧ p.2.pl = true := fun p hp => ⟨(hb p hp).up hG, D.ok_pl (c.ok p.2 (List.mem_map.mpr ⟨p, hp, rfl⟩))⟩
  have hmap : (bs.map (·.2)).map D.py = bs.map fun b => b.2.py := by rw [List.map_map] <;> rfl
  refine wpAny_bind (wpAny_newList ?_ (by rw [hl]; exact hz))
  have hobj : (s1.heap.push (seqObj "list" us.toArray 0)).get? s1.heap.objs.size = some (seqObj "list" us.toArray 0) := Heap.get?_push_size _ rfl
  refine wpAny_bind (wpAny_holding ?_)
  refine PySem.W.list_sort_data (s := { s1 with heap := s1.heap.push (seqObj "list" us.toArray 0) }) (enc := fun b : V × D => b.2.py) (R := fun (u : Value) (b : V × D) => RelV b.1 u) hobj (each_vals rv) (each_reads I (s2 := { s1 with heap := s1.heap.push (seqObj "list" us.toArray 0) }) (fun b o e => Heap.get?_push_of_some _ e) (Nat.le_refl _) okb rv)
    (by rw [← hmap]; exact c.alike) (by rw [← hmap]; exact c.kind) hz (fun b hb' => ?_) fun out ho he => ?_
  · have h1 := D.ok_dp (c.ok b.2 (List.mem_map.mpr ⟨b, hb', rfl⟩))
    omega
  · have pm := List.mergeSort_perm bs (PySem.W.dataLe false fun b => b.2.py)
    obtain ⟨e', he'⟩ := PyProof.Rows.sortedHeap_at (vs := us) (out := out.toArray) hobj
    have hlen : ((bs.mergeSort (PySem.W.dataLe false fun b => b.2.py)).map (·.1)).length ≤ sizeLine := by
      rw [List.length_map, pm.length_eq]
      exact hz
    have hn : H s1.heap.objs.size = none := I.hok.fresh (Nat.le_refl _)
    refine wpAny_pure (fin _ _ ⟨.ref s1.heap.objs.size, upd H s1.heap.objs.size (.lst ((bs.mergeSort (PySem.W.dataLe false fun b => b.2.py)).map (·.1))), I.laid (t' := s1.toks) (fun b u e => ?_) (Nat.le_refl _) ?_, rfl, q _ _ hn ?_⟩)
    · have hb : b < s1.heap.objs.size := Heap.lt_size e
      show (PyProof.Rows.sortedHeap _ _ _ _).get? b = some u
      rw [PyProof.Rows.sortedHeap_old (Nat.ne_of_lt hb) (by rw [size_push']; exact Nat.lt_succ_of_lt hb)]
      exact Heap.get?_push_of_some _ e
    · exact ⟨hlen, out, e', vals_each he, he'⟩
    · rw [← sort_pairs]
      exact reps_zip fun p hp => hb p (pm.mem_iff.mp hp)
end
end Ak
/-! Ak 7: what can be walked; sorted, isinstance, len, list, tuple. -/
namespace Ak
open PySem PySem.Spec PyProof.Rows L2

/-! ### keys as data -/
def kD : Key -> D
  | .inl i => .int i
  | .inr x => .str x
def kT (k : List Key) : D := .tup (k.map kD)
section
variable {G H : Hp}
theorem kD_rep : forall k : Key, Rep G (kD k) (kV k)
  | .inl _ => rfl
  | .inr _ => rfl
theorem kD_reps : forall ks : List Key, Reps G (ks.map kD) (ks.map kV)
  | [] => rfl
  | k :: ks => ⟨_, _, rfl, kD_rep k, kD_reps ks⟩
theorem kT_rep {b : Addr} {k : List Key} (h : G b = some (.tup (k.map kV))) : Rep G (kT k) (.ref b) := ⟨b, _, rfl, h, kD_reps k⟩
/-- the tuples of H stand in G -/
structure Sub (G H : Hp) : Prop where
  same : Same G H
  tup : forall {b xs}, H b = some (.tup xs) -> G b = some (.tup xs)
theorem Sub.of {M : MK} (m : Mok M H) : Sub (msk M H) H := ⟨msk_same, fun h => m.tup h⟩
inductive Src (G : Hp) : V -> List D -> Prop
  | lst {ds : List D} {x : V} (h : Rep G (.lst ds) x) : Src G x ds
  | tup {ds : List D} {x : V} (h : Rep G (.tup ds) x) : Src G x ds
  | dK {a : Addr} {kvs : List (Key × V)} (h : Rd G a (.dK kvs)) : Src G (.ref a) (kvs.map fun p => kD p.1)
  | dT {a : Addr} {kvs : List (List Key × V)} (h : Rd G a (.dT kvs)) : Src G (.ref a) (kvs.map fun p => kT p.1)
theorem RepK.keys : forall {kvs : List (Key × D)} {ws : List (Key × V)}, RepK G kvs ws -> ws.map (·.1) = kvs.map (·.1)
  | [], _, h => by rw [show _ = [] from h] <;> rfl
  | (k, d) :: kvs, _, ⟨x, xs, e, _, r⟩ => by
    rw [e, List.map_cons, List.map_cons, RepK.keys r]
theorem RepT.keys : forall {kvs : List (List Key × D)} {ws : List (List Key × V)}, RepT G kvs ws -> ws.map (·.1) = kvs.map (·.1)
  | [], _, h => by rw [show _ = [] from h] <;> rfl
  | (k, d) :: kvs, _, ⟨x, xs, e, _, r⟩ => by
    rw [e, List.map_cons, List.map_cons, RepT.keys r]
/-- what a datum gives when it is walked -/
def D.its : D -> Option (List D)
  | .lst ds => some ds
  | .tup ds => some ds
  | .dK kvs => some (kvs.map fun p => kD p.1)
  | .dT kvs => some (kvs.map fun p => kT p.1)
  | _ => none
theorem Src.of {d : D} {ds : List D} {v : V} (h : d.its = some ds) (r : Rep G d v) : Src G v ds := by
  cases d with
  | lst es => cases h; exact .lst r
  | tup es => cases h; exact .tup r
  | dK kvs =>
    cases h
    obtain ⟨a, ws, e, ha, rk⟩ := r
    have hk := rk.keys
    have e2 : (kvs.map fun p => kD p.1) = ws.map fun p => kD p.1 := by
      have q := congrArg (List.map kD) hk
      rw [List.map_map, List.map_map] at q
      exact q.symm
    rw [e2, e]
    exact .dK ha
  | dT kvs =>
    cases h
    obtain ⟨a, ws, e, ha, rk⟩ := r
    have hk := rk.keys
    have e2 : (kvs.map fun p => kT p.1) = ws.map fun p => kT p.1 := by
      have q := congrArg (List.map kT) hk
      rw [List.map_map, List.map_map] at q
      exact q.symm
    rw [e2, e]
    exact .dT ha
  | _ => cases h
theorem vals_pt : forall {xs : List V} {us : List Value}, xs.length = us.length -> (forall (j : Nat) x u, xs[j]? = some x -> us[j]? = some u -> RelV x u) -> Vals xs us
  | [], [], _, _ => .nil
  | x :: xs, u :: us, h, k => .cons (k 0 x u rfl rfl) (vals_pt (by simpa using h) fun j y v a b => k (j + 1) y v (by simpa using a) (by simpa using b))
  | [], _ :: _, h, _ => by simp at h
  | _ :: _, [], h, _ => by simp at h
theorem paired_at {α β : Type} {F : α -> β -> Prop} : forall {xs : List α} {ys : List β} {j : Nat} {y : β}, Paired F xs ys -> ys[j]? = some y -> exists x, xs[j]? = some x ∧ F x y
  | _, _, _, _, .nil, e => by simp at e
  | _, _, 0, _, .cons r _, e => by simp at e; subst e; exact ⟨_, rfl, r⟩
  | _, _, j + 1, y, .cons _ t, e => by
    obtain ⟨x, h1, h2⟩ := paired_at (j := j) t (by simpa using e)
    exact ⟨x, by simpa using h1, h2⟩
end

section
variable {X : Cx} {pins : List (Addr × Obj)} {σ : L2.St} {G H : Hp} {s : Shared}
/-- a thing that can be walked is gathered -/
theorem gather {x : V} {u : Value} {ds : List D} (hG : Sub G H) (hcalm : X.calm = true) (I : Inv X pins σ H s) (src : Src G x ds) (rx : RelV x u) {R : List Value -> Shared -> Prop} {E : Value -> Shared -> Prop}
    (k : forall us s1 (bs : List (V × D)), Inv X pins σ H s1 -> Vals (bs.map (·.1)) us -> bs.map (·.2) = ds -> (forall p, p ∈ bs -> Rep G p.2 p.1) -> bs.length ≤ sizeLine -> R us s1) : wpAny (model X.prog X.w) X.A.in1 (collect u) R E s := by
  cases src with
  | lst h =>
    obtain ⟨a, xs, e, ha, rs⟩ := h
    subst e
    cases rx
    obtain ⟨its, rv, pl, hz⟩ := I.list (SqL.of (hG.same _ _ ha))
    obtain ⟨o, ho, hc, n, hd⟩ := pl.isList
    obtain ⟨bs, b1, b2, b3⟩ := zip_reps rs
    have hl := rv.length
    refine wpAny_collect_seq a (.inl rfl) ho hc hd (fun h' kp => k _ _ bs (I.kept (t' := s.toks) kp) (by rw [b1]; exact rv) b2 b3 (by rw [← List.length_map (f := (·.1)), b1]; exact hz)) (by rw [List.size_toArray, ← hl]; exact hz)
  | tup h =>
    obtain ⟨a, xs, e, ha, rs⟩ := h
    subst e
    cases rx
    obtain ⟨its, rv, pl, hz⟩ := I.tuple (SqT.of (hG.same _ _ ha))
    obtain ⟨o, ho, hc, n, hd⟩ := pl
    obtain ⟨bs, b1, b2, b3⟩ := zip_reps rs
    have hl := rv.length
    refine wpAny_collect_seq a (.inr rfl) ho hc hd (fun h' kp => k _ _ bs (I.kept (t' := s.toks) kp) (by rw [b1]; exact rv) b2 b3 (by rw [← List.length_map (f := (·.1)), b1]; exact hz)) (by rw [List.size_toArray, ← hl]; exact hz)
  | @dK a kvs h =>
    cases rx
    obtain ⟨z, lo, vs, rel, dd⟩ := dk_rd I.hok (rd_same hG.same h)
    obtain ⟨ep, hat⟩ := dd.dictAt
    have hl : kvs.length = vs.length := Paired.length rel
    refine PySem.W.kdu_collect (PySem.W.kdl_dict (knd := mixKind X.prog X.w) (kvs := vs) (ep := ep) lo) (I.ok.hd hcalm) hat (by rw [← hl]; exact z) fun h' tk acc hk hacc => ?_
    refine k _ _ (kvs.map fun p => (kV p.1, kD p.1)) (I.kept hk) ?_ (by rw [List.map_map] <;> rfl) (fun p hp => ?_) (by rw [List.length_map]; exact z)
    · have hla : acc.toList.length = kvs.length := by rw [Array.length_toList, hacc.1, hl]
      refine vals_pt (by rw [List.length_map, List.length_map, hla]) fun j y v hy hv => ?_
      obtain ⟨k0, w0, e1, e2⟩ := hacc.2 j v (by rw [← Array.getElem?_toList]; exact hv)
      obtain ⟨q, e3, e4, _⟩ := paired_at rel e1
      rw [List.map_map, List.getElem?_map, e3] at hy
      cases hy
      show RelV (kV q.1) v
      rw [e4]
      rcases keyIs_shape (k := k0) (v := v) e2 with ⟨i, t, ek, ev⟩ | ⟨z', t, ek, ev⟩
      · show RelV (kV k0) v
        rw [ek, ev]
        exact ⟨t, rfl⟩
      · show RelV (kV k0) v
        rw [ek, ev]
        exact ⟨t, rfl⟩
    · obtain ⟨q, _, rfl⟩ := List.mem_map.mp hp
      exact kD_rep q.1
  | @dT a kvs h =>
    cases rx
    obtain ⟨z, lo, xs, rel, dd⟩ := dt_rd I.hok (rd_same hG.same h)
    obtain ⟨o, es, ep, e1, e2, e3, e4, e5, e6⟩ := dd
    have hl : kvs.length = xs.length := Paired.length rel
    have hes : es.size = xs.length := by
      have q := congrArg List.length e4
      rw [Array.length_toList, List.length_map] at q
      exact q
    refine PySem.W.kdu_collect (KdlSrc.rawDict (es := es) (ep := ep) lo) (I.ok.hd hcalm) ⟨o, e1, e2, e3⟩ (by rw [hes, ← hl]; exact z) fun h' tk acc hk hacc => ?_
    have key : exists bs : List (V × D), bs.map (·.1) = xs.map (fun q => V.ref q.2.1) ∧ bs.map (·.2) = kvs.map (fun p => kT p.1) ∧ forall p, p ∈ bs -> Rep G p.2 p.1 := by
      clear hacc hes hl e6 e5 e4 z h
      have go : forall {l : List (List Key × V)} {m : List (List Key × Addr × Value)}, KT H l m -> exists bs : List (V × D), bs.map (·.1) = m.map (fun q => V.ref q.2.1) ∧ bs.map (·.2) = l.map (fun p => kT p.1) ∧ forall p, p ∈ bs -> Rep G p.2 p.1 := by
        intro l m r
        induction r with
        | nil => exact ⟨[], rfl, rfl, by simp⟩
        | @cons p q l m h1 _ ih =>
          obtain ⟨bs, a1, a2, a3⟩ := ih
          refine ⟨(.ref q.2.1, kT p.1) :: bs, by rw [List.map_cons, List.map_cons, a1], by rw [List.map_cons, List.map_cons, a2], fun y hy => ?_⟩
          rcases List.mem_cons.mp hy with ey | hy
          · rw [ey]
            exact kT_rep (hG.tup h1.2.1)
          · exact a3 y hy
      exact go rel
    obtain ⟨bs, b1, b2, b3⟩ := key
    refine k _ _ bs (I.kept hk) ?_ b2 b3 (by rw [← List.length_map (f := (·.2)), b2, List.length_map]; exact z)
    rw [b1]
    have hla : acc.toList.length = xs.length := by rw [Array.length_toList, hacc.1, hes]
    refine vals_pt (by rw [List.length_map, hla]) fun j y v hy hv => ?_
    obtain ⟨hi, ev⟩ := hacc.2 j v (by rw [← Array.getElem?_toList]; exact hv)
    have e7 : es.toList[j]? = some es[j] := by rw [Array.getElem?_toList]; simp [hi]
    rw [e4, List.getElem?_map] at e7
    rw [List.getElem?_map] at hy
    cases q : xs[j]? with
    | none => rw [q] at e7; cases e7
    | some t =>
      rw [q] at e7 hy
      cases hy
      have e8 : entryOfKey (tupleKind (mixKind X.prog X.w)) t = es[j] := Option.some.inj e7
      rw [ev, ← e8]
      exact rfl
end
/-! ### sorted -/
def rSortU (K : PySem.W.Frag) : List V -> Hp -> VK -> Prop := fun xs H Q => exists (x : V) (ds : List D) (G : Hp), xs = [x] ∧ Sub G H ∧ Src G x ds ∧ CanSort ds ∧ forall p out, H p = none -> Reps G (sortD ds) out -> Q (.ref p) (upd H p (.lst out))
theorem call_sortU {X : Cx} (hcalm : X.calm = true) (hu : X.A.units + 64 < cLine) : CallR X (.builtin "sorted") (rSortU X.K) := by
  intro pins σ s H xs us Q I r q
  obtain ⟨x, ds, G, ex, hG, src, c, q⟩ := q
  subst ex
  obtain ⟨u, eu, rx⟩ := vals1 r
  subst eu
  refine Calls.call_function_entry PyProof.Rows.kind_sorted PyProof.Rows.plain_sorted PyProof.Rows.entry_sorted (PyProof.Rows.args_sorted1 _) ?_
  unfold Builtin.«sorted»
  refine wpAny_bind (m := checkCount "sorted" 1 1 _) (wpAny_pure ?_)
  refine wpAny_bind (gather hG hcalm I src rx fun us' s1 bs I1 rv e2 hb hz => ?_)
  subst e2
  refine sorted_go (mk := fun l => Fin.done (Flow.ret l)) hG.same I1 hu rv hb c hz q (fun u s2 h => ⟨_, rfl, h⟩) ?_
  show X.A.in1.units ≤ _
  first | exact Nat.le_succ _ | exact Nat.le_add_right _ _ | (simp [Around.in1]) | omega
/-! ### list(x), tuple(x) -/
def rListU (K : PySem.W.Frag) : List V -> Hp -> VK -> Prop := fun xs H Q => exists p ys, xs = [.ref p] ∧ (SqL K H p ys ∨ SqT K H p ys) ∧ forall l, H l = none -> Q (.ref l) (upd H l (.lst ys))
section
variable {K : PySem.W.Frag} {M : MK} {s : L2.St} {H : Hp} {te : TE} {tr : TA} {ds : List D} {d e z : D} {P : V -> Hp -> Prop}
theorem ev_sort (m : Mok M H) (h : EvDs M tr s H [d]) (hi : d.its = some ds) (c : CanSort ds) : EvD M (tCB (rSortU K) tr) s H (.lst (sortD ds)) := ev_cb h fun vs H1 e1 rs Q q => by
  obtain ⟨x, xs, ev, rx, r0⟩ := rs
  have e4 : xs = [] := r0
  subst e4 ev
  refine ⟨x, ds, msk M H1, rfl, Sub.of (m.up e1), Src.of hi rx, c, fun p out hp ro => q _ _ (same_new hp) ⟨p, out, rfl, msk_new (m.up e1) hp, ro.up (msk_mono (same_new hp))⟩⟩
theorem ev_lof (m : Mok M H) (h : EvDs M tr s H [d]) (hi : d = .lst ds ∨ d = .tup ds) : EvD M (tCB (fun xs H Q => exists p ys, xs = [V.ref p] ∧ (SqL K H p ys ∨ SqT K H p ys) ∧ forall l, H l = none -> Q (.ref l) (upd H l (.lst ys))) tr) s H (.lst ds) := ev_cb h fun vs H1 e1 rs Q q => by
  obtain ⟨x, xs, ev, rx, r0⟩ := rs
  have e4 : xs = [] := r0
  subst e4 ev
  rcases hi with hi | hi
  · subst hi
    obtain ⟨a, ys, ea, ha, rs⟩ := rx
    exact ⟨a, ys, by rw [ea], .inl (SqL.of (msk_same _ _ ha)), fun l hl => q _ _ (same_new hl) ⟨l, ys, rfl, msk_new (m.up e1) hl, rs.up (msk_mono (same_new hl))⟩⟩
  · subst hi
    obtain ⟨a, ys, ea, ha, rs⟩ := rx
    exact ⟨a, ys, by rw [ea], .inr (SqT.of (msk_same _ _ ha)), fun l hl => q _ _ (same_new hl) ⟨l, ys, rfl, msk_new (m.up e1) hl, rs.up (msk_mono (same_new hl))⟩⟩
theorem ev_tof (m : Mok M H) (h : EvDs M tr s H [d]) (hi : d = .lst ds ∨ d = .tup ds) : EvD M (tCB (fun xs H Q => exists p ys, xs = [V.ref p] ∧ ((SqL K H p ys ∧ forall l, H l = none -> Q (.ref l) (upd H l (.tup ys))) ∨ (SqT K H p ys ∧ Q (.ref p) H))) tr) s H (.tup ds) := ev_cb h fun vs H1 e1 rs Q q => by
  obtain ⟨x, xs, ev, rx, r0⟩ := rs
  have e4 : xs = [] := r0
  subst e4 ev
  rcases hi with hi | hi
  · subst hi
    obtain ⟨a, ys, ea, ha, rs⟩ := rx
    exact ⟨a, ys, by rw [ea], .inl ⟨SqL.of (msk_same _ _ ha), fun l hl => q _ _ (same_new hl) ⟨l, ys, rfl, msk_new (m.up e1) hl, rs.up (msk_mono (same_new hl))⟩⟩⟩
  · subst hi
    obtain ⟨a, ys, ea, ha, rs⟩ := rx
    subst ea
    exact ⟨a, ys, rfl, .inr ⟨SqT.of (msk_same _ _ ha), q _ H1 (Same.refl H1) ⟨a, ys, rfl, ha, rs⟩⟩⟩
/-! ### isinstance -/
/-- the name of a datum's type -/
def D.tn : D -> String
  | .non => "NoneType"
  | .bl _ => "bool"
  | .int _ => "int"
  | .str _ => "str"
  | .tup _ => "tuple"
  | .lst _ => "list"
  | .dK _ => "dict"
  | .dT _ => "dict"
  | _ => ""
theorem Rep.ty {G : Hp} {v : V} (hG : Same G H) (r : Rep G d v) (h : d.tn ≠ "") (hT : forall kvs, d ≠ .dT kvs) : TyX K H v (.type d.tn) := by
  cases d with
  | non => rw [show v = _ from r]; exact .base .non
  | bl b => rw [show v = _ from r]; exact .base (.bl b)
  | int i => rw [show v = _ from r]; exact .base (.int i)
  | str x => rw [show v = _ from r]; exact .base (.str x)
  | tup ds => obtain ⟨a, xs, e, ha, _⟩ := r; rw [e]; exact .base (.tup (hG _ _ ha))
  | lst ds => obtain ⟨a, xs, e, ha, _⟩ := r; rw [e]; exact .base (.lst (hG _ _ ha))
  | dK kvs =>
    obtain ⟨a, ws, e, ha, _⟩ := r
    rw [e]
    rcases ha with ha | ⟨o, ha⟩
    · exact .base (.dK (hG _ _ ha))
    · exact .fDict (hG _ _ ha)
  | dT kvs => exact absurd rfl (hT kvs)
  | oth w => exact absurd rfl h
  | ins C fs => exact absurd rfl h
/-- isinstance(d, m), for the built-in types of data -/
def isB (d : D) (m : String) : Bool := d.tn == m || (d.tn == "bool" && m == "int")
theorem kitB_ok (hd : d.tn ≠ "") {m : String} (hm : m ∈ ["str", "int", "bool", "list", "tuple", "dict"]) : kitB d.tn m = some (isB d m) := by
  have key : forall a : String, a ∈ ["NoneType", "bool", "int", "str", "tuple", "list", "dict"] -> forall b : String, b ∈ ["str", "int", "bool", "list", "tuple", "dict"] -> kitB a b = some (a == b || (a == "bool" && b == "int")) := by
    decide +kernel
  refine key _ ?_ m hm
  cases d <;> first | exact absurd rfl hd | simp [D.tn]
theorem ev_isi {m : String} (h : EvDs M tr s H [d, .oth (.ty m)]) (hd : d.tn ≠ "") (hT : forall kvs, d ≠ .dT kvs) (hm : m ∈ ["str", "int", "bool", "list", "tuple", "dict"]) : EvD M (tCB (rIsi K) tr) s H (.bl (isB d m)) := ev_cb h fun vs H1 e1 rs Q q => by
  obtain ⟨x, xs, ev, rx, y, ys, ew, ry, r0⟩ := rs
  have e4 : ys = [] := r0
  have e5 : y = V.ty m := ry
  subst e4 ew e5 ev
  exact ⟨x, .ty m, _, _, _, rfl, .ty m, Rep.ty msk_same rx hd hT, kit_ty (kitB_ok hd hm), q _ H1 (Same.refl H1) rfl⟩
theorem ev_isi2 {m n : String} (h : EvDs M tr s H [d, .tup [.oth (.ty m), .oth (.ty n)]]) (hd : d.tn ≠ "") (hT : forall kvs, d ≠ .dT kvs) (hm : m ∈ ["str", "int", "bool", "list", "tuple", "dict"]) (hn : n ∈ ["str", "int", "bool", "list", "tuple", "dict"]) :
    EvD M (tCB (rIsiT K) tr) s H (.bl (isB d m || isB d n)) := ev_cb h fun vs H1 e1 rs Q q => by
  obtain ⟨x, xs, ev, rx, y, ys, ew, ry, r0⟩ := rs
  have e4 : ys = [] := r0
  obtain ⟨tp, cs, e6, ht, c1, c2, ec, rc1, c3, c4, ed, rc3, rc4⟩ := ry
  have e7 : c1 = V.ty m := rc1
  have e8 : c3 = V.ty n := rc3
  have e9 : c4 = [] := rc4
  subst e4 ew e6 ed ec e7 e8 e9 ev
  refine ⟨x, tp, _, _, [.type m, .type n], _, rfl, msk_same _ _ ht, .cons (.ty m) (.cons (.ty n) .nil), Rep.ty msk_same rx hd hT, kitAny_cons (kit_ty (kitB_ok hd hm)) (fun z => kitAny_cons (kit_ty (kitB_ok hd hn)) (fun z2 => ?_) fun z2 => ?_) fun z => ?_, q _ H1 (Same.refl H1) rfl⟩
  · rw [z, z2]
    exact kitAny_nil
  · rw [z2, Bool.or_true]
  · rw [z, Bool.true_or]
/-! ### len, all, any -/
def rLenU (K : PySem.W.Frag) : List V -> Hp -> VK -> Prop := fun xs H Q => (exists x n, xs = [x] ∧ LenV K x H n ∧ Q (.int n) H) ∨ exists (p : Addr) (kvs : List (Key × V)), xs = [.ref p] ∧ Rd H p (.dK kvs) ∧ Q (.int kvs.length) H
theorem call_lenU {X : Cx} : CallR X (.builtin "len") (rLenU X.K) := by
  intro pins s σ H xs us Q I r h
  rcases h with h | ⟨p, kvs, ex, hp, q⟩
  · exact call_len pins s σ H xs us Q I r h
  · subst ex
    obtain ⟨u, eu, rx⟩ := vals1 r
    subst eu
    cases rx
    exact d_len I hp fun t s' I' => ⟨.int kvs.length, H, I', ⟨t, rfl⟩, q⟩
theorem ev_len {n : Nat} (h : EvDs M tr s H [d]) (hn : d.len = some n) (hT : forall kvs, d ≠ .dT kvs) (hS : forall x, d = .str x -> x.length ≤ sizeLine) : EvD M (tCB (rLenU K) tr) s H (.int n) := ev_cb h fun vs H1 e1 rs Q q => by
  obtain ⟨x, xs, ev, rx, r0⟩ := rs
  have e4 : xs = [] := r0
  subst e4 ev
  cases d with
  | str y =>
    cases hn
    exact .inl ⟨x, _, rfl, by rw [show x = V.str y from rx]; exact ⟨hS y rfl, rfl⟩, q _ H1 (Same.refl H1) rfl⟩
  | tup ds =>
    cases hn
    obtain ⟨a, ys, ea, ha, rs⟩ := rx
    exact .inl ⟨x, _, rfl, by rw [ea]; exact .inr ⟨ys, SqT.of (msk_same _ _ ha), rs.len.symm⟩, q _ H1 (Same.refl H1) rfl⟩
  | lst ds =>
    cases hn
    obtain ⟨a, ys, ea, ha, rs⟩ := rx
    exact .inl ⟨x, _, rfl, by rw [ea]; exact .inl ⟨ys, SqL.of (msk_same _ _ ha), rs.len.symm⟩, q _ H1 (Same.refl H1) rfl⟩
  | dK kvs =>
    cases hn
    obtain ⟨a, ws, ea, ha, rk⟩ := rx
    have hl : ws.length = kvs.length := by
      have e := congrArg List.length rk.keys
      rw [List.length_map, List.length_map] at e
      exact e
    exact .inr ⟨a, ws, by rw [ea], rd_same msk_same ha, by rw [hl]; exact q _ H1 (Same.refl H1) rfl⟩
  | dT kvs => exact absurd rfl (hT kvs)
  | _ => cases hn
theorem Reps.bls {G : Hp} : forall {bs : List Bool} {vs : List V}, Reps G (bs.map D.bl) vs -> vs = bs.map V.bl
  | [], _, h => h
  | b :: bs, _, ⟨x, xs, e, h, r⟩ => by rw [e, show x = V.bl b from h, Reps.bls r] <;> rfl
theorem ev_all {bs : List Bool} (h : EvDs M tr s H [.lst (bs.map D.bl)]) : EvD M (tCB (rAll K) tr) s H (.bl (bs.all id)) := ev_cb h fun vs H1 e1 rs Q q => by
  obtain ⟨x, xs, ev, rx, r0⟩ := rs
  have e4 : xs = [] := r0
  obtain ⟨a, ys, ea, ha, rs⟩ := rx
  subst e4 ea ev
  exact ⟨a, bs, rfl, by rw [← rs.bls]; exact SqL.of (msk_same _ _ ha), q _ H1 (Same.refl H1) rfl⟩
theorem ev_any {bs : List Bool} (h : EvDs M tr s H [.lst (bs.map D.bl)]) : EvD M (tCB (rAny K) tr) s H (.bl (bs.any id)) := ev_cb h fun vs H1 e1 rs Q q => by
  obtain ⟨x, xs, ev, rx, r0⟩ := rs
  have e4 : xs = [] := r0
  obtain ⟨a, ys, ea, ha, rs⟩ := rx
  subst e4 ea ev
  exact ⟨a, bs, rfl, by rw [← rs.bls]; exact SqL.of (msk_same _ _ ha), q _ H1 (Same.refl H1) rfl⟩
end
end Ak
/-! Ak 8: dict comprehensions and setdefault, keys of any form. -/
namespace Ak
open PySem PySem.Spec PyProof.Rows L2

section
variable {X : Cx} {pins : List (Addr × Obj)} {σ : L2.St} {H H' : Hp} {s : Shared} {E : Value -> Shared -> Prop}
/-- a pair goes into a dict, as a comprehension does it -/
theorem put_any {D : Addr} {y v : V} {u r : Value} {Q : Unit -> Shared -> Prop} (hu : X.A.units + 1 < cLine) (I : Inv X pins σ H s) (g : DPut H D y v H') (ry : RelV y u) (rv : RelV v r) (h : forall s', Inv X pins σ H' s' -> Q () s') : wpAny (model X.prog X.w) X.A (dictSet D u r) Q E s := by
  rcases g with ⟨kvs, k, e, ey, l, eH⟩ | ⟨kvs, k, b, e, ey, eb, l, eH⟩
  · subst ey eH
    exact d_dictSet I e l ry rv h
  · subst ey eH
    obtain rfl : u = Value.ref b := ry
    obtain ⟨z, lo, xs, rel, dd⟩ := dt_of I.hok e
    have hlen := length_putK kvs k v
    refine wpAny_dictSet_heap (hsz := by rw [← Paired.length rel]; exact z) (show X.A.units < cLine from Nat.lt_of_succ_lt hu) (key_of I.hok eb) dd fun h' dd' hs => h _ ?_
    obtain ⟨ob, es, ep, g1, g2, g3, g4, _, g6⟩ := dd'
    have mu : Mut (H D) := by
      rw [e]
      exact True.intro
    exact d_write I mu hs ⟨ob, g1⟩ ⟨by omega, lo, _, (rel.put k eb rv).keeps fun c ys ec => (upd_ne (ne_of ec e fun z => nomatch z)).trans ec, ob, es, ep, g1, g2, g3, g4, g6⟩
end
section
variable {X : Cx}
/-- {k: v for target in iter if ..}: o the empty dict of the kind that is wanted -/
def tDcU (o : HO) (wi : TI) (g : TG) (tt : TT) (tk tv : TE) (vs : List Nat) : TE := fun σ H Q => wi σ H fun J H1 => forall D, H1 D = none -> exists W : Nat -> Nat -> Hp -> Prop, (exists m, W 0 m (upd H1 D o)) ∧ forall i m H, W i m H ->
  (J.stop i H ∧ Q (.ref D) H) ∨ (J.go i H ∧ exists Nx : Hp -> Prop, (forall H', Nx H' -> exists m', m' < m ∧ W (i + 1) m' H') ∧ forall x H', J.yld i H x H' -> g x (wipe σ vs) H' fun σ2 H2 => wipe σ2 vs = wipe σ vs ∧ tt σ2 H2 fun b H3 =>
    if b = true then tk σ2 H3 fun y H4 => tv σ2 H4 fun z H5 => exists H6, DPut H5 D y z H6 ∧ Nx H6 else Nx H3)
theorem pe_dcU (o : HO) (ho : o = .dK [] ∨ o = .dT []) (hu : X.A.units + 1 < cLine) {kx vx tg iter : Expr} {ifs : List Expr} {scope : Scope} {own : List (Str × Nat)} {pos : Pos} {wi : TI} {g : TG} {tt : TT} {tk tv : TE} (calm : X.calm = true) (nd : X.N.Nodup) (hi : PI X tg iter wi) (ok : BlkOk X.N X.env.scope scope own)
    (hg : forall (s : Shared) (H : Hp) (C : Addr) (cl : List (Str × Addr)) (fp : List Addr), PG (X.blk s H scope (compEnvC scope cl C X.env) fp) tg g)
    (ht : forall (s : Shared) (H : Hp) (C : Addr) (cl : List (Str × Addr)) (fp : List Addr), PTs (X.blk s H scope (compEnvC scope cl C X.env) fp) ifs tt)
    (hk : forall (s : Shared) (H : Hp) (C : Addr) (cl : List (Str × Addr)) (fp : List Addr), PE (X.blk s H scope (compEnvC scope cl C X.env) fp) kx tk)
    (he : forall (s : Shared) (H : Hp) (C : Addr) (cl : List (Str × Addr)) (fp : List Addr), PE (X.blk s H scope (compEnvC scope cl C X.env) fp) vx tv)
    (hs : forall x, foldedSetIterable iter X.env x = pure x := by intro _; rfl) :
    PE X (.DictComp kx vx [⟨tg, iter, ifs, 0⟩] scope pos) (tDcU o wi g tt tk tv (own.map (·.2))) := by
  refine ⟨fun pins s σ H Q I wish => ?_⟩
  rw [arm_eval_DictComp]
  have fr : forall y, y ∈ scope.names -> y.2 = .free -> exists c, X.env.cells.lookup y.1 = some c := by
    intro y hy e
    have := ok.free y hy e
    exact I.ok.has _ this
  refine wpAny_comprehension_free (use := none) rfl hs (closure_ok fr) ok.kind (fun y hy e => by rw [ok.uniq y hy, e]) ?_
  refine thn (hi.run pins s σ H _ I wish) fun xv s1 hx => thn hx fun itv s2 h2 => ?_
  obtain ⟨it, fp, tn, J, H2, rfl, I2, T, st2, f2, q⟩ := h2
  refine wpAny_newObj_type (newEnv_comp ?_)
  have hDn : H2 s2.heap.objs.size = none := I2.hok.fresh (Nat.le_refl _)
  obtain ⟨W, ⟨m0, w0⟩, turn⟩ := q s2.heap.objs.size hDn
  generalize hD : s2.heap.objs.size = D at *
  -- the dict is laid
  obtain ⟨s3, hs3⟩ : exists s3 : Shared, s3 = { s2 with heap := s2.heap.push { cls := .type "dict", data := .dict #[] } } := ⟨_, rfl⟩
  have heap3 : s3.heap = s2.heap.push { cls := .type "dict", data := .dict #[] } := congrArg Shared.heap hs3
  have I3 : Inv X pins σ (upd H2 D o) s3 := by
    rw [hs3]
    refine I2.laid (t' := s2.toks) (fun b ob e => Heap.get?_push_of_some _ e) (Nat.le_of_eq hD) ?_
    rcases ho with z | z
    · rw [z, ← hD]
      exact dk_empty s2.heap I2.big
    · rw [z, ← hD]
      exact dt_empty s2.heap I2.big
  have low : forall b, b ∈ fp -> b < D := by
    intro b hb
    obtain ⟨ob, e, _⟩ := T.obj _ _ st2 b hb
    rw [← hD]
    exact Heap.lt_size e
  have f3 : forall b, b ∈ fp -> FpOk X pins (upd H2 D o) b ∧ b < s3.heap.objs.size := by
    intro b hb
    have l := low b hb
    obtain ⟨z1, z2⟩ := f2 b hb
    refine ⟨⟨(upd_ne (Nat.ne_of_lt l)).trans z1, z2⟩, ?_⟩
    rw [heap3, Heap.size_push, hD]
    exact Nat.lt_succ_of_lt l
  have st3 : tn 0 s3.heap := T.keep _ _ _ st2 fun b _ ob e => by
    rw [heap3]
    exact Heap.get?_push_of_some _ e
  have I4 := block_start I3 ok nd f3
  have none3 : forall b, b ∈ fp -> (upd H2 D o) b = none := fun b hb => (f3 b hb).1.1
  generalize hH3 : upd H2 D o = H3 at *
  have g1 := hg s3 H3 s3.heap.objs.size (cellsFrom (s3.heap.objs.size + 1) scope.names (cloFrom X.env.cells scope.names [])) fp
  have g2 := ht s3 H3 s3.heap.objs.size (cellsFrom (s3.heap.objs.size + 1) scope.names (cloFrom X.env.cells scope.names [])) fp
  have g3 := hk s3 H3 s3.heap.objs.size (cellsFrom (s3.heap.objs.size + 1) scope.names (cloFrom X.env.cells scope.names [])) fp
  have g4 := he s3 H3 s3.heap.objs.size (cellsFrom (s3.heap.objs.size + 1) scope.names (cloFrom X.env.cells scope.names [])) fp
  have aim : codeAny (model X.prog X.w) X.A (.compStart (.DictComp kx vx [⟨tg, iter, ifs, 0⟩] scope pos) 0 (.ref it) (.ref D) (compEnvC scope (cellsFrom (s3.heap.objs.size + 1) scope.names (cloFrom X.env.cells scope.names [])) s3.heap.objs.size X.env))
      (compPost (model X.prog X.w) X.A X.xe none (EP X pins σ Q) (.ref D) s3.heap.objs.size) { s3 with heap := pushCells (s3.heap.push { cls := .type "dict", data := .dict #[] }) scope.names } := by
    generalize hce : compEnvC scope (cellsFrom (s3.heap.objs.size + 1) scope.names (cloFrom X.env.cells scope.names [])) s3.heap.objs.size X.env = ce at *
    have loc : ce.locals = s3.heap.objs.size := by rw [← hce] <;> rfl
    obtain ⟨s4, hs4⟩ : exists s4 : Shared, s4 = { s3 with heap := pushCells (s3.heap.push { cls := .type "dict", data := .dict #[] }) scope.names } := ⟨_, rfl⟩
    rw [← hs4] at I4 ⊢
    have st4 : tn 0 s4.heap := T.keep _ _ _ st3 fun b _ ob e => by
      rw [hs4]
      exact pushCells_keeps _ _ _ _ (Heap.get?_push_of_some _ e)
    have foot : forall {σ' : L2.St} {H' : Hp} {s' : Shared}, Inv (X.blk s3 H3 scope ce fp) [] σ' H' s' -> (forall b, b ∈ fp -> H' b = none) -> forall b, b ∈ fp -> FpOk (X.blk s3 H3 scope ce fp) [] H' b := by
      intro σ' H' s' I' hn b hb
      have e1 := I'.ok.exf b hb
      exact ⟨hn b hb, e1.1, I'.ok.exfs b hb, .inl hb, fun x c e => e1.2 x c e, fun p hp => absurd (show p ∈ ([] : List (Addr × Obj)) ++ [] from hp) (by simp)⟩
    have loop : codeAny (model X.prog X.w) X.A (.compLoop (.DictComp kx vx [⟨tg, iter, ifs, 0⟩] scope pos) 0 (.ref it) (.ref D) ce) (compPost (model X.prog X.w) X.A X.xe none (EP X pins σ Q) (.ref D) s3.heap.objs.size) s4 := by
      refine compLoop_anyD (fun n s' => exists i H', W i n H' ∧ Inv (X.blk s3 H3 scope ce fp) [] (wipe σ (own.map (·.2))) H' s' ∧ tn i s'.heap ∧ forall b, b ∈ fp -> H' b = none) ?_ m0 ⟨0, H3, w0, I4, st4, none3⟩
      rintro n s5 ⟨i, H5, w5, I5, st5, n5⟩
      rcases turn i n H5 w5 with ⟨stop, qq⟩ | ⟨go, Nx, hNx, step⟩
      · refine thnF (T.done (X.blk s3 H3 scope ce fp) rfl rfl rfl calm i [] s5 _ H5 (fun _ _ => False) I5 (foot I5 n5) st5 stop) fun r s6 z => ?_
        obtain ⟨rfl, I6⟩ := z
        have back : Inv X pins σ H5 s6 := I3.call' (ch := fp) I6.os I6.base I6.hok I6.bare fun b hb => by
          obtain ⟨⟨_, a1, a2, a3, a4, a5⟩, _⟩ := f3 b hb
          exact ⟨a3, a1, a4, a5⟩
        have nC : H5 s3.heap.objs.size = none := by
          rw [← loc]
          exact I6.free
        obtain ⟨m, hn, _⟩ := I6.loc
        have hn' : s6.heap.Ns s3.heap.objs.size m := by
          rw [← loc]
          exact hn
        refine ⟨m, hn', fun h'' sb => ?_⟩
        obtain ⟨b0, b1, b2, b3, b4, b5⟩ := I3.fpOk (Nat.le_refl _) nC
        exact ⟨.ref D, H5, back.turned (t' := s6.toks) (fun b ob hb e => (sb.2 b hb).trans e) b0 b1 b3 b4 b5, rfl, qq⟩
      · refine thnF (T.item (X.blk s3 H3 scope ce fp) rfl rfl rfl calm i [] s5 _ H5 (fun _ _ => False) I5 (foot I5 n5) st5 go) fun r s6 z => ?_
        obtain ⟨u, rfl, h6⟩ := z
        refine thnF h6 fun _ s7 ⟨x, H7, I7, r7, y7, st7, n7⟩ => ?_
        have pinned := I7.pinned (foot I7 n7) (T.obj _ _ st7)
        refine thnF (g1.run _ s7 _ H7 x u _ pinned r7 (step x H7 y7)) fun _ s8 ⟨σ8, H8, I8, hw8, q8⟩ => thnF (g2.run _ s8 σ8 H8 _ I8 q8) fun b s9 ⟨H9, I9, q9⟩ => ?_
        have fin : forall {s' : Shared} {H' : Hp}, Inv (X.blk s3 H3 scope ce fp) ([] ++ pinsAt fp s7.heap) σ8 H' s' -> Nx H' -> exists m, m < n ∧ exists i H', W i m H' ∧ Inv (X.blk s3 H3 scope ce fp) [] (wipe σ (own.map (·.2))) H' s' ∧ tn i s'.heap ∧ forall b, b ∈ fp -> H' b = none := by
          intro s' H' I' nx
          obtain ⟨m', hm, w'⟩ := hNx H' nx
          have pin' : forall b, b ∈ fp -> forall ob, s7.heap.get? b = some ob -> s'.heap.get? b = some ob ∧ H' b = none := by
            intro b hb ob e
            have z := I'.pin (b, ob) (List.mem_append_right _ (List.mem_append_right _ (mem_pinsAt hb e)))
            exact ⟨z.1, z.2.1⟩
          have hl : (wipe σ (own.map (·.2))).length = σ8.length := by
            rw [← hw8]
            exact wipe_length ..
          refine ⟨m', hm, i + 1, H', w', (I'.unpinned (pins := [])).weak hl (fun j v e => ?_), T.keep _ _ _ st7 fun b hb ob e => (pin' b hb ob e).1, fun b hb => ?_⟩
          · rw [← hw8] at e
            exact (wipe_some e).1
          · obtain ⟨ob, e, _⟩ := T.obj _ _ st7 b hb
            exact (pin' b hb ob e).2
        cases b with
        | false =>
          rw [if_neg Bool.false_ne_true] at q9 ⊢
          exact fin I9 q9
        | true =>
          rw [if_pos rfl] at q9 ⊢
          refine thnF (g3.run _ s9 σ8 H9 _ I9 q9) fun z s10 ⟨yk, H10, I10, r10, q10⟩ => thnF (g4.run _ s10 σ8 H10 _ I10 q10) fun z2 s11 ⟨yv, H11, I11, r11, H12, pt, nx⟩ => ?_
          exact put_any (X := X.blk s3 H3 scope ce fp) hu I11 pt r10 r11 fun s12 I12 => fin I12 nx
    exact codeAny_compStart_dict loop (T.self X.A 0 _ _ _ st4 loop)
  have e5 : ({ s3 with heap := pushCells (s3.heap.push { cls := .type "dict", data := .dict #[] }) scope.names } : Shared) = { s2 with heap := pushCells ((s2.heap.push { cls := .type "dict", data := .dict #[] }).push { cls := .type "dict", data := .dict #[] }) scope.names } := by rw [hs3]
  rw [heap3] at aim
  simp only [hs3] at aim
  exact aim
end
end Ak
/-! Ak 9: dicts as data. -/
namespace Ak
open PySem PySem.Spec PyProof.Rows L2

/-! ### key classes: int or text keys, tuple keys -/
section
variable {κ : Type} [DecidableEq κ]
def pD (kvs : List (κ × D)) (k : κ) (v : D) : List (κ × D) := if (kvs.any fun kv => decide (kv.1 = k)) = true then kvs.map (fun kv => if kv.1 = k then (kv.1, v) else kv) else kvs ++ [(k, v)]
def vD (kvs : List (κ × D)) (k : κ) : Option D := (kvs.find? fun kv => decide (kv.1 = k)).map (·.2)
def foldP (l : List (κ × D)) : List (κ × D) := l.foldl (fun kvs p => pD kvs p.1 p.2) []
theorem pD_len (kvs : List (κ × D)) (k : κ) (v : D) : (pD kvs k v).length ≤ kvs.length + 1 := by
  unfold pD
  split
  · rw [List.length_map]
    omega
  · rw [List.length_append, List.length_singleton]
    omega
theorem foldP_snoc (l : List (κ × D)) (p : κ × D) : foldP (l ++ [p]) = pD (foldP l) p.1 p.2 := by
  unfold foldP
  rw [List.foldl_append] <;> rfl
theorem foldP_len (l : List (κ × D)) : (foldP l).length ≤ l.length := by
  have go : forall (l : List (κ × D)) (acc : List (κ × D)), (l.foldl (fun kvs p => pD kvs p.1 p.2) acc).length ≤ acc.length + l.length := by
    intro l
    induction l with
    | nil => intro acc; exact Nat.le_refl _
    | cons p l ih =>
      intro acc
      have h1 := ih (pD acc p.1 p.2)
      have h2 := pD_len acc p.1 p.2
      rw [List.foldl_cons, List.length_cons]
      omega
  have h := go l []
  rw [List.length_nil, Nat.zero_add] at h
  exact h
abbrev RepP (G : Hp) (kvs : List (κ × D)) (ws : List (κ × V)) : Prop := Paired (fun (p : κ × D) (q : κ × V) => p.1 = q.1 ∧ Rep G p.2 q.2) kvs ws
variable {G G' : Hp}
theorem RepP.fx (f : Fx G G') {kvs : List (κ × D)} {ws : List (κ × V)} (r : RepP G kvs ws) : RepP G' kvs ws := Paired.mapP r fun _ _ z => ⟨z.1, Rep.fx f _ z.2⟩
theorem RepP.any {kvs : List (κ × D)} {ws : List (κ × V)} (r : RepP G kvs ws) (k : κ) : (kvs.any fun kv => decide (kv.1 = k)) = ws.any fun kv => decide (kv.1 = k) := by
  induction r with
  | nil => rfl
  | @cons p q ps qs h t ih => rw [List.any_cons, List.any_cons, ih, h.1]
theorem RepP.repl {kvs : List (κ × D)} {ws : List (κ × V)} (r : RepP G kvs ws) (k : κ) {d : D} {v : V} (h : Rep G d v) : RepP G (kvs.map fun kv => if kv.1 = k then (kv.1, d) else kv) (ws.map fun kv => if kv.1 = k then (kv.1, v) else kv) := by
  induction r with
  | nil => exact .nil
  | @cons p q ps qs hpq t ih =>
    refine .cons ?_ ih
    show (if p.1 = k then (p.1, d) else p).1 = (if q.1 = k then (q.1, v) else q).1 ∧ Rep G (if p.1 = k then (p.1, d) else p).2 (if q.1 = k then (q.1, v) else q).2
    by_cases e : p.1 = k
    · rw [if_pos e, if_pos (hpq.1 ▸ e)]
      exact ⟨hpq.1, h⟩
    · rw [if_neg e, if_neg (hpq.1 ▸ e)]
      exact hpq
theorem RepP.put {kvs : List (κ × D)} {ws : List (κ × V)} (r : RepP G kvs ws) (k : κ) {d : D} {v : V} (h : Rep G d v) : RepP G (pD kvs k d) (putK ws k v) := by
  unfold pD putK
  rw [r.any k]
  split
  · exact r.repl k h
  · exact Paired.snoc r ⟨rfl, h⟩
theorem RepP.val {kvs : List (κ × D)} {ws : List (κ × V)} (r : RepP G kvs ws) (k : κ) : (vD kvs k = none ∧ valV ws k = none) ∨ exists d v, vD kvs k = some d ∧ valV ws k = some v ∧ Rep G d v := by
  induction r with
  | nil => exact .inl ⟨rfl, rfl⟩
  | @cons p q ps qs h t ih =>
    by_cases e : p.1 = k
    · exact .inr ⟨p.2, q.2, by simp [vD, List.find?_cons, e], valV_pos (h.1 ▸ e), h.2⟩
    · have e1 : vD (p :: ps) k = vD ps k := by simp [vD, List.find?_cons, e]
      rw [e1, valV_neg (h.1 ▸ e)]
      exact ih
theorem repK_iff : forall {kvs : List (Key × D)} {ws : List (Key × V)}, RepK G kvs ws <-> RepP G kvs ws
  | [], ws => by
    constructor
    · intro h
      rw [show ws = [] from h]
      exact .nil
    · intro h
      cases h
      exact rfl
  | (k, d) :: kvs, ws => by
    constructor
    · rintro ⟨x, xs, e, h, r⟩
      rw [e]
      exact .cons ⟨rfl, h⟩ (repK_iff.mp r)
    · intro h
      cases h with
      | @cons p q ps qs h t =>
        obtain ⟨k', v⟩ := q
        obtain ⟨e, h⟩ := h
        cases e
        exact ⟨v, qs, rfl, h, repK_iff.mpr t⟩
theorem repT_iff : forall {kvs : List (List Key × D)} {ws : List (List Key × V)}, RepT G kvs ws <-> RepP G kvs ws
  | [], ws => by
    constructor
    · intro h
      rw [show ws = [] from h]
      exact .nil
    · intro h
      cases h
      exact rfl
  | (k, d) :: kvs, ws => by
    constructor
    · rintro ⟨x, xs, e, h, r⟩
      rw [e]
      exact .cons ⟨rfl, h⟩ (repT_iff.mp r)
    · intro h
      cases h with
      | @cons p q ps qs h t =>
        obtain ⟨k', v⟩ := q
        obtain ⟨e, h⟩ := h
        cases e
        exact ⟨v, qs, rfl, h, repT_iff.mpr t⟩
theorem kD_val {k : Key} {v : V} (h : Rep G (kD k) v) : v = kV k := by
  cases k <;> exact h
theorem kD_vals : forall {ks : List Key} {vs : List V}, Reps G (ks.map kD) vs -> vs = ks.map kV
  | [], _, h => h
  | k :: ks, _, ⟨x, xs, e, h, r⟩ => by rw [e, kD_val h, kD_vals r] <;> rfl
theorem kT_val {k : List Key} {v : V} (h : Rep G (kT k) v) : exists b, v = .ref b ∧ G b = some (.tup (k.map kV)) := by
  obtain ⟨b, xs, e, hb, rs⟩ := h
  exact ⟨b, e, by rw [← kD_vals rs]; exact hb⟩
end
/-- a kind of dicts -/
structure KC (κ : Type) [DecidableEq κ] where
  kd : κ -> D
  hk : List (κ × V) -> HO
  md : List (κ × D) -> D
  rep : forall {G kvs v}, Rep G (md kvs) v <-> exists a ws, v = .ref a ∧ Rd G a (hk ws) ∧ RepP G kvs ws
  put : forall {H a ws k y v}, H a = some (hk ws) -> Rep H (kd k) y -> ws.length < sizeLine -> DPut H a y v (upd H a (hk (putK ws k v)))
  get : forall {H a ws k y}, Rd H a (hk ws) -> Rep H (kd k) y -> DGet H a y (valV ws k)
  emp : hk [] = .dK [] ∨ hk [] = .dT []
  dict : forall ws, isDict (hk ws)
  rk : forall {G G' a ws}, Fx G G' -> Rd G a (hk ws) -> Rd G' a (hk ws)
  isd : forall {H a ws}, Rd H a (hk ws) -> IsD H a
def kcK : KC Key where
  kd := kD
  hk := .dK
  md := .dK
  rep := fun {G kvs v} => ⟨fun ⟨a, ws, e, h, r⟩ => ⟨a, ws, e, h, repK_iff.mp r⟩, fun ⟨a, ws, e, h, r⟩ => ⟨a, ws, e, h, repK_iff.mpr r⟩⟩
  put := fun {H a ws k y v} h r l => by
    rw [kD_val r]
    exact DPut.k h l
  get := fun {H a ws k y} h r => .inl ⟨ws, k, h, kD_val r, rfl⟩
  emp := .inl rfl
  dict := fun ws => .inl ⟨ws, rfl⟩
  rk := fun f h => f.rk h
  isd := fun h => .inl ⟨_, h⟩
def kcT : KC (List Key) where
  kd := kT
  hk := .dT
  md := .dT
  rep := fun {G kvs v} => ⟨fun ⟨a, ws, e, h, r⟩ => ⟨a, ws, e, h, repT_iff.mp r⟩, fun ⟨a, ws, e, h, r⟩ => ⟨a, ws, e, h, repT_iff.mpr r⟩⟩
  put := fun {H a ws k y v} h r l => by
    obtain ⟨b, e, hb⟩ := kT_val r
    rw [e]
    exact DPut.t h hb l
  get := fun {H a ws k y} h r => by
    obtain ⟨b, e, hb⟩ := kT_val r
    exact .inr ⟨ws, k, b, h, e, hb, rfl⟩
  emp := .inr rfl
  dict := fun ws => .inr ⟨ws, rfl⟩
  rk := fun f h => f.rt h
  isd := fun h => .inr ⟨_, h⟩
theorem isDict.nt {o : HO} (h : isDict o) : forall xs, o ≠ .tup xs := fun xs e => by
  rcases h with ⟨k, z⟩ | ⟨k, z⟩ <;> rw [e] at z <;> cases z
theorem isDict.mut {o : HO} (h : isDict o) : Mut (some o) := by
  rcases h with ⟨k, z⟩ | ⟨k, z⟩ <;> rw [z] <;> exact True.intro

section
variable {κ : Type} [DecidableEq κ] (c : KC κ) {K : PySem.W.Frag} {M : MK} {s : L2.St} {H : Hp} {te ta tb : TE} {ds : List D} {d : D}
/-- one entry of a dict comprehension -/
def EltP (N : MK) (g : TG) (tt : TT) (tk tv : TE) (vs : List Nat) (s : L2.St) (H3 : Hp) (x : V) (o : Option (κ × D)) : Prop :=
  forall (P : V -> V -> Hp -> Prop) (S : Hp -> Prop), (forall k d, o = some (k, d) -> forall y z H4, Same H3 H4 -> Rep (msk N H4) (c.kd k) y -> Rep (msk N H4) d z -> P y z H4) -> (o = none -> forall H4, Same H3 H4 -> S H4) ->
    g x (wipe s vs) H3 fun s2 H4 => wipe s2 vs = wipe s vs ∧ tt s2 H4 fun b H5 => if b = true then tk s2 H5 fun y H6 => tv s2 H6 fun z H7 => P y z H7 else S H5
variable {c}
theorem eltp_of {N : MK} {g : TG} {tt : TT} {tk tv : TE} {vs : List Nat} {H3 : Hp} {x : V} {o : Option (κ × D)} {s2 : L2.St} (hg : forall Q : L2.St -> Hp -> Prop, Q s2 H3 -> g x (wipe s vs) H3 Q) (hw : wipe s2 vs = wipe s vs) {b : Bool}
    (ht : EvT tt s2 H3 b) (he : b = true -> exists k d, o = some (k, d) ∧ EvD N tk s2 H3 (c.kd k) ∧ EvD N tv s2 H3 d) (hn : b = false -> o = none) : EltP c N g tt tk tv vs s H3 x o := fun P S kp ks => hg _ ⟨hw, ht H3 (Same.refl _) _ fun H4 e4 => by
  cases b with
  | true =>
    obtain ⟨k, d, eo, h1, h2⟩ := he rfl
    exact iteT (h1 H4 e4 _ fun y H5 e5 r => h2 H5 (e4.trans e5) _ fun z H6 e6 r2 => kp k d eo y z H6 ((e4.trans e5).trans e6) (r.up (msk_mono e6)) r2)
  | false => exact iteF (ks (hn rfl) H4 e4)⟩
theorem ev_dc {wi : TI} {g : TG} {tt : TT} {tk tv : TE} {vs : List Nat} (f : D -> Option (κ × D)) (m : Mok M H) (hi : EvI M wi s H ds) (hz : ds.length ≤ 1000000)
    (hs : forall (N : MK) H3 d x, Mok N H3 -> Same (msk M H) (msk N H3) -> d ∈ ds -> Rep (msk N H3) d x -> EltP c N g tt tk tv vs s H3 x (f d)) : EvD M (tDcU (c.hk []) wi g tt tk tv vs) s H (c.md (foldP (ds.filterMap f))) := fun H1 e1 Q q =>
  hi H1 e1 _ fun J H2 e2 it Da hD => by
    have m2 : Mok M H2 := (m.up e1).up e2
    have hM : ¬ M Da := m2.new hD
    let N : MK := fun a => M a ∨ a = Da
    have i2 : forall a, N a -> M a ∨ H2 a = none := fun a z => by
      rcases z with z | z
      · exact .inl z
      · exact .inr (by rw [z]; exact hD)
    have hlow : forall {H3 : Hp}, Same H2 H3 -> Same (msk M H2) (msk N H3) := fun {H3} e a o h => by
      obtain ⟨n, h⟩ := msk_of h
      rw [msk_at]
      · exact e _ _ h
      · rintro (z | z)
        · exact n z
        · rw [z, hD] at h
          cases h
    refine ⟨fun i k H3 => k = ds.length - i ∧ i ≤ ds.length ∧ Same H2 H3 ∧ exists acc, H3 Da = some (c.hk acc) ∧ RepP (msk N H3) (foldP ((ds.take i).filterMap f)) acc,
      ⟨ds.length, by simp, Nat.zero_le _, same_new hD, [], upd_same, .nil⟩, ?_⟩
    rintro i k H3 ⟨rfl, hi, e3, acc, ha, rs⟩
    have m3 : Mok N H3 := Mok.add (m2.up e3) ha (c.dict acc).nt
    have hlen : acc.length ≤ i := by
      rw [← Paired.length rs]
      have h1 := foldP_len ((ds.take i).filterMap f)
      have h2 := List.length_filterMap_le f (ds.take i)
      have h3 : (ds.take i).length ≤ i := by rw [List.length_take]; omega
      omega
    by_cases hlt : i < ds.length
    · refine .inr ⟨it.go i H3 (Kp.of e3) hlt, fun H4 => Same H2 H4 ∧ exists acc, H4 Da = some (c.hk acc) ∧ RepP (msk N H4) (foldP ((ds.take (i + 1)).filterMap f)) acc, fun H4 w => ⟨ds.length - (i + 1), by omega, rfl, hlt, w⟩, fun x H4 y => ?_⟩
      obtain ⟨e4, d, hd, rd⟩ := it.yld i H3 x H4 N (Kp.of e3) m3 i2 hlt y
      have tk : ds.take (i + 1) = ds.take i ++ [d] := by rw [List.take_succ, hd] <;> rfl
      have ha4 := e4 _ _ ha
      have rs4 := rs.fx (Fx.of (msk_mono e4))
      refine hs N H4 d x (m3.up e4) (fun a o h => hlow (e3.trans e4) _ _ (msk_mono (e1.trans e2) _ _ h)) (List.mem_of_getElem? hd) rd _ _ (fun k d' ho y z H5 e5 ry rz => ?_) (fun ho H5 e5 => ?_)
      · refine ⟨upd H5 Da (c.hk (putK acc k z)), c.put (e5 _ _ ha4) (ry.up msk_same) (by rw [sizeLine_eq]; omega), fun a o h => ?_, putK acc k z, upd_same, ?_⟩
        · rw [upd_ne (ne_of_none h hD)]
          exact e5 _ _ (e4 _ _ (e3 _ _ h))
        · rw [tk, List.filterMap_append, List.filterMap_cons_some ho, List.filterMap_nil, msk_upd (M := N) (.inr rfl), foldP_snoc]
          exact RepP.put (rs4.fx (Fx.of (msk_mono e5))) k rz
      · refine ⟨(e3.trans e4).trans e5, acc, e5 _ _ ha4, ?_⟩
        rw [tk, List.filterMap_append, List.filterMap_cons_none ho, List.filterMap_nil, List.append_nil]
        exact rs4.fx (Fx.of (msk_mono e5))
    · have e : i = ds.length := by omega
      subst e
      rw [List.take_length] at rs
      refine .inl ⟨it.stop H3 (Kp.of e3), q _ H3 (e2.trans e3) (c.rep.mpr ⟨Da, acc, rfl, .inl ?_, rs.fx (Fx.of (msk_less fun a z => .inl z))⟩)⟩
      rw [msk_at hM]
      exact ha
/-- d[k], there -/
theorem rd_dget {kvs : List (κ × D)} {k : κ} {z : D} (h : vD kvs k = some z) : forall x y H1, Same H H1 -> Rep (msk M H1) (c.md kvs) x -> Rep (msk M H1) (c.kd k) y -> exists a v, x = .ref a ∧ DGet H1 a y (some v) ∧ Rep (msk M H1) z v := fun x y H1 _ rx ry => by
  obtain ⟨a, ws, e, ha, r⟩ := c.rep.mp rx
  rcases r.val k with ⟨h1, _⟩ | ⟨d', v, h1, h2, h3⟩
  · rw [h] at h1
    cases h1
  · rw [h] at h1
    cases h1
    refine ⟨a, v, e, ?_, h3⟩
    rw [← h2]
    exact c.get (c.rk (Fx.of msk_same) ha) (ry.up msk_same)
theorem ev_dget {kvs : List (κ × D)} {k : κ} {z : D} (ha : EvD M ta s H (c.md kvs)) (hb : EvD M tb s H (c.kd k)) (h : vD kvs k = some z) : EvD M (tDGet ta tb) s H z := fun H1 e1 Q q =>
  ha H1 e1 _ fun x H2 e2 rx => hb H2 (e1.trans e2) _ fun y H3 e3 ry => by
    obtain ⟨a, v, e, g, r⟩ := rd_dget (c := c) h x y H3 ((e1.trans e2).trans e3) (rx.up (msk_mono e3)) ry
    exact ⟨a, v, e, g, q v H3 (e2.trans e3) r⟩
theorem rd_inDU {neg : Bool} {kvs : List (κ × D)} {k : κ} : RD M (rInU neg) H (c.kd k) (c.md kvs) (.bl (if neg then !(vD kvs k).isSome else (vD kvs k).isSome)) := fun v w H1 _ rx ry Q q => by
  obtain ⟨a, ws, e, ha, r⟩ := c.rep.mp ry
  refine .inr (.inr ⟨a, valV ws k, e, c.get (c.rk (Fx.of msk_same) ha) (rx.up msk_same), ?_⟩)
  rcases r.val k with ⟨h1, h2⟩ | ⟨d', v, h1, h2, h3⟩
  · rw [h2]
    exact q _ H1 (Same.refl H1) (by rw [h1] <;> rfl)
  · rw [h2]
    exact q _ H1 (Same.refl H1) (by rw [h1] <;> rfl)
/-- d.get(k, x) -/
theorem ev_dget2 {tx : TE} {kvs : List (κ × D)} {k : κ} {z : D} (ha : EvD M ta s H (c.md kvs)) (hb : EvD M tb s H (c.kd k)) (hx : EvD M tx s H z) : EvD M (tDGet2 ta tb tx) s H ((vD kvs k).getD z) := fun H1 e1 Q q =>
  ha H1 e1 _ fun x H2 e2 rx => by
    obtain ⟨a, ws, e, ha, r⟩ := c.rep.mp rx
    refine ⟨a, e, c.isd (c.rk (Fx.of msk_same) ha), hb H2 (e1.trans e2) _ fun y H3 e3 ry => hx H3 ((e1.trans e2).trans e3) _ fun zv H4 e4 rz => ?_⟩
    have ha4 := c.rk (Fx.of (msk_mono (e3.trans e4))) ha
    refine ⟨valV ws k, c.get (c.rk (Fx.of msk_same) ha4) ((ry.up (msk_mono e4)).up msk_same), ?_⟩
    have r4 := r.fx (Fx.of (msk_mono (M := M) (e3.trans e4)))
    rcases r4.val k with ⟨h1, h2⟩ | ⟨d', v, h1, h2, h3⟩
    · rw [h2]
      exact q _ H4 ((e2.trans e3).trans e4) (by rw [h1]; exact rz)
    · rw [h2]
      exact q _ H4 ((e2.trans e3).trans e4) (by rw [h1]; exact h3)
end

/-! ### locks -/
def tLockU (t : TE) : TE := fun σ H Q => tLockE t σ H Q ∨ t σ H Q
theorem pe_lockU {X : Cx} {e : Expr} {t : TE} (h : PE X e t) : PE X e (tLockU t) := by
  have h2 := pe_lock h
  exact ⟨fun pins s σ H Q I w => w.elim (h2.run pins s σ H Q I) (h.run pins s σ H Q I)⟩
section
variable {κ : Type} [DecidableEq κ] {c : KC κ} {K : PySem.W.Frag} {M : MK} {s : L2.St} {H : Hp} {te : TE} {z : D}
/-- under the lock of the dict v -/
theorem ev_lock {kvs : List (κ × D)} {v : V} (m : Mok M H) (hd : Rep (msk M H) (c.md kvs) v)
    (h : forall Hl a od ws, Mok M Hl -> Fx (msk M H) (msk M Hl) -> v = .ref a -> ¬ M a -> Hl a = some (.frz od (c.hk ws)) -> RepP (msk M Hl) kvs ws -> EvD M te s Hl z) : EvD M (tLockU te) s H z := fun H1 e1 Q q => by
  obtain ⟨a, ws, e, ha, r⟩ := c.rep.mp hd
  obtain ⟨nm, ha'⟩ := rd_msk ha
  have m1 := m.up e1
  rcases ha' with h0 | ⟨od, h0⟩
  · have h1 := e1 _ _ h0
    refine .inl ⟨a, c.hk ws, h1, (c.dict ws).mut, fun od => ?_⟩
    have f : Fx (msk M H1) (msk M (upd H1 a (.frz od (c.hk ws)))) := by
      have k := fx_lock (od := od) h1 (c.dict ws)
      exact Fx.msk k fun b z => .inl z
    have fl := (Fx.of (msk_mono (M := M) e1)).trans f
    have ml : Mok M (upd H1 a (.frz od (c.hk ws))) := m1.upd (by intro xs e; cases e)
    refine h _ a od ws ml fl e nm upd_same (r.fx fl) _ (Same.refl _) _ fun y H2 e2 ry => ?_
    have h2 : H2 a = some (.frz od (c.hk ws)) := e2 _ _ upd_same
    refine ⟨h2, q y _ (fun b o hb => ?_) ?_⟩
    · by_cases hba : b = a
      · rw [hba] at hb ⊢
        rw [h1] at hb
        rw [upd_same]
        exact hb
      · rw [upd_ne hba]
        exact e2 _ _ (by rw [upd_ne hba]; exact hb)
    · have k := fx_unlock h2 (c.dict ws)
      exact Rep.fx (Fx.msk k fun b z => .inl z) z ry
  · have h1 := e1 _ _ h0
    refine .inr (h H1 a od ws m1 (Fx.of (msk_mono e1)) e nm h1 (r.fx (Fx.of (msk_mono e1))) _ (Same.refl _) _ fun y H2 e2 ry => q y H2 e2 ry)
/-- a locked dict, walked -/
theorem ia_dict {a : Addr} {od : Obj} (m : Mok M H) {ds : List D} (h : Ev M te s H fun v _ => v = .ref a) (nm : ¬ M a) (hz : (exists ws : List (Key × V), H a = some (.frz od (.dK ws)) ∧ ds = ws.map fun p => kD p.1) ∨ exists ws : List (List Key × V), H a = some (.frz od (.dT ws)) ∧ ds = ws.map fun p => kT p.1) : EvI M (iAny K te) s H ds := fun H1 e R k => h H1 e _ fun v H2 e2 r => by
  rcases hz with ⟨ws, hz, ed⟩ | ⟨ws, hz, ed⟩
  · subst ed
    have h2 := e2 _ _ (e _ _ hz)
    refine .inr (.inr (.inr (.inl ⟨a, od, ws, r, h2, k _ H2 e2 ⟨fun i H f hi => ⟨f.fz h2, by simpa using hi⟩, fun H f => ⟨f.fz h2, by simp⟩, fun i H x H' N f m hn hi y => ?_⟩⟩)))
    obtain ⟨e3, kk, vv, g1, g2⟩ := y
    subst e3 g2
    exact ⟨Same.refl _, kD kk, by rw [List.getElem?_map, g1] <;> rfl, kD_rep kk⟩
  · subst ed
    have h2 := e2 _ _ (e _ _ hz)
    refine .inr (.inr (.inr (.inr ⟨a, od, ws, r, h2, k _ H2 e2 ⟨fun i H f hi => ⟨f.fz h2, by simpa using hi⟩, fun H f => ⟨f.fz h2, by simp⟩, fun i H x H' N f mN hn hi y => ?_⟩⟩)))
    obtain ⟨e3, kk, vv, qa, g1, g2, g3⟩ := y
    subst e3 g2
    exact ⟨Same.refl _, kT kk, by rw [List.getElem?_map, g1] <;> rfl, kT_rep (mN.tup g3)⟩
end
end Ak
/-! Ak 10: what changes; enumerate, zip; the rest of the words. -/
namespace Ak
open PySem PySem.Spec PyProof.Rows L2

/-! ### enumerate of a tuple -/
theorem enum_new1 {v : Value} {o : Obj} {Ok : Heap -> Prop} (B : Begins v o Ok) :
    Meets (Builtin.«enumerate.__new__» ⟨[.type "enumerate", v], []⟩) (fun _ R s => Ok s.heap ∧
      R (.ok (.ret (.ref (s.heap.push o).objs.size))) { s with heap := (s.heap.push o).push { cls := .type "enumerate", data := .fields #[.none, .bool false, .ref s.heap.objs.size, rawInt 0, .none, .none] } }) :=
  .of_wp fun prog w A R s wish => by
    obtain ⟨hh, gg, dd, tt, oo⟩ := s
    obtain ⟨ok, wish⟩ := wish
    have subt := sub_enumerate
    have itr : forall {A' : Around} {E : Value -> Shared -> Prop} {Q : Value -> Shared -> Prop}, Q (.ref hh.objs.size) ⟨hh.push o, gg, dd, tt, oo⟩ -> wpAny (model prog w) A' (pyIter v) Q E ⟨hh, gg, dd, tt, oo⟩ :=
      fun q => B.iter prog w _ _ ⟨hh, gg, dd, tt, oo⟩ _ ok q
    wp_walk using itr
    refine wpAny_stack_any fun st => wpAny_pure ?_
    split
    · rename_i c _ _ _ _ _
      cases (c == Value.type "enumerate")
      · wp_walk using itr
        exact ⟨_, rfl, wish⟩
      · wp_walk using itr
        exact ⟨_, rfl, wish⟩
    · wp_walk using itr
      exact ⟨_, rfl, wish⟩
theorem call_enum1 {prog : Program} {w : World} {A : Around} {E : Value -> Shared -> Prop} {s : Shared} {v : Value} {o : Obj} {Ok : Heap -> Prop} {Q : Value -> Shared -> Prop} (B : Begins v o Ok) (ok : Ok s.heap)
    (h : forall h', IsEnum h' (s.heap.objs.size + 1) s.heap.objs.size 0 .none -> h'.get? s.heap.objs.size = some o -> (forall b ob, s.heap.get? b = some ob -> h'.get? b = some ob) -> Q (.ref (s.heap.objs.size + 1)) { s with heap := h' }) :
    wpAny (model prog w) A (call (.type "enumerate") [v]) Q E s := by
  refine callType_new F.called_enumerate (by decide) (F.typeCall_enumerate_1 _) (F.newCall_enumerate_1 _) (fun obj => F.args_object_init_2 obj _) F.entry_enumerate_new (enum_new1 B) ⟨ok, ?_⟩
  have sz : (s.heap.push o).objs.size = s.heap.objs.size + 1 := Heap.size_push ..
  have there := Heap.get?_push_size (s.heap.push o) (o := { cls := .type "enumerate", data := .fields #[.none, .bool false, .ref s.heap.objs.size, rawInt 0, .none, .none] }) rfl
  show _ ∧ _
  rw [sz] at there ⊢
  exact ⟨⟨_, there, rfl⟩, h _ there (Heap.get?_push_of_some _ (Heap.get?_push_size _ B.free)) fun b ob x => Heap.get?_push_of_some _ (Heap.get?_push_of_some _ x)⟩
def IteT (K : PySem.W.Frag) (a : Addr) : It :=
  ⟨fun i H => exists (xs : List V) (x : V), SqT K H a xs ∧ xs[i]? = some x, fun i H v H' => exists T x, v = .ref T ∧ H T = none ∧ H' = upd H T (.tup [.int (i : Nat), x]) ∧ forall xs, SqT K H a xs -> xs[i]? = some x, fun i H => exists xs : List V, SqT K H a xs ∧ xs.length = i⟩
theorem turn_enumT {P : Program} {w : World} {K : PySem.W.Frag} {elts : List Expr} {kk : Nat} {tpos : Pos} (a e it : Addr) :
    Turn P w K (.Tuple elts kk tpos) (IteT K a) [e, it] e (fun i h => (exists old, IsEnum h e it ((i : Nat) : Int) old) ∧ h.IsTupleIter it a i ∧ e ≠ it) where
  mem := List.mem_cons_self
  obj := fun i h st b hb => by
    obtain ⟨⟨old, he⟩, ⟨o, ho, hc, hd⟩, _⟩ := st
    rcases List.mem_cons.mp hb with z | z
    · rw [z]
      exact ⟨_, he, fun v q => nomatch q⟩
    · rw [List.mem_singleton.mp z]
      exact ⟨o, ho, fun v q => by rw [hd] at q; cases q⟩
  keep := fun i h h' st k => by
    obtain ⟨⟨old, he⟩, hi, hne⟩ := st
    exact ⟨⟨old, k e (by simp) _ he⟩, hi.at fun o q => k it (by simp) o q, hne⟩
  item := by
    intro X eP ew eK hc i pins s σ H E I hf st hg
    subst eP ew eK
    obtain ⟨⟨old, he⟩, hit, hne⟩ := st
    obtain ⟨xs, x, hq, hx⟩ := hg
    obtain ⟨its, rv, p, hz⟩ := I.tuple hq
    obtain ⟨u, hu, ru⟩ := rv.get hx
    have lte : e < s.heap.objs.size := Heap.lt_size he
    have lti : it < s.heap.objs.size := by
      obtain ⟨_, q, _⟩ := hit
      exact Heap.lt_size q
    have hta : a ≠ it := by
      rintro rfl
      obtain ⟨o1, g1, c1, _⟩ := p
      obtain ⟨o2, g2, c2, _⟩ := hit
      rw [g1] at g2
      cases g2
      rw [c1] at c2
      injection c2 with c3
      exact absurd c3 (by decide)
    have hea : e ∉ [it, a] := by
      intro z
      rcases List.mem_cons.mp z with z | z
      · exact hne z
      · rw [List.mem_singleton.mp z] at he
        obtain ⟨o1, g1, c1, _⟩ := p
        rw [he] at g1
        cases g1
        injection c1 with c3
        exact absurd c3 (by decide)
    have hlt : i < its.toArray.size := by
      have hl := (List.getElem?_eq_some_iff.mp hu).1
      simpa using hl
    refine wpAny_pyNext_enum_itemD (Draws.tuple (A := X.A.in1) (I.ok.hd hc) it a hta its.toArray) he ⟨hit, p⟩ hlt hne hea fun y h' tk hy ho hst hT hsz hk => ?_
    have ey : y = u := by
      have h1 : its.toArray[i]? = some u := by simpa using hu
      exact Option.some.inj (hy.symm.trans h1)
    subst ey
    refine ⟨_, rfl, wpAny_letOwnedTupleGo_enum (s := { s with heap := h', toks := tk + 1 }) ho fun h'' he' sb => ?_⟩
    have hT2 : h''.get? s.heap.objs.size = some { cls := .type "tuple", data := .seq #[.int i tk, y] } := (sb.2 _ (Nat.ne_of_gt lte)).trans hT
    have made : ObjOk X.prog X.w (upd H s.heap.objs.size (.tup [.int (i : Nat), x])) h'' s.heap.objs.size (.tup [.int (i : Nat), x]) := by
      refine ⟨?_, [.int i tk, y], .cons ⟨_, rfl⟩ (.cons ru .nil), ⟨_, hT2, rfl, _, rfl⟩⟩
      rw [sizeLine_eq]
      show 2 ≤ 16777216
      decide
    have stays : forall b ob, b ∉ [e, it] -> s.heap.get? b = some ob -> h''.get? b = some ob := by
      intro b ob hb q
      have nb : b ≠ e ∧ b ≠ it := by
        constructor
        · rintro rfl
          exact hb (by simp)
        · rintro rfl
          exact hb (by simp)
      exact (sb.2 b nb.1).trans (hk b ob nb.1 nb.2 q)
    refine ⟨.ref s.heap.objs.size, _, I.turnedNew (ch := [e, it]) (t' := tk + 1) stays hf (Nat.le_refl _) made, rfl, ⟨_, x, rfl, I.hok.fresh (Nat.le_refl _), rfl, fun ys hy => by rw [I.tuple_inj hy hq]; exact hx⟩, ⟨⟨y, ?_⟩, hst.1.at fun o q => (sb.2 it (Ne.symm hne)).trans q, hne⟩, fun b hb => ?_⟩
    · rw [show ((i + 1 : Nat) : Int) = (i : Int) + 1 from by omega]
      exact he'
    · have lb : b < s.heap.objs.size := by
        rcases List.mem_cons.mp hb with z | z
        · rw [z]
          exact lte
        · rw [List.mem_singleton.mp z]
          exact lti
      exact (upd_ne (Nat.ne_of_lt lb)).trans (hf b hb).1
  done := by
    intro X eP ew eK hc i pins s σ H E I hf st hg
    subst eP ew eK
    obtain ⟨⟨old, he⟩, hit, hne⟩ := st
    obtain ⟨xs, hq, hx⟩ := hg
    obtain ⟨its, rv, p, hz⟩ := I.tuple hq
    obtain ⟨f0, f1, f2, f3, f4, f5⟩ := hf it (by simp)
    have hta : a ≠ it := by
      rintro rfl
      obtain ⟨o1, g1, c1, _⟩ := p
      obtain ⟨o2, g2, c2, _⟩ := hit
      rw [g1] at g2
      cases g2
      rw [c1] at c2
      injection c2 with c3
      exact absurd c3 (by decide)
    have hn : its.toArray.size = i := by
      rw [List.size_toArray, ← rv.length]
      exact hx
    subst hn
    exact wpAny_pyNext_enum_endD (Draws.tuple (A := X.A.in1) (I.ok.hd hc) it a hta its.toArray) he ⟨hit, p⟩ fun h' eb => ⟨rfl, I.turned (t' := s.toks) (fun b o hb q => eb b o hb q) f0 f1 f3 f4 f5⟩
  self := fun A i s Q E st h => by
    obtain ⟨⟨_, he⟩, _⟩ := st
    exact wpAny_pyIter_enum he h
def iEnumU (K : PySem.W.Frag) (ta : TA) : TI := fun σ H R => iEnum K ta σ H R ∨ ta σ H fun vs H1 => exists a xs, vs = [.ref a] ∧ SqT K H1 a xs ∧ R (IteT K a) H1
theorem pi_enumU {X : Cx} {e : Expr} {ta : TA} {p pos tpos : Pos} {elts : List Expr} {kk : Nat} (hg : Gl X "enumerate") (hm : X.mg "enumerate" = none) (ha : PA X [e] ta) (hs : starEach [e] X.env = [(false, eval e X.env)] := by rfl) :
    PI X (.Tuple elts kk tpos) (.Call (.Name "enumerate" p) [e] [] pos) (iEnumU X.K ta) := by
  have lists := pi_enum (tpos := tpos) (elts := elts) (kk := kk) (p := p) (pos := pos) hg hm ha hs
  refine ⟨fun pins s σ H R I h => ?_⟩
  rcases h with h | h
  · exact lists.run pins s σ H R I h
  · refine Call_ (ld_blt I hg hm boot_enumerate (PyProof.Rows.callWith_type1 (thn (ha.run pos pins s σ H _ I h) fun us s1 ⟨vs, H1, I1, r1, q1⟩ => ?_) hs rfl))
    obtain ⟨a, xs, ex, hq, q⟩ := q1
    subst ex
    obtain ⟨u, eu, r⟩ := vals1 r1
    subst eu
    cases r
    obtain ⟨its, rv, p', hz⟩ := I1.tuple hq
    have tup : s1.heap.IsTuple a its.toArray := p'
    refine call_enum1 (begins_tuple a its.toArray) tup fun h' he hit hk => wpAny_pyIter_enum he ?_
    have I2 : Inv X pins σ H1 { s1 with heap := h' } := I1.kept (t' := s1.toks) hk
    refine ⟨s1.heap.objs.size + 1, [s1.heap.objs.size + 1, s1.heap.objs.size], _, _, H1, rfl, I2, turn_enumT a (s1.heap.objs.size + 1) s1.heap.objs.size, ⟨⟨.none, he⟩, ⟨_, hit, rfl, rfl⟩, Nat.succ_ne_self _⟩, fun b hb => ?_, q⟩
    have hle : s1.heap.objs.size ≤ b := by
      rcases List.mem_cons.mp hb with z | z
      · rw [z]
        exact Nat.le_succ _
      · rw [List.mem_singleton.mp z]
        exact Nat.le_refl _
    exact I1.fpOk hle (I1.hok.fresh hle)
end Ak
/-! Ak 11: the words' readings as data. -/
namespace Ak
open PySem PySem.Spec PyProof.Rows L2

section
variable {K : PySem.W.Frag} {M : MK} {s : L2.St} {H : Hp} {ta tb tc te : TE} {tr : TA} {ds es : List D} {d e z : D} {E : Ends}
/-! ### enumerate, zip -/
theorem ei_enumU {tr : TA} (h : EvDs M tr s H [d]) (hi : d = .lst ds ∨ d = .tup ds) : EvI M (iEnumU K tr) s H (enumD ds) := fun H1 e R k => by
  rcases hi with hi | hi
  · subst hi
    exact .inl (ei_enum h H1 e R k)
  · subst hi
    refine .inr (h H1 e _ fun vs H2 e2 r => ?_)
    obtain ⟨x, xs, ev, rx, r0⟩ := r
    have e4 : xs = [] := r0
    obtain ⟨a, ys, ea, ha, rs⟩ := rx
    have ha2 := msk_same _ _ ha
    subst e4 ea
    refine ⟨a, ys, ev, SqT.of ha2, k _ H2 e2 ⟨fun i H f hi => ?_, fun H f => ?_, fun i H x H' N f m hn hi y => ?_⟩⟩
    · rw [enumD_len] at hi
      have hl : i < ys.length := by rw [rs.len]; exact hi
      exact ⟨ys, ys[i], SqT.of (f.tup ha), by simp [hl]⟩
    · rw [enumD_len]
      exact ⟨ys, SqT.of (f.tup ha), rs.len⟩
    · obtain ⟨T, z, e5, hT, e6, hz⟩ := y
      subst e5 e6
      obtain ⟨d, h1, h2⟩ := rs.get (hz ys (SqT.of (f.tup ha)))
      exact ⟨same_new hT, _, enumD_at h1, rep_new2 m hT rfl (h2.fx (f.msk hn))⟩
theorem ia_seq (h : EvD M te s H d) (hi : d = .lst ds ∨ d = .tup ds) : EvI M (iAny K te) s H ds := by
  rcases hi with rfl | rfl
  · exact ia_list h
  · exact ia_tup h
/-- pairs, one behind the other -/
def zipD (ds es : List D) : List D := (ds.zip es).map fun p => .tup [p.1, p.2]
theorem zipD_at {i : Nat} {a b : D} (h1 : ds[i]? = some a) (h2 : es[i]? = some b) : (zipD ds es)[i]? = some (.tup [a, b]) := by
  unfold zipD
  have h : (ds.zip es)[i]? = some (a, b) := List.getElem?_zip_eq_some.mpr ⟨h1, h2⟩
  rw [List.getElem?_map, h] <;> rfl
theorem zipD_len : (zipD ds es).length = min ds.length es.length := by unfold zipD; rw [List.length_map, List.length_zip]
/-- a tuple, and a written one -/
theorem ei_zipK {b : Addr} {ys : List V} (h : EvDs M tr s H [.tup ds, .oth (.ref b)]) (hb : forall G, SqT K G b ys) (hy : forall G, Reps G es ys) (hl : ds.length = es.length) : EvI M (RZ.iZipA K tr) s H (zipD ds es) := fun H1 e R k => h H1 e _ fun vs H2 e2 r => by
  obtain ⟨x, xs, ev, rx, x2, xs2, ev2, rx2, r0⟩ := r
  have e4 : xs2 = [] := r0
  have e5 : x2 = V.ref b := rx2
  obtain ⟨a, zs, ea, ha, rs⟩ := rx
  have ha2 := msk_same _ _ ha
  subst e4 ea e5 ev2
  have hyl : ys.length = es.length := (hy H2).len
  have hlen : (zipD ds es).length = zs.length := by
    rw [zipD_len, rs.len, hl]
    omega
  refine ⟨a, b, zs, ys, ev, .inr ⟨SqT.of ha2, hb _, k _ H2 e2 ⟨fun i H f hi => ?_, fun H f => ?_, fun i H x H' N f m hn hi y => ?_⟩⟩⟩
  · rw [hlen] at hi
    have hi2 : i < ys.length := by rw [hyl, ← hl, ← rs.len]; exact hi
    exact ⟨zs, ys, zs[i], ys[i], SqT.of (f.tup ha), hb _, by simp [hi], by simp [hi2]⟩
  · exact ⟨zs, ys, SqT.of (f.tup ha), hb _, .inl (by rw [hlen]; exact Nat.le_refl _)⟩
  · obtain ⟨T, p, q, e5, hT, e6, h1, h2⟩ := y
    subst e5 e6
    obtain ⟨d1, g1, g2⟩ := rs.get (h1 zs (SqT.of (f.tup ha)))
    obtain ⟨d2, g3, g4⟩ := (hy (msk N H)).get (h2 ys (hb _))
    exact ⟨same_new hT, _, zipD_at g1 g3, rep_new2 m hT (g2.fx (f.msk hn)) g4⟩
/-! ### a class's own constant -/
theorem ev_con {C : Addr} {f : Str} {fs : List (Str × D)} {v : V} {u : Value} (h : EvD M ta s H (.ins C fs)) (c : Cls K C) (k : Con K C f v u) (l : fs.lookup f = none) : EvD M (tCon K ta f) s H (.oth v) := fun H1 e1 Q q =>
  h H1 e1 _ fun x H2 e2 r => by
    obtain ⟨a, dx, vs, ev, ha, rf⟩ := r
    exact ⟨a, C, dx, vs, v, u, ev, msk_same _ _ ha, c, k, rf.none l, q v H2 e2 rfl⟩
/-! ### displays with a star -/
theorem ea_star {tr : TA} (h : EvD M te s H d) (hd : d = .lst ds ∨ d = .tup ds) (hr : EvDs M tr s H es) : EvDs M (StX.tStar K te tr) s H (ds ++ es) := fun H1 e1 Q q =>
  h H1 e1 _ fun x H2 e2 rx => by
    have key : exists p xs, x = V.ref p ∧ (SqT K H2 p xs ∨ SqL K H2 p xs) ∧ Reps (msk M H2) ds xs := by
      rcases hd with hd | hd
      · subst hd
        obtain ⟨a, xs, ea, ha, rs⟩ := rx
        exact ⟨a, xs, ea, .inr (SqL.of (msk_same _ _ ha)), rs⟩
      · subst hd
        obtain ⟨a, xs, ea, ha, rs⟩ := rx
        exact ⟨a, xs, ea, .inl (SqT.of (msk_same _ _ ha)), rs⟩
    obtain ⟨p, xs, ex, hq, rs⟩ := key
    exact ⟨p, xs, ex, hq, hr H2 (e1.trans e2) _ fun ys H3 e3 rr => q (xs ++ ys) H3 (e2.trans e3) (Reps.app (rs.up (msk_mono e3)) rr)⟩
/-! ### displays of any number -/
theorem ev_tupB {tr : TA} (m : Mok M H) (h : EvDs M tr s H ds) (hz : ds.length ≤ sizeLine) : EvD M (tTup tr) s H (.tup ds) := fun H1 e1 Q q =>
  h H1 e1 _ fun xs H2 e2 rs => ⟨by rw [rs.len]; exact hz, fun p hp => q (.ref p) _ (e2.trans (same_new hp)) ⟨p, xs, rfl, msk_new ((m.up e1).up e2) hp, rs.up (msk_mono (same_new hp))⟩⟩
/-! ### list(range(n)) -/
theorem rgV_reps {G : Hp} (a b : Int) : Reps G (rngD a (b - a).toNat) (rgV a b) := by
  have go : forall (l : List Nat), Reps G (l.map fun (i : Nat) => D.int (a + (i : Int))) (l.map fun (i : Nat) => V.int (a + (i : Int))) := by
    intro l
    induction l with
    | nil => exact rfl
    | cons i l ih => exact ⟨_, _, rfl, rfl, ih⟩
  exact go _
theorem ev_lrg {n : Int} (m : Mok M H) (h : EvD M te s H (.int n)) (h0 : 0 ≤ n) (h1 : n ≤ 16777216) : EvD M (tLstRg (tRg1 te)) s H (.lst (rngD 0 n.toNat)) := fun H1 e1 Q q =>
  h H1 e1 _ fun x H2 e2 rx => ⟨n, rx, RgOk.of_le (by omega) h1 (by omega) h0, fun p hp => q _ _ (e2.trans (same_new hp)) ⟨p, _, rfl, msk_new ((m.up e1).up e2) hp, by
    have r := rgV_reps (G := msk M (upd H2 p (.lst (rgV 0 n)))) 0 n
    rw [show (n - 0) = n from by omega] at r
    exact r⟩⟩
/-! ### slices -/
theorem ev_sl {tl th : TO} {lo hi : Option Int} (m : Mok M H) (h : EvD M te s H (.lst ds)) (hl : forall H1, Same H H1 -> forall Q : Option Int -> Hp -> Prop, (forall H2, Same H1 H2 -> Q lo H2) -> tl s H1 Q) (hh : forall H1, Same H H1 -> forall Q : Option Int -> Hp -> Prop, (forall H2, Same H1 H2 -> Q hi H2) -> th s H1 Q) :
    EvD M (tSl (rSlL K) te tl th) s H (.lst (cutD ds lo hi)) := fun H1 e1 Q q => h H1 e1 _ fun x H2 e2 rx => hl H2 (e1.trans e2) _ fun H3 e3 => hh H3 ((e1.trans e2).trans e3) _ fun H4 e4 => by
  obtain ⟨a, xs, ea, ha, rs⟩ := rx
  have e24 := e3.trans e4
  refine ⟨a, xs, ea, SqL.of (e24 _ _ (msk_same _ _ ha)), fun p hp => q _ _ ((e2.trans e24).trans (same_new hp)) ⟨p, _, rfl, msk_new (m.up (((e1.trans e2).trans e3).trans e4)) hp, ?_⟩⟩
  exact Reps.cutV (rs.up (msk_mono (e24.trans (same_new hp)))) lo hi
theorem eo_none : forall H1, Same H H1 -> forall Q : Option Int -> Hp -> Prop, (forall H2, Same H1 H2 -> Q none H2) -> tNoPart s H1 Q := fun H1 _ Q q => q H1 (Same.refl H1)
theorem eo_some {i : Int} (h : EvD M te s H (.int i)) : forall H1, Same H H1 -> forall Q : Option Int -> Hp -> Prop, (forall H2, Same H1 H2 -> Q (some i) H2) -> tPart te s H1 Q := fun H1 e Q q => h H1 e _ fun x H2 e2 rx => ⟨i, rx, q H2 e2⟩
theorem ev_rev (m : Mok M H) (h : EvD M te s H (.lst ds)) : EvD M (tRevL K te) s H (.lst ds.reverse) := fun H1 e1 Q q => h H1 e1 _ fun x H2 e2 rx => by
  obtain ⟨a, xs, ea, ha, rs⟩ := rx
  refine ⟨a, xs, ea, SqL.of (msk_same _ _ ha), fun p hp => q _ _ (e2.trans (same_new hp)) ⟨p, _, rfl, msk_new ((m.up e1).up e2) hp, ?_⟩⟩
  have go : forall {G : Hp} {ds : List D} {xs : List V}, Reps G ds xs -> Reps G ds.reverse xs.reverse := by
    intro G ds
    induction ds with
    | nil => intro xs h; rw [show xs = [] from h]; exact rfl
    | cons d ds ih =>
      rintro xs ⟨x, ys, e, h, r⟩
      rw [e, List.reverse_cons, List.reverse_cons]
      exact Reps.app (ih r) (Reps.one h)
  exact go (rs.up (msk_mono (same_new hp)))
/-! ### chains of comparisons of whole numbers -/
theorem ev_chain {r r' : R2} {a b : Bool} (ha : EvD M ta s H d) (hb : EvD M tb s H e) (hc : a = true -> EvD M tc s H z) (h1 : RD M r H d e (.bl a)) (h2 : a = true -> RD M r' H e z (.bl b)) (h3 : a = false -> b = false) : EvD M (tChain r r' ta tb tc) s H (.bl b) := fun H1 e1 Q q =>
  ha H1 e1 _ fun x H2 e2 rx => hb H2 (e1.trans e2) _ fun y H3 e3 ry => h1 x y H3 ((e1.trans e2).trans e3) (rx.up (msk_mono e3)) ry _ fun v H4 e4 rv => ⟨a, rv, by
    cases a with
    | true => exact iteT (hc rfl H4 (((e1.trans e2).trans e3).trans e4) _ fun w H5 e5 rw' => h2 rfl y w H5 ((((e1.trans e2).trans e3).trans e4).trans e5) (ry.up (msk_mono (e4.trans e5))) rw' Q fun u H6 e6 ru => q u H6 ((((e2.trans e3).trans e4).trans e5).trans e6) ru)
    | false => exact iteF (q _ H4 ((e2.trans e3).trans e4) (by rw [h3 rfl]; rfl))⟩
/-! ### whole numbers -/
theorem rd_lt {i j : Int} : RD M (rI0 fun i j => .bl (decide (i < j))) H (.int i) (.int j) (.bl (decide (i < j))) := rd_I0 fun _ => rfl
theorem rd_le {i j : Int} : RD M (rI0 fun i j => .bl (decide (i ≤ j))) H (.int i) (.int j) (.bl (decide (i ≤ j))) := rd_I0 fun _ => rfl
theorem rd_gt {i j : Int} : RD M (rI0 fun i j => .bl (decide (j < i))) H (.int i) (.int j) (.bl (decide (j < i))) := rd_I0 fun _ => rfl
theorem rd_ge {i j : Int} : RD M (rI0 fun i j => .bl (decide (j ≤ i))) H (.int i) (.int j) (.bl (decide (j ≤ i))) := rd_I0 fun _ => rfl
theorem rd_sub {i j : Int} : RD M (rI0 fun i j => .int (i - j)) H (.int i) (.int j) (.int (i - j)) := rd_I0 fun _ => rfl
theorem rd_mod {i j : Int} (h : 0 < j) : RD M (rI (fun _ j => 0 < j) fun i j => .int (i % j)) H (.int i) (.int j) (.int (i % j)) := rd_I h fun _ => rfl
theorem rd_fdiv {i j : Int} (h : CDivW i j) : RD M (rI CDivW fun i j => .int (i / j)) H (.int i) (.int j) (.int (i / j)) := rd_I h fun _ => rfl
theorem rd_mulW {i j : Int} (h : CMulW i j) : RD M (rI CMulW fun i j => .int (i * j)) H (.int i) (.int j) (.int (i * j)) := rd_I h fun _ => rfl
theorem rd_pow {i j : Int} (h : CPow i j) : RD M (rI CPow fun i j => .int (i ^ j.toNat)) H (.int i) (.int j) (.int (i ^ j.toNat)) := rd_I h fun _ => rfl
theorem ev_neg {i : Int} (h : EvD M te s H (.int i)) : EvD M (tUn (rU fun i => .int (-i)) te) s H (.int (-i)) := fun H1 e1 Q q => h H1 e1 _ fun x H2 e2 rx => ⟨i, rx, q _ H2 e2 rfl⟩
theorem ev_int1 {i : Int} {tr : TA} (h : EvDs M tr s H [.int i]) : EvD M (tCB (fun xs H Q => (exists i, xs = [.int i] ∧ Q (.int i) H) ∨ exists k, xs = [.bl k] ∧ Q (.int (if k then 1 else 0)) H) tr) s H (.int i) := ev_cb h fun vs H1 e1 rs Q q => by
  obtain ⟨x, xs, ev, rx, r0⟩ := rs
  have e4 : xs = [] := r0
  have e5 : x = V.int i := rx
  subst e4 ev e5
  exact .inl ⟨i, rfl, q _ H1 (Same.refl H1) rfl⟩
/-! ### what changes -/
/-- xs.append(e) -/
theorem st_append {i : Nat} {p : Addr} {xs : List V} (hv : s[i]? = some (some (.ref p))) (hp : H p = some (.lst xs)) (hz : xs.length < sizeLine) (he : EvD M te s H d)
    (k : forall y H2, Same H H2 -> Rep (msk M H2) d y -> E.nx s (upd H2 p (.lst (xs ++ [y])))) : tDrop (tBM K "list" rAppend (tVar i) (tCons te tNil)) E s H :=
  ⟨_, hv, .inl ⟨rfl, xs, SqL.of hp⟩, he H (Same.refl H) _ fun y H2 e2 ry => ⟨p, xs, y, rfl, rfl, e2 _ _ hp, hz, k y H2 e2 ry⟩⟩
/-- one = xs.pop() -/
theorem st_pop {i j : Nat} {p : Addr} {xs : List V} {y : V} (hv : s[i]? = some (some (.ref p))) (hp : H p = some (.lst (xs ++ [y]))) (k : E.nx (s.set j (some y)) (upd H p (.lst xs))) : tAsg (tBM0 K "list" rPop (tVar i)) (gName j) E s H := by
  refine ⟨_, hv, .inl ⟨rfl, _, SqL.of hp⟩, p, xs ++ [y], y, rfl, rfl, hp, by simp, ?_⟩
  rw [List.dropLast_concat]
  exact k
/-- d[k] = v, d a dict of one's own -/
theorem st_dput {κ : Type} [DecidableEq κ] (c : KC κ) {i : Nat} {p : Addr} {ws : List (κ × V)} {k : κ} (hv : s[i]? = some (some (.ref p))) (hp : H p = some (c.hk ws)) (hz : ws.length < sizeLine) (hval : EvD M ta s H d) (hk : EvD M tb s H (c.kd k))
    (kk : forall y H2, Same H H2 -> Rep (msk M H2) d y -> E.nx s (upd H2 p (c.hk (putK ws k y)))) : sDPut (tVar i) tb ta E s H :=
  hval H (Same.refl H) _ fun y H2 e2 ry => ⟨_, hv, hk H2 e2 _ fun z H3 e3 rz => ⟨p, _, rfl, c.put (e3 _ _ (e2 _ _ hp)) (rz.up msk_same) hz, kk y H3 (e2.trans e3) (ry.up (msk_mono e3))⟩⟩
end
/-! ### draw[1] += 1 -/
def rGetL (K : PySem.W.Frag) : V -> V -> Hp -> VK -> Prop := fun o i H Q => exists p xs k v, o = .ref p ∧ i = .int k ∧ SqL K H p xs ∧ 0 ≤ k ∧ xs[k.toNat]? = some v ∧ Q v H
theorem pget_list {X : Cx} : PGet X (rGetL X.K) := by
  intro pins s σ H o i ov iv Q I ro ri h
  obtain ⟨p, xs, k, v, eo, ei, hq, h0, hx, q⟩ := h
  subst eo ei
  cases ro
  obtain ⟨t, rfl⟩ := ri
  obtain ⟨its, r, pl, hz⟩ := I.list hq
  obtain ⟨u, hu, ru⟩ := r.get hx
  have hl : k.toNat < its.length := (List.getElem?_eq_some_iff.mp hu).1
  have hlen := r.length
  refine wpAny_getItem_list pl.isList h0 ?_ (by simpa using hu) ⟨v, H, I, ru, q⟩
  rw [sizeLine_eq] at hz
  omega
/-- d.setdefault(y, z) -/
def tDSetU (td ty tx : TE) : TE := fun σ H Q => td σ H fun x H1 => exists a, x = .ref a ∧ IsD H1 a ∧ ty σ H1 fun y H2 => tx σ H2 fun z H3 => exists o, DGet H3 a y o ∧ (forall v, o = some v -> Q v H3) ∧ (o = none -> exists H4, DPut H3 a y z H4 ∧ Q z H4)
section
variable {X : Cx} {pins : List (Addr × Obj)} {σ : L2.St} {H H' : Hp} {s : Shared} {E : Value -> Shared -> Prop}
theorem setd_any {a : Addr} {y z : V} {u r : Value} {o : Option V} {Q : Value -> Shared -> Prop} (hu : X.A.units + 1 < cLine) (I : Inv X pins σ H s) (g : DGet H a y o) (ry : RelV y u) (rz : RelV z r)
    (h1 : forall v, o = some v -> forall w' s', Inv X pins σ H s' -> RelV v w' -> Q w' s') (h2 : o = none -> exists H', DPut H a y z H' ∧ forall w' s', Inv X pins σ H' s' -> RelV z w' -> Q w' s') :
    wpAny (model X.prog X.w) X.A (call (.builtin "dict.setdefault") [.ref a, u, r]) Q E s := by
  rcases g with ⟨kvs, k, e, ey, l⟩ | ⟨kvs, k, b, e, ey, eb, l⟩
  · subst ey l
    by_cases hn : valV kvs k = none
    · obtain ⟨H', hp, hq⟩ := h2 hn
      rcases hp with ⟨kvs', k', e', ey', hl, eH⟩ | ⟨kvs', k', b', e', ey', _, _, _⟩
      · have ek : kvs' = kvs ∧ k' = k := by
          constructor
          · rcases e with e | ⟨ob, e⟩
            · rw [e'] at e
              cases e
              rfl
            · rw [e'] at e
              cases e
          · cases k <;> cases k' <;> cases ey' <;> rfl
        obtain ⟨rfl, rfl⟩ := ek
        subst eH
        exact d_setd I e' ry rz hl (fun v hv => by rw [hn] at hv; cases hv) fun _ w' s' I' rw' => hq w' s' I' rw'
      · exfalso
        cases k <;> cases ey'
    · obtain ⟨v, hv⟩ : exists v, valV kvs k = some v := by
        cases q : valV kvs k with
        | none => exact absurd q hn
        | some v => exact ⟨v, rfl⟩
      obtain ⟨zl, lo, vs, rel, dd⟩ := dk_rd I.hok e
      refine call_meetsIn PySem.F.slot_dict_setdefault dd.typeIs PySem.F.entry_dict_setdefault (PySem.F.args_dict_setdefault_3 _ _ _) (kt_meets_setdefault (mixKind X.prog X.w) a (kV_is ry) lo r) ⟨vs, dd, by rw [← rel.length]; exact zl, fun w hw => ?_, fun hw => ?_⟩
      · have q := rel.val k
        rw [hw, hv] at q
        exact h1 v hv _ _ (I.tok _) q
      · have q := rel.val k
        rw [hw, hv] at q
        exact (show False from q).elim
  · subst ey l
    obtain rfl : u = Value.ref b := ry
    obtain ⟨zl, lo, xs, rel, dd⟩ := dt_rd I.hok e
    have hz : xs.length ≤ sizeLine := by rw [← Paired.length rel]; exact zl
    have rk := rel.val k
    refine call_setdefault_heap (hsz := hz) (tupleKind_room_in1 hu) (key_of I.hok eb) lo dd (fun p hp => ?_) fun hno h' dd' hs => ?_
    · rw [hp] at rk
      cases q : valV kvs k with
      | none =>
        rw [q] at rk
        exact (show False from rk).elim
      | some v =>
        rw [q] at rk
        exact h1 v q _ _ (I.tok _) rk
    · rw [hno] at rk
      cases q : valV kvs k with
      | some v =>
        rw [q] at rk
        exact (show False from rk).elim
      | none =>
        obtain ⟨H', hp, hq⟩ := h2 q
        rcases hp with ⟨kvs', k', e', ey', _, _⟩ | ⟨kvs', k', b', e', ey', eb', hl, eH⟩
        · exfalso
          cases k' <;> cases ey'
        · cases ey'
          have e1 : kvs' = kvs := by
            rcases e with e | ⟨ob, e⟩
            · rw [e'] at e
              cases e
              rfl
            · rw [e'] at e
              cases e
          subst e1
          have e2 : k' = k := by
            rw [eb] at eb'
            have e3 : k.map kV = k'.map kV := by injection (Option.some.inj eb')
            have inj : forall {l m : List Key}, l.map kV = m.map kV -> l = m := by
              intro l
              induction l with
              | nil =>
                intro m h
                cases m with
                | nil => rfl
                | cons _ _ => cases h
              | cons x l ih =>
                intro m h
                cases m with
                | nil => cases h
                | cons y m =>
                  rw [List.map_cons, List.map_cons] at h
                  injection h with h1 h2
                  rw [ih h2]
                  congr 1
                  cases x <;> cases y <;> cases h1 <;> rfl
            exact (inj e3).symm
          subst e2 eH
          have hl2 := length_putK kvs' k' z
          obtain ⟨ob, es, ep, g1, g2, g3, g4, _, g6⟩ := dd'
          have mu : Mut (H a) := by
            rw [e']
            exact True.intro
          exact hq _ _ (d_write I mu hs ⟨ob, g1⟩ ⟨by omega, lo, _, (rel.put k' eb rz).keeps fun c ys ec => (upd_ne (ne_of ec e' fun z => nomatch z)).trans ec, ob, es, ep, g1, g2, g3, g4, g6⟩) rz
theorem pe_dsetU {o e f : Expr} {td ty tx : TE} {apos cpos : Pos} (hu : X.A.units + 1 < cLine) (ho : PE X o td) (he : PE X e ty) (hf : PE X f tx) (m : M2 X o "setdefault" apos e f cpos) : PE X (.Call (.Attribute o "setdefault" apos) [e, f] [] cpos) (tDSetU td ty tx) := by
  refine ⟨fun pins s σ H Q I wish => ?_⟩
  refine wpAny_Call_method m.base m.few m.line PySem.F.plainAttrs_dict PySem.F.slot_dict_setdefault PySem.F.type_dict_setdefault (thn (ho.run pins s σ H _ I wish) fun u s1 got => ?_)
  obtain ⟨x, H1, I1, rx, a, ex, isd, rest⟩ := got
  subst ex
  obtain rfl : u = Value.ref a := rx
  obtain ⟨t1, t2, _⟩ := isD_at I1 isd
  refine ⟨t1, t2, ?_⟩
  rw [m.trees]
  refine Calls.callWith_builtin rfl (Calls.evalArgs_plain (Calls.spliced_cons (thn (he.run pins s1 σ H1 _ I1 rest) fun iv s2 got2 => ?_)))
  obtain ⟨y, H2, I2, ry, rest2⟩ := got2
  refine Calls.spliced_cons (thn (hf.run pins s2 σ H2 _ I2 rest2) fun fv s3 got3 => Calls.spliced_nil ?_)
  obtain ⟨z, H3, I3, rz, ov, g, k1, k2⟩ := got3
  refine setd_any hu I3 g ry rz (fun v ev w' s4 I4 rw' => ⟨v, _, I4, rw', k1 v ev⟩) fun en => ?_
  obtain ⟨H4, hp, q⟩ := k2 en
  exact ⟨H4, hp, fun w' s4 I4 rw' => ⟨z, _, I4, rw', q⟩⟩
end
end Ak
/-! Ak 12: short words for the walks. -/
namespace Ak
open PySem PySem.Spec PyProof.Rows L2

mutual
/-- data of everyday size -/
def D.fi : D -> Bool
  | .non => true
  | .bl _ => true
  | .int _ => true
  | .str x => decide (x.length ≤ 10000)
  | .tup ds => decide (ds.length ≤ 100000) && D.fis ds
  | .lst ds => decide (ds.length ≤ 100000) && D.fis ds
  | _ => false
def D.fis : List D -> Bool
  | [] => true
  | d :: ds => d.fi && D.fis ds
end
theorem kp_updN {M : MK} {H H' : Hp} (k : Kp M H H') {p : Addr} {o : HO} (hn : H p = none) : Kp M H (upd H' p o) := by
  have go : forall {a : Addr} {u : HO}, msk M H a = some u -> a ≠ p := by
    intro a u h e
    rw [e] at h
    have := (msk_of h).2
    rw [hn] at this
    cases this
  have keep : forall {a : Addr} {u v : HO}, msk M H a = some u -> msk M H' a = some v -> msk M (upd H' p o) a = some v := by
    intro a u v h1 h2
    obtain ⟨n1, h3⟩ := msk_of h2
    rw [msk_at n1, upd_ne (go h1)]
    exact h3
  have keepR : forall {a : Addr} {u v : HO}, Rd (msk M H) a u -> Rd (msk M H') a v -> Rd (msk M (upd H' p o)) a v := by
    intro a u v h1 h2
    obtain ⟨u1, g⟩ : exists u1, msk M H a = some u1 := by
      rcases h1 with h1 | ⟨ob, h1⟩
      · exact ⟨_, h1⟩
      · exact ⟨_, h1⟩
    rcases h2 with h2 | ⟨ob, h2⟩
    · exact .inl (keep g h2)
    · exact .inr ⟨ob, keep g h2⟩
  refine ⟨⟨fun h => keep h (k.fx.lst h), fun h => keep h (k.fx.tup h), fun h => keep h (k.fx.ins h), fun h => keepR h (k.fx.rk h), fun h => keepR h (k.fx.rt h)⟩, fun {a od u} e => ?_⟩
  rw [upd_ne (ne_of_none e hn)]
  exact k.fz e
theorem eqv_int (i j : Int) : PyData.eqv (.int i) (.int j) = decide (i = j) := by
  have h : PyData.eqv (.int i) (.int j) = (i == j) := by simp [PyData.eqv]
  rw [h, Bool.beq_eq_decide_eq]
theorem eqv_str (i j : Str) : PyData.eqv (.str i) (.str j) = decide (i = j) := by
  have h : PyData.eqv (.str i) (.str j) = (i == j) := by simp [PyData.eqv]
  rw [h, Bool.beq_eq_decide_eq]
theorem fi_tn {d : D} (h : d.fi = true) : d.tn ≠ "" := by
  cases d <;> first | (exact absurd (show false = true from h) Bool.false_ne_true) | (simp [D.tn])
theorem fi_dT {d : D} (h : d.fi = true) : forall kvs, d ≠ .dT kvs := by
  rintro kvs rfl
  cases (show false = true from h)
theorem fi_str {x : Str} (h : (D.str x).fi = true) : x.length ≤ 10000 := of_decide_eq_true (show decide (x.length ≤ 10000) = true from h)
theorem fi_strL {x : Str} (h : (D.str x).fi = true) : x.length ≤ sizeLine := by
  have := fi_str h
  rw [sizeLine_eq]
  omega
theorem fi_tup {ds : List D} (h : (D.tup ds).fi = true) : ds.length ≤ 100000 ∧ D.fis ds = true := by
  have h' : (decide (ds.length ≤ 100000) && D.fis ds) = true := h
  rw [Bool.and_eq_true, decide_eq_true_eq] at h'
  exact h'
theorem fi_lst {ds : List D} (h : (D.lst ds).fi = true) : ds.length ≤ 100000 ∧ D.fis ds = true := by
  have h' : (decide (ds.length ≤ 100000) && D.fis ds) = true := h
  rw [Bool.and_eq_true, decide_eq_true_eq] at h'
  exact h'
theorem fis_all : forall {ds : List D}, D.fis ds = true <-> forall d, d ∈ ds -> d.fi = true
  | [] => ⟨fun _ _ h => (by cases h), fun _ => rfl⟩
  | d :: ds => by
    show (d.fi && D.fis ds) = true <-> _
    rw [Bool.and_eq_true, fis_all (ds := ds)]
    exact ⟨fun h e he => (List.mem_cons.mp he).elim (fun z => z ▸ h.1) (h.2 e), fun h => ⟨h d List.mem_cons_self, fun e he => h e (List.mem_cons_of_mem _ he)⟩⟩
section
variable {X : Cx}
def rMulX : R2 := fun x y H Q => rI CMul (fun i j => .int (i * j)) x y H Q ∨ rI CMulW (fun i j => .int (i * j)) x y H Q ∨ rRep x y H Q
theorem op_mulX : OpR X (binaryOp .Mult) rMulX := op_mul.or (op_mulW.or op_rep)
end
section
variable {K : PySem.W.Frag} {M : MK} {s : L2.St} {H : Hp} {te : TE} {tr : TA} {ds : List D} {d e z : D} {E : Ends} {b : Bool}
theorem rd_mulC {i j : Int} (h : CMul i j) : RD M rMulX H (.int i) (.int j) (.int (i * j)) := fun v w H1 e1 rx ry Q q => .inl (rd_I (g := fun i j => .int (i * j)) (z := .int (i * j)) h (fun _ => rfl) v w H1 e1 rx ry Q q)
theorem rd_mulN {k : Int} (m : Mok M H) (h1 : -(2 ^ 63) ≤ k) (h2 : k < 2 ^ 63) (hz : ds.length * k.toNat ≤ sizeLine) : RD M rMulX H (.lst ds) (.int k) (.lst (List.replicate k.toNat ds).flatten) := fun v w H1 e1 rx ry Q q => .inr (.inr (rd_rep m h1 h2 hz v w H1 e1 rx ry Q q))
theorem Reps.one_of {G : Hp} {d : D} {vs : List V} (h : Reps G [d] vs) : exists v, vs = [v] ∧ Rep G d v := by
  obtain ⟨x, xs, e, r, r0⟩ := h
  have e2 : xs = [] := r0
  rw [e2] at e
  exact ⟨x, e, r⟩
theorem Reps.two_of {G : Hp} {d e : D} {vs : List V} (h : Reps G [d, e] vs) : exists v w, vs = [v, w] ∧ Rep G d v ∧ Rep G e w := by
  obtain ⟨x, xs, e1, r, r0⟩ := h
  obtain ⟨w, e2, r2⟩ := r0.one_of
  rw [e2] at e1
  exact ⟨x, w, e1, r, r2⟩
theorem Reps.three_of {G : Hp} {d e f : D} {vs : List V} (h : Reps G [d, e, f] vs) : exists v w u, vs = [v, w, u] ∧ Rep G d v ∧ Rep G e w ∧ Rep G f u := by
  obtain ⟨x, xs, e1, r, r0⟩ := h
  obtain ⟨w, u, e2, r2, r3⟩ := r0.two_of
  rw [e2] at e1
  exact ⟨x, w, u, e1, r, r2, r3⟩
/-- return e -/
theorem st_retD {Q : VK} (h : EvD M te s H d) (k : forall v H2, Same H H2 -> Rep (msk M H2) d v -> Q v H2) (hE : E.rt = Q) : tRet te E s H := by
  subst hE
  exact st_ret h k
theorem Rep.to {G : Hp} {v : V} (r : Rep G d v) (e : d = z) : Rep G z v := by
  subst e
  exact r
theorem st_seq {t u : TS} (h : t { E with nx := u E } s H) : tSeq t u E s H := h
theorem ev_chainLe {ta tb tc : TE} {i j k : Int} (ha : EvD M ta s H (.int i)) (hb : EvD M tb s H (.int j)) (hc : EvD M tc s H (.int k)) : EvD M (tChain (rI0 fun i j => .bl (decide (i ≤ j))) (rI0 fun i j => .bl (decide (i ≤ j))) ta tb tc) s H (.bl (decide (i ≤ j) && decide (j ≤ k))) :=
  ev_chain (a := decide (i ≤ j)) ha hb (fun _ => hc) rd_le (fun h => by rw [h, Bool.true_and]; exact rd_le) fun h => by rw [h, Bool.false_and]
theorem et_or2 {t u : TT} {a b : Bool} (h1 : EvT t s H a) (h2 : EvT u s H b) : EvT (tOr t u) s H (a || b) := et_or h1 fun _ => h2
theorem et_orT {t u : TT} (h1 : EvT t s H true) : EvT (tOr t u) s H true := et_or (b := true) h1 fun h => nomatch h
theorem et_orF {t u : TT} {b : Bool} (h1 : EvT t s H false) (h2 : EvT u s H b) : EvT (tOr t u) s H b := et_or h1 fun _ => h2
theorem et_andF {t u : TT} (h1 : EvT t s H false) : EvT (tAnd t u) s H false := et_and (b := false) h1 fun h => nomatch h
theorem et_andT {t u : TT} {b : Bool} (h1 : EvT t s H true) (h2 : EvT u s H b) : EvT (tAnd t u) s H b := et_and h1 fun _ => h2
theorem st_ifT {t : TT} {ts us : TS} (h : EvT t s H true) (k : forall H2, Same H H2 -> ts E s H2) : tIfS t ts us E s H := st_if h (fun _ => k) fun h => nomatch h
theorem st_ifF {t : TT} {ts us : TS} (h : EvT t s H false) (k : forall H2, Same H H2 -> us E s H2) : tIfS t ts us E s H := st_if h (fun h => nomatch h) fun _ => k
theorem ev_cbl {b : Bool} : EvD M (tC (.bl b)) s H (.bl b) := ev_c fun _ => rfl
theorem ev_ty {n : String} : EvD M (tC (.ty n)) s H (.oth (.ty n)) := ev_c fun _ => rfl
theorem et_ev {t : TT} {b c : Bool} (h : EvT t s H b) (e : b = c) : EvT t s H c := by
  subst e
  exact h
end
end Ak
/-! Ak 13: an object that is being made. -/
namespace Ak
open PySem PySem.Spec PyProof.Rows L2
section
variable {K : PySem.W.Frag} {M : MK} {s : L2.St} {H : Hp} {te : TE} {tr : TA} {ds : List D} {d e z : D} {E : Ends} {x C dx : Addr} {vs : List (Str × V)} {f : Str} {i : Nat}
/-- self.f, self masked -/
theorem ev_fldR {y : V} (hv : s[i]? = some (some (.ref x))) (hx : H x = some (.ins C dx vs)) (c : Cls K C) (n : NoAttr K C f) (l : vs.lookup f = some y) (ry : Rep (msk M H) d y) : EvD M (tFld K (tVar i) f) s H d := fun H1 e1 Q q =>
  ⟨.ref x, hv, x, C, dx, vs, y, rfl, e1 _ _ hx, c, n, l, q y H1 (Same.refl H1) (ry.up (msk_mono e1))⟩
theorem ev_conR {v : V} {u : Value} (hv : s[i]? = some (some (.ref x))) (hx : H x = some (.ins C dx vs)) (c : Cls K C) (k : Con K C f v u) (l : vs.lookup f = none) : EvD M (tCon K (tVar i) f) s H (.oth v) := fun H1 e1 Q q =>
  ⟨.ref x, hv, x, C, dx, vs, v, u, rfl, e1 _ _ hx, c, k, l, q v H1 (Same.refl H1) rfl⟩
/-- self.f = e -/
theorem st_fldR (hv : s[i]? = some (some (.ref x))) (hx : H x = some (.ins C dx vs)) (c : Cls K C) (n : NoAttr K C f) (hl : vs.length < 1000) (he : EvD M te s H d)
    (k : forall y H2, Same H H2 -> Rep (msk M H2) d y -> E.nx s (upd H2 x (.ins C dx (putF f y vs)))) : sFld K (tVar i) te f E s H :=
  he H (Same.refl H) _ fun y H2 e2 ry => ⟨.ref x, hv, x, C, dx, vs, rfl, e2 _ _ hx, c, n, hl, k y H2 e2 ry⟩
/-- o.m(..) that raises -/
theorem tm_raise {nm : Str} {R : List D -> D -> Prop} {X : List D -> Addr -> List (Str × D) -> Prop} {fs : List (Str × D)} {to : TE} {EX : XK} {Q : VK} {C' : Addr} {gs : List (Str × D)} (m : Mok M H) (ho : EvD M to s H (.ins C fs)) (hl : fs.lookup nm = none) (h : EvDs M tr s H ds) (hX : X (.ins C fs :: ds) C' gs)
    (k : forall dy ws H', Same H H' -> H dy = none -> H' dy = some (.xd ws) -> RepF (msk M H') gs ws -> EX (.ref C') (some dy) H') : tMeth C nm (SpE R X) [] EX to tr s H Q :=
  ho H (Same.refl H) _ fun v H2 e2 r => by
    obtain ⟨a, dx, vs, ev, ha, rf⟩ := id r
    refine ⟨a, dx, vs, ev, msk_same _ _ ha, rf.none hl, h H2 e2 _ fun ws H3 e3 rs => ?_⟩
    exact ⟨M, .ins C fs :: ds, (m.up e2).up e3, ⟨v, ws, by rw [List.append_nil], r.up (msk_mono e3), rs⟩, .inr ⟨C', gs, hX, fun dy ws' H' e4 hn hy rf' => k dy ws' H' ((e2.trans e3).trans e4) ((e2.trans e3).free hn) hy rf'⟩⟩
/-- what stands apart from x stands -/
def SameX (x : Addr) (H H' : Hp) : Prop := forall a o, a ≠ x -> H a = some o -> H' a = some o
theorem SameX.of {H H' : Hp} (e : Same H H') : SameX x H H' := fun a o _ h => e a o h
theorem SameX.trans {H H1 H2 : Hp} (a : SameX x H H1) (b : SameX x H1 H2) : SameX x H H2 := fun c o n h => b c o n (a c o n h)
theorem SameX.upd {H H' : Hp} (a : SameX x H H') {o : HO} : SameX x H (upd H' x o) := fun c u n h => (upd_ne n).trans (a c u n h)
theorem SameX.free {H H' : Hp} (a : SameX x H H') {p : Addr} (hx : H' x ≠ none) (h : H' p = none) : H p = none := by
  cases q : H p with
  | none => rfl
  | some o =>
    have n : p ≠ x := by
      rintro rfl
      exact hx h
    rw [a p o n q] at h
    cases h
end
end Ak
/-! Ak 14: the order of data. -/
namespace Ak
open PySem PySem.Spec PyProof.Rows L2
abbrev toks (d : D) : List (Int ⊕ List Nat) := PySem.W.keyToks d.py
theorem leD_eq (a b : D) : leD a b = !PyProof.Rows.lexLt PyProof.Rows.itemOrd (toks b) (toks a) := rfl
theorem leD_trans (a b c : D) (h1 : leD a b = true) (h2 : leD b c = true) : leD a c = true := by
  rw [leD_eq] at h1 h2 ⊢
  cases h : PyProof.Rows.lexLt PyProof.Rows.itemOrd (toks c) (toks a) with
  | false => rfl
  | true =>
    rcases PyProof.Rows.lex_negTrans (O := PyProof.Rows.itemOrd) (toks c) (toks b) (toks a) h with z | z
    · rw [z] at h2
      cases h2
    · rw [z] at h1
      cases h1
theorem leD_total (a b : D) : (leD a b || leD b a) = true := by
  rw [leD_eq, leD_eq]
  cases h1 : PyProof.Rows.lexLt PyProof.Rows.itemOrd (toks b) (toks a) with
  | false => rfl
  | true =>
    cases h2 : PyProof.Rows.lexLt PyProof.Rows.itemOrd (toks a) (toks b) with
    | false => rfl
    | true =>
      have h3 := PyProof.Rows.lex_trans (O := PyProof.Rows.itemOrd) _ _ _ h1 h2
      rw [PyProof.Rows.lex_irrefl] at h3
      cases h3
theorem leD_anti {a b : D} (h1 : leD a b = true) (h2 : leD b a = true) : toks a = toks b := by
  rw [leD_eq] at h1 h2
  exact PyProof.Rows.lex_total (O := PyProof.Rows.itemOrd) _ _ (by simpa using h2) (by simpa using h1)
theorem sortD_pw (l : List D) : (sortD l).Pairwise fun a b => leD a b = true := List.pairwise_mergeSort leD_trans leD_total l
theorem sortD_eq {l1 l2 : List D} (inj : forall a b, a ∈ l1 -> b ∈ l1 -> toks a = toks b -> a = b) (p : l1.Perm l2) : sortD l1 = sortD l2 := by
  refine List.Perm.eq_of_pairwise (le := fun a b => leD a b = true) (fun a b ha hb h1 h2 => inj a b ((sortD_perm l1).mem_iff.mp ha) (p.mem_iff.mpr ((sortD_perm l2).mem_iff.mp hb)) (leD_anti h1 h2)) (sortD_pw l1) (sortD_pw l2) ?_
  exact (sortD_perm l1).trans (p.trans (sortD_perm l2).symm)
theorem sortD_of {l : List D} (h : l.Pairwise fun a b => leD a b = true) : sortD l = l := List.mergeSort_of_pairwise h
theorem toks_int {i j : Int} (h : toks (.int i) = toks (.int j)) : D.int i = .int j := by
  injection h with h _
  injection h with h
  rw [h]
theorem toks_str {i j : Str} (h : toks (.str i) = toks (.str j)) : D.str i = .str j := by
  injection h with h _
  injection h with h
  have e : i = j := by
    obtain ⟨a⟩ := i
    obtain ⟨b⟩ := j
    have : a = b := by
      cases a
      cases b
      exact congrArg Array.mk h
    rw [this]
  rw [e]
theorem leD_int (i j : Int) : leD (.int i) (.int j) = decide (i ≤ j) := congrFun (congrFun (PySem.W.dataLe_int (β := Int) fun i => i) i) j
theorem canSort_ints (l : List Int) : CanSort (l.map .int) where
  alike := by
    rw [List.map_map]
    exact PySem.W.AllAlike.of (enc := fun i => (D.int i).py) fun a b => rfl
  kind := by
    rw [List.map_map]
    refine PySem.W.Sortable.others (enc := fun i => (D.int i).py) ?_
    intro b
    exact ⟨(fun e => nomatch e), fun ys e => nomatch e⟩
  ok := fun d hd => by
    obtain ⟨a, _, rfl⟩ := List.mem_map.mp hd
    rfl
theorem canSort_strs (l : List Str) : CanSort (l.map .str) where
  alike := by
    rw [List.map_map]
    exact PySem.W.AllAlike.of (enc := fun i => (D.str i).py) fun a b => rfl
  kind := by
    rw [List.map_map]
    refine PySem.W.Sortable.others (enc := fun i => (D.str i).py) ?_
    intro b
    exact ⟨(fun e => nomatch e), fun ys e => nomatch e⟩
  ok := fun d hd => by
    obtain ⟨a, _, rfl⟩ := List.mem_map.mp hd
    rfl
theorem depth_ints : forall l : List Int, PyData.depthAll (D.pys (l.map .int)) ≤ 3
  | [] => by simp [D.pys, PyData.depthAll]
  | i :: l => by
    have := depth_ints l
    simp [D.pys, D.py, PyData.depthAll, PyData.depth] at this ⊢
    omega
theorem pls_ints : forall l : List Int, D.pls (l.map .int) = true
  | [] => rfl
  | _ :: l => pls_ints l
theorem ok_ints (l : List Int) : (D.lst (l.map .int)).ok = true := by
  have h1 := depth_ints l
  unfold D.ok
  rw [Bool.and_eq_true, decide_eq_true_eq]
  refine ⟨pls_ints l, ?_⟩
  show PyData.depth (.list (D.pys (l.map .int))) ≤ 40
  simp only [PyData.depth]
  omega
/-- whole numbers, sorted -/
def sortI (l : List Int) : List Int := l.mergeSort fun a b => decide (a ≤ b)
theorem sortD_ints (l : List Int) : sortD (l.map .int) = (sortI l).map .int := (List.map_mergeSort (r := fun a b => decide (a ≤ b)) (s := leD) (f := D.int) fun a _ b _ => (leD_int a b).symm).symm
theorem sortI_perm (l : List Int) : (sortI l).Perm l := List.mergeSort_perm l _
theorem sortI_eq {l1 l2 : List Int} (p : l1.Perm l2) : sortI l1 = sortI l2 := by
  have h := sortD_eq (l1 := l1.map .int) (l2 := l2.map .int) (fun a b ha hb => by
    obtain ⟨i, _, rfl⟩ := List.mem_map.mp ha
    obtain ⟨j, _, rfl⟩ := List.mem_map.mp hb
    exact toks_int) (p.map _)
  rw [sortD_ints, sortD_ints] at h
  exact (List.map_inj_right fun a b h => by injection h).mp h
theorem nodup_perm {α : Type} {l1 l2 : List α} (h1 : l1.Nodup) (h2 : l2.Nodup) (h : forall x, x ∈ l1 <-> x ∈ l2) : l1.Perm l2 := by
  induction l1 generalizing l2 with
  | nil =>
    cases l2 with
    | nil => exact .nil
    | cons y l => exact absurd ((h y).mpr List.mem_cons_self) (by simp)
  | cons x l ih =>
    have hx := (h x).mp List.mem_cons_self
    obtain ⟨a, b, rfl⟩ := List.append_of_mem hx
    rw [List.nodup_cons] at h1
    have p : (a ++ x :: b).Perm (x :: (a ++ b)) := List.perm_middle
    have n2 := p.nodup h2
    rw [List.nodup_cons] at n2
    refine (List.Perm.cons x (ih h1.2 n2.2 fun y => ?_)).trans p.symm
    constructor
    · intro hy
      have := (h y).mp (List.mem_cons_of_mem _ hy)
      have := p.mem_iff.mp this
      rcases List.mem_cons.mp this with e | z
      · exact absurd (e ▸ hy) h1.1
      · exact z
    · intro hy
      have := (h y).mpr (p.mem_iff.mpr (List.mem_cons_of_mem _ hy))
      rcases List.mem_cons.mp this with e | z
      · exact absurd (e ▸ hy) n2.1
      · exact z
end Ak
/-! Ak 15: drawing from a list that counts. -/
namespace Ak
open PySem PySem.Spec PyProof.Rows L2
theorem dpi {K : PySem.W.Frag} {H : Hp} : forall ns : List Int, DpAll K H (ns.map V.int) (ns.map PyData.int)
  | [] => .nil
  | n :: ns => .cons (.int n) (dpi ns)
theorem _root_.L2.SqL.same {K : PySem.W.Frag} {H H' : Hp} {a : Addr} {xs : List V} (h : SqL K H a xs) (e : Same H H') : SqL K H' a xs := e.seq h
/-- the list at p: the script at a, how often was drawn -/
def Drw (p a : Addr) (H : Hp) : Prop := exists k : Int, 0 ≤ k ∧ H p = some (.lst [.ref a, .int k])
theorem Drw.up {p a : Addr} {H H' : Hp} (d : Drw p a H) (e : Same H H') : Drw p a H' := by
  obtain ⟨k, h, g⟩ := d
  exact ⟨k, h, e _ _ g⟩
theorem Drw.ne {p a : Addr} {H : Hp} (d : Drw p a H) : H p ≠ none := by
  obtain ⟨k, _, g⟩ := d
  rw [g]
  exact Option.some_ne_none _
theorem SameX.msk {M : MK} {p : Addr} {H H' : Hp} (e : SameX p H H') (hp : M p) : Same (Ak.msk M H) (Ak.msk M H') := fun a o h => by
  obtain ⟨n, h⟩ := msk_of h
  have hne : a ≠ p := by
    rintro rfl
    exact n hp
  rw [msk_at n]
  exact e a o hne h
theorem SameX.mok {M : MK} {p a : Addr} {H H' : Hp} (e : SameX p H H') (d : Drw p a H') (m : Mok M H) : Mok M H' := fun b z => by
  by_cases h : b = p
  · obtain ⟨k, _, g⟩ := d
    rw [h]
    exact ⟨_, g, fun xs e => nomatch e⟩
  · obtain ⟨o, g, nt⟩ := m b z
    exact ⟨o, e b o h g, nt⟩
theorem SameX.kp {M : MK} {p a : Addr} {H H' : Hp} (e : SameX p H H') (d : Drw p a H) (hp : M p) : Kp M H H' := ⟨Fx.of (e.msk hp), fun {b od u} h => by
  refine e b _ ?_ h
  rintro rfl
  obtain ⟨k, _, g⟩ := d
  rw [g] at h
  cases h⟩
theorem SameX.refl {p : Addr} (H : Hp) : SameX p H H := fun _ _ _ h => h
section
variable {K : PySem.W.Frag} {M : MK} {p a : Addr} {s : L2.St} {H : Hp} {te ta tb : TE} {tr : TA} {E : Ends} {C C1 C2 : D -> Prop} {Cs : List D -> Prop}
def EvC (M : MK) (p a : Addr) (te : TE) (s : L2.St) (H : Hp) (C : D -> Prop) : Prop :=
  forall H1, SameX p H H1 -> Drw p a H1 -> forall Q : VK, (forall d v H2, C d -> SameX p H1 H2 -> Drw p a H2 -> Rep (msk M H2) d v -> Q v H2) -> te s H1 Q
def EvCs (M : MK) (p a : Addr) (tr : TA) (s : L2.St) (H : Hp) (C : List D -> Prop) : Prop :=
  forall H1, SameX p H H1 -> Drw p a H1 -> forall Q : List V -> Hp -> Prop, (forall ds vs H2, C ds -> SameX p H1 H2 -> Drw p a H2 -> Reps (msk M H2) ds vs -> Q vs H2) -> tr s H1 Q
def EvCI (M : MK) (p a : Addr) (wi : TI) (s : L2.St) (H : Hp) (C : List D -> Prop) : Prop :=
  forall H1, SameX p H H1 -> Drw p a H1 -> forall R : It -> Hp -> Prop, (forall J ds H2, C ds -> SameX p H1 H2 -> Drw p a H2 -> ItD M J ds H2 -> R J H2) -> wi s H1 R
theorem EvC.imp (h : EvC M p a te s H C1) (i : forall d, C1 d -> C2 d) : EvC M p a te s H C2 := fun H1 e d Q q => h H1 e d Q fun z v H2 c => q z v H2 (i z c)
theorem ec_pure {z : D} (h : forall H1, SameX p H H1 -> Drw p a H1 -> EvD M te s H1 z) : EvC M p a te s H (fun d => d = z) := fun H1 e d Q q => h H1 e d H1 (Same.refl H1) Q fun v H2 e2 r => q z v H2 rfl (SameX.of e2) (d.up e2) r
theorem eci_pure {wi : TI} {ds : List D} (h : forall H1, SameX p H H1 -> Drw p a H1 -> EvI M wi s H1 ds) : EvCI M p a wi s H (fun d => d = ds) := fun H1 e d R k => h H1 e d H1 (Same.refl H1) R fun J H2 e2 it => k J ds H2 rfl (SameX.of e2) (d.up e2) it
theorem ecs_nil : EvCs M p a tNil s H (fun ds => ds = []) := fun H1 _ d Q q => q [] [] H1 rfl (SameX.refl H1) d rfl
theorem ecs_cons (hp : M p) (h : EvC M p a te s H C) (hr : EvCs M p a tr s H Cs) : EvCs M p a (tCons te tr) s H (fun ds => exists d es, ds = d :: es ∧ C d ∧ Cs es) := fun H1 e1 d1 Q q =>
  h H1 e1 d1 _ fun d v H2 c e2 d2 r => hr H2 (e1.trans e2) d2 _ fun es vs H3 cs e3 d3 rs => q (d :: es) (v :: vs) H3 ⟨d, es, rfl, c, cs⟩ (e2.trans e3) d3 ⟨v, vs, rfl, r.up (e3.msk hp), rs⟩
theorem ec_tup (m : Mok M H) (h : EvCs M p a tr s H Cs) (hz : forall ds, Cs ds -> ds.length ≤ 1000) : EvC M p a (tTup tr) s H (fun d => exists ds, d = .tup ds ∧ Cs ds) := fun H1 e1 d1 Q q =>
  h H1 e1 d1 _ fun ds vs H2 c e2 d2 rs => ⟨by rw [rs.len, sizeLine_eq]; have := hz ds c; omega, fun b hb => q (.tup ds) (.ref b) _ ⟨ds, rfl, c⟩ (e2.trans (SameX.of (same_new hb))) (d2.up (same_new hb)) ⟨b, vs, rfl, msk_new ((e1.trans e2).mok d2 m) hb, rs.up (msk_mono (same_new hb))⟩⟩
theorem ec_op {r : R2} (hp : M p) (ha : EvC M p a ta s H C1) (hb : EvC M p a tb s H C2) (hr : forall d e, C1 d -> C2 e -> exists z, C z ∧ forall H1, RD M r H1 d e z) : EvC M p a (tOp r ta tb) s H C := fun H1 e1 d1 Q q =>
  ha H1 e1 d1 _ fun d x H2 c1 e2 d2 rx => hb H2 (e1.trans e2) d2 _ fun e y H3 c2 e3 d3 ry => by
    obtain ⟨z, cz, rd⟩ := hr d e c1 c2
    exact rd H3 x y H3 (Same.refl H3) (rx.up (e3.msk hp)) ry Q fun v H4 e4 rv => q z v H4 cz ((e2.trans e3).trans (SameX.of e4)) (d3.up e4) rv
/-- a def that draws -/
def SpDr (K : PySem.W.Frag) (pre : List D -> Prop) (R : List D -> D -> Prop) : Sp := fun vs H Q _ => exists (M : MK) (p a : Addr) (ns : List Int) (ds : List D) (ws : List V), Mok M H ∧ M p ∧ vs = .ref p :: ws ∧ Reps (msk M H) ds ws ∧ Drw p a H ∧ SqL K H a (ns.map V.int) ∧ ns.length ≤ 1000 ∧ pre ds ∧
  forall d v H', R ds d -> SameX p H H' -> Drw p a H' -> Rep (msk M H') d v -> Q v H'
theorem SpDr.len {pre : List D -> Prop} {R : List D -> D -> Prop} {n : Nat} (hR : forall ds, pre ds -> ds.length = n) {vs : List V} {H : Hp} {Q : VK} {EX : XK} (h : SpDr K pre R vs H Q EX) : vs.length = n + 1 := by
  obtain ⟨M, p, a, ns, ds, ws, _, _, ev, rs, _, _, _, hp, _⟩ := h
  rw [ev, List.length_cons, rs.len, hR ds hp]
/-- the script stands wherever the list stands -/
theorem sql_x {ns : List Int} {H' : Hp} (h : SqL K H a (ns.map V.int)) (e : SameX p H H') (d : Drw p a H) : SqL K H' a (ns.map V.int) := by
  rcases h with h | h
  · have hne : a ≠ p := by
      rintro rfl
      obtain ⟨k, _, g⟩ := d
      rcases h with h | ⟨ob, h⟩
      · rw [g] at h
        injection h with h
        injection h with h
        cases ns with
        | nil => cases h
        | cons n ns => cases h
      · rw [g] at h
        cases h
    rcases h with h | ⟨ob, h⟩
    · exact .inl (.inl (e _ _ hne h))
    · exact .inl (.inr ⟨ob, e _ _ hne h⟩)
  · exact .inr h
theorem ec_call {pre : List D -> Prop} {R : List D -> D -> Prop} {EX : XK} {i : Nat} {ns : List Int} (m : Mok M H) (hp : M p) (hs : SqL K H a (ns.map V.int)) (d0 : Drw p a H) (hn : ns.length ≤ 1000) (hv : s[i]? = some (some (.ref p))) (h : EvCs M p a tr s H Cs) (hpre : forall ds, Cs ds -> pre ds) :
    EvC M p a (tCall (SpDr K pre R) [] EX (tCons (tVar i) tr)) s H (fun d => exists ds, Cs ds ∧ R ds d) := fun H1 e1 d1 Q q => ⟨_, hv, h H1 e1 d1 _ fun ds vs H2 c e2 d2 rs =>
  ⟨M, p, a, ns, ds, vs, (e1.trans e2).mok d2 m, hp, by rw [List.append_nil], rs, d2, sql_x hs (e1.trans e2) d0, hn, hpre ds c, fun d v H' hR e3 d3 r => q d v H' ⟨ds, c, hR⟩ (e2.trans e3) d3 r⟩⟩
theorem st_setC {i : Nat} (d0 : Drw p a H) (h : EvC M p a te s H C) (k : forall d v H2, C d -> SameX p H H2 -> Drw p a H2 -> Rep (msk M H2) d v -> E.nx (s.set i (some v)) H2) : tAsg te (gName i) E s H := h H (SameX.refl H) d0 _ k
theorem st_ifC {t : TT} {ts us : TS} (b : Prop) (h : forall Q : Bool -> Hp -> Prop, (forall c H2, SameX p H H2 -> Drw p a H2 -> Q c H2) -> t s H Q) (k1 : forall H2, SameX p H H2 -> Drw p a H2 -> ts E s H2) (k2 : forall H2, SameX p H H2 -> Drw p a H2 -> us E s H2) : tIfS t ts us E s H := h _ fun c H2 e d => by
  cases c with
  | true => exact iteT (k1 H2 e d)
  | false => exact iteF (k2 H2 e d)
theorem etC (d0 : Drw p a H) (h : EvC M p a te s H C) (hb : forall d, C d -> exists b, d = .bl b) : forall Q : Bool -> Hp -> Prop, (forall c H2, SameX p H H2 -> Drw p a H2 -> Q c H2) -> tTest te s H Q := fun Q q => h H (SameX.refl H) d0 _ fun d v H2 c e2 d2 r => by
  obtain ⟨b, rfl⟩ := hb d c
  exact ⟨b, r, q b H2 e2 d2⟩
theorem tcall_ev {sp : Sp} {EX : XK} {Q : VK} {ds : List D} (h : EvDs M tr s H ds) (k : forall vs H1, Same H H1 -> Reps (msk M H1) ds vs -> sp vs H1 Q EX) : tCall sp [] EX tr s H Q := h H (Same.refl H) _ fun vs H1 e r => by
  rw [List.append_nil]
  exact k vs H1 e r
/-! ### the script -/
theorem et_scr {i : Nat} {ns : List Int} (hv : s[i]? = some (some (.ref a))) (h : SqL K H a (ns.map V.int)) : EvT (tTest (tOp (rNeD K) (tVar i) (tLst tNil))) s H (!decide (ns = [])) := fun H1 e Q q => by
  refine ⟨_, hv, by rw [sizeLine_eq]; simp, fun b hb => ⟨.list (ns.map .int), .list [], .lst ((h.same e).same (same_new hb)) (dpi ns), .lst (SqL.of upd_same) .nil, PySem.W.shaped_ints ns, rfl, _, rfl, ?_⟩⟩
  have e1 : (!PyData.eqv (.list (ns.map .int)) (.list [])) = !decide (ns = []) := by
    cases ns <;> rfl
  rw [e1]
  exact q _ (same_new hb)
theorem ev_scrlen {i : Nat} {ns : List Int} (hv : s[i]? = some (some (.ref a))) (h : SqL K H a (ns.map V.int)) : EvD M (tCB (rLenU K) (tCons (tVar i) tNil)) s H (.int ns.length) := fun H1 e Q q =>
  ⟨_, hv, .inl ⟨.ref a, ns.length, rfl, .inl ⟨_, h.same e, (List.length_map _).symm⟩, q _ H1 (Same.refl H1) rfl⟩⟩
theorem ev_scrix {i : Nat} {ns : List Int} {j c : Int} (hv : s[i]? = some (some (.ref a))) (h : SqL K H a (ns.map V.int)) (he : EvD M te s H (.int j)) (hj : atI ns j = some c) : EvD M (tOp (rIx K) (tVar i) te) s H (.int c) := fun H1 e Q q =>
  ⟨_, hv, he H1 e _ fun v H2 e2 r => .inl ⟨a, _, j, .int c, rfl, r, h.same (e.trans e2), by
    unfold atI at hj ⊢
    rw [List.length_map]
    cases z : ixN ns.length j with
    | none => rw [z] at hj; cases hj
    | some k =>
      rw [z] at hj
      have hj' : ns[k]? = some c := hj
      show (ns.map V.int)[k]? = some (V.int c)
      rw [List.getElem?_map, hj'] <;> rfl, q _ H2 e2 rfl⟩⟩
/-! ### comprehensions that draw -/
inductive Yields (Ce : D -> Option D -> Prop) : List D -> List D -> Prop
  | nil : Yields Ce [] []
  | some {ds es : List D} {d e : D} (h : Yields Ce ds es) (c : Ce d (some e)) : Yields Ce (ds ++ [d]) (es ++ [e])
  | none {ds es : List D} {d : D} (h : Yields Ce ds es) (c : Ce d none) : Yields Ce (ds ++ [d]) es
theorem Yields.len {Ce : D -> Option D -> Prop} {ds es : List D} (h : Yields Ce ds es) : es.length ≤ ds.length := by
  induction h with
  | nil => exact Nat.le_refl _
  | some h c ih =>
    rw [List.length_append, List.length_append]
    exact Nat.add_le_add_right ih _
  | none h c ih =>
    rw [List.length_append]
    omega
def EltC (N : MK) (p a : Addr) (g : TG) (tt : TT) (te : TE) (vs : List Nat) (s : L2.St) (H3 : Hp) (x : V) (Co : Option D -> Prop) : Prop :=
  forall (P : V -> Hp -> Prop) (S : Hp -> Prop), (forall d, Co (some d) -> forall y H4, SameX p H3 H4 -> Drw p a H4 -> Rep (msk N H4) d y -> P y H4) -> (Co none -> forall H4, SameX p H3 H4 -> Drw p a H4 -> S H4) ->
    g x (wipe s vs) H3 fun s2 H4 => wipe s2 vs = wipe s vs ∧ tt s2 H4 fun b H5 => if b = true then te s2 H5 P else S H5
theorem ec_lc {wi : TI} {g : TG} {tt : TT} {vs : List Nat} {Ce : D -> Option D -> Prop} (m : Mok M H) (hp : M p) (d0 : Drw p a H) (hi : EvCI M p a wi s H Cs) (hz : forall ds, Cs ds -> ds.length ≤ 1000000)
    (hs : forall (ds : List D) (N : MK) H3 d x, Cs ds -> Mok N H3 -> N p -> SameX p H H3 -> Drw p a H3 -> Same (msk M H) (msk N H3) -> d ∈ ds -> Rep (msk N H3) d x -> EltC N p a g tt te vs s H3 x (Ce d)) : EvC M p a (tLc wi g tt te vs) s H (fun z => exists ds es, z = .lst es ∧ Cs ds ∧ Yields Ce ds es) := fun H1 e1 d1 Q q =>
  hi H1 e1 d1 _ fun J ds H2 cs e2 d2 it Da hD => by
    have m2 : Mok M H2 := (e1.trans e2).mok d2 m
    have hM : ¬ M Da := m2.new hD
    have hDp : Da ≠ p := by
      rintro rfl
      exact d2.ne hD
    let N : MK := fun b => M b ∨ b = Da
    have i2 : forall b, N b -> M b ∨ H2 b = none := fun b z => by
      rcases z with z | z
      · exact .inl z
      · exact .inr (by rw [z]; exact hD)
    have hlow : forall {H3 : Hp}, SameX p H2 H3 -> Same (msk M H2) (msk N H3) := fun {H3} e b o h => by
      obtain ⟨n, h⟩ := msk_of h
      have hbp : b ≠ p := by
        rintro rfl
        exact n hp
      rw [msk_at]
      · exact e b _ hbp h
      · rintro (z | z)
        · exact n z
        · rw [z, hD] at h
          cases h
    refine ⟨fun i k H3 => k = ds.length - i ∧ i ≤ ds.length ∧ SameX p H2 H3 ∧ Drw p a H3 ∧ exists acc es, H3 Da = some (.lst acc) ∧ Reps (msk N H3) es acc ∧ Yields Ce (ds.take i) es,
      ⟨ds.length, by simp, Nat.zero_le _, SameX.of (same_new hD), d2.up (same_new hD), [], [], upd_same, rfl, .nil⟩, ?_⟩
    rintro i k H3 ⟨rfl, hil, e3, d3, acc, es, ha, rs, ys⟩
    have kp3 : Kp M H2 H3 := e3.kp d2 hp
    have m3 : Mok N H3 := Mok.add (e3.mok d3 m2) ha
    have hlen : acc.length ≤ i := by
      rw [rs.len]
      exact Nat.le_trans ys.len (by rw [List.length_take]; omega)
    have hzz := hz ds cs
    by_cases hlt : i < ds.length
    · refine .inr ⟨it.go i H3 kp3 hlt, fun H4 => SameX p H2 H4 ∧ Drw p a H4 ∧ exists acc es, H4 Da = some (.lst acc) ∧ Reps (msk N H4) es acc ∧ Yields Ce (ds.take (i + 1)) es, fun H4 w => ⟨ds.length - (i + 1), by omega, rfl, hlt, w⟩, fun x H4 y => ?_⟩
      obtain ⟨e4, d, hd, rd⟩ := it.yld i H3 x H4 N kp3 m3 i2 hlt y
      have tk : ds.take (i + 1) = ds.take i ++ [d] := by rw [List.take_succ, hd] <;> rfl
      have ha4 := e4 _ _ ha
      have rs4 := rs.up (msk_mono e4)
      have d4 := d3.up e4
      have eA := (e1.trans e2).trans (e3.trans (SameX.of e4))
      refine hs ds N H4 d x cs (m3.up e4) (.inl hp) eA d4 (fun b o h => hlow (e3.trans (SameX.of e4)) _ _ ((e1.trans e2).msk hp _ _ h)) (List.mem_of_getElem? hd) rd _ _ (fun d' ho y' H5 e5 d5 r5 => ?_) (fun ho H5 e5 d5 => ?_)
      · have hn : forall {b : Addr} {o : HO}, H2 b = some o -> b ≠ Da := fun h => ne_of_none h hD
        refine ⟨acc, e5 _ _ hDp ha4, by rw [sizeLine_eq]; omega, fun b o h1 h => ?_, ?_, acc ++ [y'], es ++ [d'], upd_same, ?_, by rw [tk]; exact .some ys ho⟩
        · rw [upd_ne (hn h)]
          exact e5 b o h1 (e4 _ _ (e3 b o h1 h))
        · obtain ⟨k5, h5, g5⟩ := d5
          exact ⟨k5, h5, (upd_ne hDp.symm).trans g5⟩
        · rw [msk_upd (M := N) (.inr rfl)]
          exact Reps.app (rs4.up (e5.msk (.inl hp))) (Reps.one r5)
      · refine ⟨(e3.trans (SameX.of e4)).trans e5, d5, acc, es, e5 _ _ hDp ha4, rs4.up (e5.msk (.inl hp)), by rw [tk]; exact .none ys ho⟩
    · have e : i = ds.length := by omega
      subst e
      rw [List.take_length] at ys
      refine .inl ⟨it.stop H3 kp3, q (.lst es) _ H3 ⟨ds, es, rfl, cs, ys⟩ (e2.trans e3) d3 ⟨Da, acc, rfl, ?_, rs.up (msk_less fun b z => .inl z)⟩⟩
      rw [msk_at hM]
      exact ha
end
end Ak
/-! Ak 16: != by an own __eq__; isinstance of an own class. -/
namespace Ak
open PySem PySem.Spec PyProof.Rows L2
/-- the class at C: object's heir with an __eq__ at f and no __ne__ -/
structure EqC (K : PySem.W.Frag) (C f : Addr) : Prop where
  cls : exists nm q N bs hd sn sub ab col dd k0 k1 k2 k3 k5 nid, K.lookup C = some (excClassObj nm q C N bs [.type "object"] hd sn sub ab col dd k0 k1 k2 k3 k5 nid) ∧ PySem.W.nsOkIn K N = true ∧ PySem.W.nsIn K N "__eq__" = some (some (.ref f)) ∧ PySem.W.nsIn K N "__ne__" = some none
  fn : exists o, K.lookup f = some o ∧ o.cls = .type "function"
theorem objEq : typeLookup (.type "object") "__eq__" = pure (some (.builtin "object.__eq__")) := by
  rw [typeLookup_type, builtinLookup_eq_fast]
  kernel_rfl
theorem ns_some {K : PySem.W.Frag} {h : Heap} {N : Addr} {mg : Str -> Option Value} {n : Str} {v : Value} (X : K.In h) (G : h.Ns N mg) (e : PySem.W.nsIn K N n = some (some v)) : mg n = some v := by
  obtain ⟨o, es, ep, ho, hd, _, hf⟩ := G
  unfold PySem.W.nsIn at e
  split at e
  · rename_i c d es' n' sl q
    have z := X _ _ q
    rw [ho] at z
    cases z
    cases hd
    split at e
    · rename_i en he
      injection e with e
      injection e with e
      rw [← hf]
      unfold nsFind findBy
      rw [← Array.find?_toList, he, ← e] <;> rfl
    · split at e
      · cases e
      · injection e with e
        cases e
  · cases e
theorem EqC.own {K : PySem.W.Frag} {h : Heap} {C f x : Addr} {ox : Obj} (c : EqC K C f) (X : K.In h) (hx : h.get? x = some ox) (hc : ox.cls = .ref C) : h.OwnEqNoNe x C f "object" [.type "object"] := by
  obtain ⟨nm, q, N, bs, hd, sn, sub, ab, col, dd, k0, k1, k2, k3, k5, nid, e1, e2, e3, e4⟩ := c.cls
  obtain ⟨o, e5, e6⟩ := c.fn
  have G := Heap.Ns.of_isNs (PySem.W.isNs_of_in X e2)
  exact ⟨ox, o, nm, q, N, bs, hd, sn, sub, ab, col, dd, k0, k1, k2, k3, k5, nid, _, _, hx, hc, X _ _ e1, G, ns_some X G e3, X _ _ e5, e6, PySem.F.cmp_object.mro, objEq, PySem.W.nsMap_none_of_in X e2 e4⟩
def rNeOwn (C : Addr) (sp : Sp) (E : XK) : R2 := fun x y H Q => exists a b dx dy vs ws, x = .ref a ∧ y = .ref b ∧ H a = some (.ins C dx vs) ∧ H b = some (.ins C dy ws) ∧ sp [x, y] H (fun v H' => exists k, v = .bl k ∧ Q (.bl (!k)) H') E
section
variable {X : Cx} {CX : CXT} {C f : Addr} {n : Nat} {sp : Sp} {E : XK}
theorem op_neOwn (c : EqC X.K C f) (F : FnR X.prog X.w X.K X.mg X.base CX n f sp) (hr : Room (n + 1) X.A) (hx : forall (H : Hp) (s : Shared) (e : Value) (s' : Shared), CX X.stack H s E e s' -> False) : OpR X (compareOp .NotEq) (rNeOwn C sp E) := by
  intro pins s σ H x y v u Q I rx ry h
  obtain ⟨a, b, dx, dy, vs, ws, ex, ey, ha, hb, q⟩ := h
  subst ex ey
  cases rx
  cases ry
  obtain ⟨_, _, _, g1, _⟩ := (show ObjOk X.prog X.w H s.heap a (.ins C dx vs) from I.hok a _ ha)
  obtain ⟨_, _, _, g2, _⟩ := (show ObjOk X.prog X.w H s.heap b (.ins C dy ws) from I.hok b _ hb)
  have own := c.own (f := f) I.kIn g1 rfl
  have un : X.A.units + 1 < cLine := hu_of hr
  obtain ⟨hp, gs, dr, tk, os⟩ := s
  refine compareOp_ne_ownEq PySem.F.cmp_object own g2 rfl un ?_
  refine wpAny_call (codeAny_mono (F X.A.in1 X.stack _ H [.ref a, .ref b] [.ref a, .ref b] _ E hr.in1 I.env0.in1 (.cons rfl (.cons rfl .nil)) q) fun r s' hq => ?_)
  cases r with
  | error e => exact (hx _ _ _ _ hq).elim
  | ok fl =>
    cases fl with
    | ret w =>
      obtain ⟨z, H', I', rz, k, ez, qz⟩ := I.after hq
      subst ez
      cases rz
      exact ⟨k, rfl, .bl (!k), H', I', rfl, qz⟩
    | next => exact False.elim hq
    | brk => exact False.elim hq
    | cont => exact False.elim hq
end
section
variable {K : PySem.W.Frag} {M : MK} {s : L2.St} {H : Hp} {ta tb : TE} {tr : TA}
theorem rd_neOwn {C : Addr} {R : List D -> D -> Prop} {fs gs : List (Str × D)} {k : Bool} {E : XK} (m : Mok M H) (h : R [.ins C fs, .ins C gs] (.bl k)) : RD M (rNeOwn C (SpR R) E) H (.ins C fs) (.ins C gs) (.bl (!k)) := fun x y H1 e1 rx ry Q q => by
  obtain ⟨a, dx, vs, ex, ha, rf⟩ := id rx
  obtain ⟨b, dy, ws, ey, hb, rg⟩ := id ry
  have rs : Reps (msk M H1) [.ins C fs, .ins C gs] [x, y] := ⟨x, [y], rfl, rx, y, [], rfl, ry, rfl⟩
  exact ⟨a, b, dx, dy, vs, ws, ex, ey, msk_same _ _ ha, msk_same _ _ hb, M, _, _, m.up e1, rs, h, fun v H' e r => ⟨k, r, q _ H' e rfl⟩⟩
/-- what isinstance asks of the class -/
structure IsC (K : PySem.W.Frag) (C : Addr) : Prop where
  ha : PySem.W.findIn K (.ref C) "__class__" = some (some (.builtin "object.__class__"))
  hn : PySem.W.specialIn K (.builtin "object.__class__") "__get__" = some (some (.builtin "getset_descriptor.__get__"))
  ht : PySem.W.takesIn K (.builtin "object.__class__") = some true
  hm : PySem.W.mroIn K C (.type "object") = some true
  one : PySem.W.kitOne K (.ref C) (.ref C) = some true
theorem ev_isiC {C : Addr} {fs : List (Str × D)} (c : Cls K C) (i : IsC K C) (h : EvDs M tr s H [.ins C fs, .oth (.ref C)]) : EvD M (tCB (rIsi K) tr) s H (.bl true) := ev_cb h fun vs H1 e1 rs Q q => by
  obtain ⟨x, y, ev, rx, ry⟩ := rs.two_of
  have e5 : y = V.ref C := ry
  obtain ⟨a, dx, ws, ea, ha, rf⟩ := rx
  subst e5 ea ev
  exact ⟨.ref a, .ref C, .ref C, .ref C, true, rfl, .own C, .base (.ins (msk_same _ _ ha) c i.ha i.hn i.ht i.hm), i.one, q _ H1 (Same.refl H1) rfl⟩
end
end Ak
/-! Ak 17: sets, over the heap: members are ints, texts, or tuples of these. -/
namespace Ak
open PySem PySem.Spec PyProof.Rows L2
section
variable {P : Program} {w : World} {A : Around} {E : Value -> Shared -> Prop} {s : Shared}
abbrev TupK (P : Program) (w : World) (h : Heap) (ks : List Key) (b : Addr) : Prop := IsTupleKey (mixKind P w) h ks b
abbrev hashT (P : Program) (w : World) (ks : List Key) : Int := tupleKeyHash (mixKind P w) ks
theorem cls_key {n : Nat} {k : Key} {v : Value} (r : keyIs k v = true) : ofAClassStatement n v = pure false := by
  rcases keyIs_shape r with ⟨i, t, e1, e2⟩ | ⟨x, t, e1, e2⟩
  · subst e2
    cases n <;> rfl
  · subst e2
    cases n <;> rfl
theorem hby_key {n : Nat} {k : Key} {v : Value} (r : keyIs k v = true) : exists b, hashByValue n v = pure b := by
  rcases keyIs_shape r with ⟨i, t, e1, e2⟩ | ⟨x, t, e1, e2⟩
  · subst e2
    exact ⟨true, by cases n <;> rfl⟩
  · subst e2
    exact ⟨false, by cases n <;> rfl⟩
theorem items_each {ks : List Key} {us : List Value} (q : ItemsAre (mixKind P w) ks us) : forall v, v ∈ us -> exists k, keyIs k v = true := by
  induction q with
  | nil => intro v m; cases m
  | @cons k0 v0 ks0 us0 r _ ih =>
    intro v m
    rcases List.mem_cons.mp m with e | m
    · exact ⟨k0, by rw [e]; exact r⟩
    · exact ih v m
theorem cls_tup {ks : List Key} {b : Addr} {Q : Bool -> Shared -> Prop} (x : TupK P w s.heap ks b) (q : Q false s) : wpAny (model P w) A (ofAClassStatement 8 (.ref b)) Q E s := by
  have ty := x.typeIs
  obtain ⟨ob, its, n, g, _, gd, gi⟩ := x
  have each := items_each gi
  unfold ofAClassStatement
  refine wpAny_bind (wpAny_typeOf ty ?_)
  dsimp only
  simp only [show (("tuple" : String) == "tuple") = true from by decide, if_true, Bool.not_true, Bool.false_eq_true, if_false]
  try refine wpAny_bind (wpAny_pure ?_)
  try simp only [Bool.not_true, Bool.false_eq_true, if_false]
  show wpAny _ _ (seqItems? (.ref b) >>= _) _ _ s
  refine wpAny_bind (wpAny_seqItems g gd ?_)
  dsimp only
  refine wpAny_bind ?_
  show wpAny _ _ (forIn its _ _) _ _ s
  rw [← Array.forIn_toList]
  refine wpAny_forIn_list _ (fun l r s1 => r.1 = none ∧ s1 = s ∧ forall v, v ∈ l -> exists k, keyIs k v = true) _ ?_ ?_ _ _ ⟨rfl, rfl, each⟩
  · intro v l r s1 ⟨e1, e2, ev⟩
    subst e2
    obtain ⟨k, hk⟩ := ev v List.mem_cons_self
    rw [cls_key hk]
    refine wpAny_bind (wpAny_pure ?_)
    simp only [Bool.false_eq_true, if_false]
    exact wpAny_pure ⟨rfl, rfl, fun u m => ev u (List.mem_cons_of_mem _ m)⟩
  · intro ⟨r1, r2⟩ s1 ⟨e1, e2, _⟩
    subst e2
    simp only at e1
    subst e1
    exact wpAny_pure q
theorem hby_tup {ks : List Key} {b : Addr} {Q : Bool -> Shared -> Prop} (x : TupK P w s.heap ks b) (q : forall c, Q c s) : wpAny (model P w) A (hashByValue 8 (.ref b)) Q E s := by
  have ty := x.typeIs
  obtain ⟨ob, its, n, g, _, gd, gi⟩ := x
  have each := items_each gi
  unfold hashByValue
  refine wpAny_bind (wpAny_specialOf ty PySem.F.slot_tuple_hash.lookup ?_)
  show wpAny _ _ (seqItems? (.ref b) >>= _) _ _ s
  refine wpAny_bind (wpAny_seqItems g gd ?_)
  refine wpAny_bind ?_
  show wpAny _ _ (forIn its _ _) _ _ s
  rw [← Array.forIn_toList]
  refine wpAny_forIn_list _ (fun l r s1 => s1 = s ∧ forall v, v ∈ l -> exists k, keyIs k v = true) _ ?_ ?_ _ _ ⟨rfl, each⟩
  · intro v l r s1 ⟨e2, ev⟩
    subst e2
    obtain ⟨k, hk⟩ := ev v List.mem_cons_self
    obtain ⟨c, hc⟩ := hby_key (n := 7) hk
    rw [hc]
    refine wpAny_bind (wpAny_pure ?_)
    cases c with
    | true =>
      simp only [Bool.not_true, Bool.false_eq_true, if_false]
      exact wpAny_pure ⟨rfl, fun u m => ev u (List.mem_cons_of_mem _ m)⟩
    | false =>
      simp only [Bool.not_false, if_true]
      exact wpAny_pure (wpAny_pure (q _))
  · intro ⟨r1, r2⟩ s1 h1
    obtain ⟨e2, _⟩ := h1
    subst e2
    cases r1 with
    | none => exact wpAny_pure (q _)
    | some c => exact wpAny_pure (q _)
theorem seen_mix {ks : List Key} {b : Addr} {Q : Bool -> Shared -> Prop} (x : TupK P w s.heap ks b) {ys : List Value} (ey : forall y, y ∈ ys -> exists k c, y = Value.ref c ∧ TupK P w s.heap k c) (q : Q false s) :
    wpAny (model P w) A (searchCouldBeSeen (.ref b) ys) Q E s := by
  unfold searchCouldBeSeen
  refine wpAny_bind ?_
  refine wpAny_forIn_list _ (fun l r s1 => r.1 = none ∧ s1 = s ∧ forall y, y ∈ l -> exists k c, y = Value.ref c ∧ TupK P w s.heap k c) _ ?_ ?_ _ _ ⟨rfl, rfl, ey⟩
  · intro v l r s1 ⟨e1, e2, ev⟩
    subst e2
    obtain ⟨k, c, e3, xc⟩ := ev v List.mem_cons_self
    subst e3
    have later : forall y, y ∈ l -> exists k c, y = Value.ref c ∧ TupK P w s1.heap k c := fun u m => ev u (List.mem_cons_of_mem _ m)
    dsimp only
    by_cases same : (b == c || (carriedByValue (.ref b) && carriedByValue (.ref c))) = true
    · exact wp_if_pos same (wpAny_pure ⟨rfl, rfl, later⟩)
    · refine wp_if_neg same ?_
      refine wpAny_bind (wpAny_eqIsQuiet_tuple x ?_)
      simp only [Bool.not_true, Bool.false_eq_true, if_false]
      refine wpAny_bind (wpAny_eqIsQuiet_tuple xc ?_)
      simp only [Bool.not_true, Bool.false_eq_true, if_false]
      refine wpAny_bind (cls_tup x ?_)
      simp only [Bool.false_eq_true, if_false]
      refine wpAny_bind (cls_tup xc ?_)
      simp only [Bool.false_eq_true, if_false]
      exact wpAny_pure ⟨rfl, rfl, later⟩
  · intro ⟨r1, r2⟩ s1 ⟨e1, e2, _⟩
    subst e2
    simp only at e1
    subst e1
    exact wpAny_pure q
/-! ### a set of tuples -/
abbrev TL : Type := List (List Key × Addr)
def rowsT (P : Program) (w : World) (L : TL) : List (Int × Value) := L.map fun p => (hashT P w p.1, Value.ref p.2)
def hsT (P : Program) (w : World) (L : TL) : List Int := L.map fun p => hashT P w p.1
structure SetT (P : Program) (w : World) (h : Heap) (a : Addr) (L : TL) (es : Array (Int × Value)) (ep : Nat) (t : SetTable) : Prop where
  ob : exists o, h.get? a = some o ∧ o.ExactSet ∧ o.data = .set es ep t
  rows : es.toList = rowsT P w L
  tab : TabOk t (hsT P w L)
  nd : (L.map (·.1)).Nodup
  tup : forall p, p ∈ L -> TupK P w h p.1 p.2
  led : w.params.followText "set-order" = true ∨ t.led = true
  room : L.length * 5 < t.mask * 3
  few : L.length < 64
variable {a : Addr} {L : TL} {es : Array (Int × Value)} {ep : Nat} {t : SetTable}
theorem SetT.size (R : SetT P w s.heap a L es ep t) : es.size = L.length := by
  rw [← Array.length_toList, R.rows, rowsT, List.length_map]
theorem SetT.pl (R : SetT P w s.heap a L es ep t) : t.place.size = L.length := by
  rw [R.tab.sz, hsT, List.length_map]
theorem SetT.fits (R : SetT P w s.heap a L es ep t) : t.fits es.size = true := by
  have z1 := R.pl
  have z2 := R.size
  have z3 := R.room
  unfold SetTable.fits SetTable.fill
  rw [R.tab.dm, Bool.and_eq_true, beq_iff_eq, decide_eq_true_eq]
  show t.place.size = es.size ∧ t.place.size + 0 ≤ t.mask
  omega
theorem SetT.row (R : SetT P w s.heap a L es ep t) {i : Nat} {p : List Key × Addr} (h : L[i]? = some p) : es[i]? = some (hashT P w p.1, Value.ref p.2) := by
  rw [← Array.getElem?_toList, R.rows, rowsT, List.getElem?_map, h] <;> rfl
theorem SetT.gw (R : SetT P w s.heap a L es ep t) : ¬ t.gaveWay = true := by
  unfold SetTable.gaveWay
  rw [mask_odd R.tab.mok]
  decide
theorem nth_dummy (m : Nat) : forall (n : Nat) (p : SetTable.Probe), p.dummy = none -> (nth m p n).dummy = none
  | 0, _, h => h
  | n + 1, p, h => nth_dummy m n (adv m p) (by unfold adv; split <;> exact h)
/-- the state of a search after c steps -/
abbrev st0 (m : Nat) (h : Int) (c : Nat) : SetTable.Probe := nth m (runAt m (SetTable.bits h % (m + 1)) (SetTable.bits h)) c
theorem st0_go (m : Nat) (h : Int) (c q : Nat) : nth m (st0 m h c) q = st0 m h (c + q) := (nth_add m c _ q).symm
theorem st0_j (m : Nat) (h : Int) (c q : Nat) : (nth m (st0 m h c) q).j = way m h (c + q) := congrArg SetTable.Probe.j (st0_go m h c q)
theorem findT_from (R : SetT P w s.heap a L es ep t) {x : Addr} {k : List Key} (hx : TupK P w s.heap k x) (hu : A.units < cLine) {K : Nat} (kf : K < 10 * SetTable.turns t.mask)
    (kn : way t.mask (hashT P w k) K ∉ t.place.toList) (kb : forall c, c < K -> way t.mask (hashT P w k) c ∈ t.place.toList) {Q : SetFound -> Shared -> Prop}
    (yes : k ∈ L.map (·.1) -> Q (.there none) s) (no : k ∉ L.map (·.1) -> Q (.free (way t.mask (hashT P w k) K) false) s) :
    forall (f c : Nat) (stand : Option SetTable.Probe), stand.getD (t.probeStart (hashT P w k)) = st0 t.mask (hashT P w k) c -> c ≤ K -> K - c < f ->
      (forall (i : Nat) p, L[i]? = some p -> p.1 = k -> exists c', c ≤ c' ∧ c' < K ∧ t.place.toList[i]? = some (way t.mask (hashT P w k) c')) ->
      wpAny (model P w) A (setSearchFrom a (.ref x) (hashT P w k) true f stand) Q E s
  | 0, c, stand, _, _, z, _ => absurd z (Nat.not_lt_zero _)
  | f + 1, c, stand, hst, hc, hf, lies => by
    obtain ⟨o, ho, hex, hd⟩ := R.ob
    rw [setSearchFrom_succ]
    refine wpAny_bind (wpAny_setState_of ho hd R.fits ?_)
    dsimp only
    refine wp_if_neg R.gw ?_
    try refine wpAny_bind (wpAny_pure ?_)
    have hashes : forall (i : Nat) p, L[i]? = some p -> (fun i => (es[i]?.map (·.1)).getD 0) i = hashT P w p.1 := fun i p hp => by
      show (es[i]?.map (·.1)).getD 0 = _
      rw [R.row hp] <;> rfl
    have law := go_spec t R.tab.ris R.tab.dm (fun i => (es[i]?.map (·.1)).getD 0) (hashT P w k) (10 * SetTable.turns t.mask) (K - c) (st0 t.mask (hashT P w k) c) (nth_dummy _ _ _ rfl) (by omega)
      (fun q hq => by rw [st0_j]; exact kb (c + q) (by omega)) (by rw [st0_j, show c + (K - c) = K by omega]; exact kn)
    rcases law with ⟨q, i, hq, hi, hh, hno, hpr⟩ | ⟨hno, hpr⟩
    · rw [st0_j, st0_go] at hpr
      rw [show t.probe (fun i => (es[i]?.map (·.1)).getD 0) (hashT P w k) (stand.getD (t.probeStart (hashT P w k))) = some (.candidate (way t.mask (hashT P w k) (c + q)) i (st0 t.mask (hashT P w k) (c + (q + 1)))) from by rw [hst]; exact hpr]
      dsimp only
      rw [st0_j] at hi
      have il : i < L.length := by
        have z := (List.getElem?_eq_some_iff.mp hi).1
        rw [Array.length_toList, R.pl] at z
        exact z
      obtain ⟨p, hp⟩ : exists p, L[i]? = some p := ⟨_, List.getElem?_eq_getElem il⟩
      have pm : p ∈ L := List.mem_of_getElem? hp
      have go : wpAny (model P w) A (searchRest a (.ref x) (hashT P w k) true f es t (way t.mask (hashT P w k) (c + q)) i (st0 t.mask (hashT P w k) (c + (q + 1)))) Q E s := by
        unfold searchRest
        rw [R.row hp]
        dsimp only
        refine wpAny_bind (wpAny_holding (wpAny_eqBool_tuple hu (R.tup p pm) hx ?_))
        refine wpAny_bind (wpAny_setState_of ho hd R.fits ?_)
        dsimp only
        by_cases kk : p.1 = k
        · refine wp_if_pos (by simp [kk]) ?_
          exact wpAny_pure (yes (List.mem_map.mpr ⟨p, pm, kk⟩))
        · refine wp_if_neg (by simp [kk]) ?_
          try refine wpAny_bind (wpAny_pure ?_)
          rw [sameMem]
          dsimp only
          have sl : t.slot (way t.mask (hashT P w k) (c + q)) = .live i := slot_live R.tab.ris hi
          simp only [if_true, sl, R.row hp]
          refine wpAny_bind (wpAny_isSame_ref_self (wpAny_bind (wpAny_pure ?_)))
          simp only [if_true]
          refine wp_if_neg (by simp [kk]) ?_
          refine findT_from R hx hu kf kn kb yes no f (c + (q + 1)) _ rfl (by omega) (by omega) fun j r hj hr => ?_
          obtain ⟨c', z1, z2, z3⟩ := lies j r hj hr
          refine ⟨c', ?_, z2, z3⟩
          rcases Nat.lt_trichotomy c' (c + q) with z | z | z
          · exact absurd ((hashes j r hj).trans (congrArg (hashT P w) hr)) (hno (c' - c) j (by omega) (by rw [st0_j, show c + (c' - c) = c' by omega]; exact z3))
          · rw [z] at z3
            have s0 := slot_live R.tab.ris z3
            rw [sl] at s0
            injection s0 with s0
            rw [← s0, hp] at hj
            exact absurd ((congrArg Prod.fst (Option.some.inj hj)).trans hr) kk
          · omega
      by_cases ld : t.led = true
      · refine wp_if_neg (by simp [ld]) ?_
        try refine wpAny_bind (wpAny_pure ?_)
        exact go
      · refine wp_if_pos (by simp [ld]) ?_
        refine wpAny_bind (seen_mix hx (fun y my => ?_) ?_)
        · obtain ⟨e, me, ee⟩ := List.mem_map.mp my
          have me2 : e ∈ es.toList := by
            have z : e ∈ es ∧ e.1 = hashT P w k := by simpa using me
            simpa using z.1
          rw [R.rows] at me2
          obtain ⟨r, mr, er⟩ := List.mem_map.mp me2
          exact ⟨r.1, r.2, by rw [← ee, ← er], R.tup r mr⟩
        · refine wp_if_neg (by decide) ?_
          try refine wpAny_bind (wpAny_pure ?_)
          exact go
    · rw [show t.probe (fun i => (es[i]?.map (·.1)).getD 0) (hashT P w k) (stand.getD (t.probeStart (hashT P w k))) = some (.empty (way t.mask (hashT P w k) K) none) from by
        rw [hst]
        rw [st0_j, show c + (K - c) = K by omega] at hpr
        exact hpr]
      dsimp only
      refine wpAny_pure (no fun hm => ?_)
      obtain ⟨r, mr, er⟩ := List.mem_map.mp hm
      obtain ⟨j, jl, ej⟩ := List.getElem_of_mem mr
      have hj : L[j]? = some r := by rw [List.getElem?_eq_getElem jl, ej]
      obtain ⟨c', z1, z2, z3⟩ := lies j r hj er
      exact hno (c' - c) j (by omega) (by rw [st0_j, show c + (c' - c) = c' by omega]; exact z3) ((hashes j r hj).trans (congrArg (hashT P w) er))
theorem findT (R : SetT P w s.heap a L es ep t) {x : Addr} {k : List Key} (hx : TupK P w s.heap k x) (hu : A.units < cLine) {Q : SetFound -> Shared -> Prop}
    (yes : k ∈ L.map (·.1) -> Q (.there none) s)
    (no : forall K, k ∉ L.map (·.1) -> way t.mask (hashT P w k) K ∉ t.place.toList -> (forall c, c < K -> way t.mask (hashT P w k) c ∈ t.place.toList) -> Q (.free (way t.mask (hashT P w k) K) false) s) :
    wpAny (model P w) A (setSearch a (.ref x) (hashT P w k) true) Q E s := by
  have rm := R.room
  have hl : (hsT P w L).length = L.length := List.length_map _
  obtain ⟨K, kf, kn, kb⟩ := R.tab.first (by rw [hl]; omega) (hashT P w k)
  have big : 10 * SetTable.turns t.mask ≤ 1420 := by
    unfold SetTable.turns
    rcases R.tab.mok with e | e | e <;> omega
  unfold setSearch
  refine findT_from R hx hu kf kn kb yes (fun hn => no K hn kn kb) 100000 0 none rfl (Nat.zero_le _) (by omega) fun i p hp hk => ?_
  have hi : (hsT P w L)[i]? = some (hashT P w k) := by rw [hsT, List.getElem?_map, hp, ← hk] <;> rfl
  have il : i < t.place.toList.length := by
    rw [Array.length_toList, R.pl]
    exact (List.getElem?_eq_some_iff.mp hp).1
  obtain ⟨c, z, e⟩ := R.tab.before kn hi (List.getElem?_eq_getElem il)
  exact ⟨c, Nat.zero_le _, z, by rw [List.getElem?_eq_getElem il, e]⟩
end
end Ak
/-! Ak 18: adding to a set of tuples. -/
namespace Ak
open PySem PySem.Spec PyProof.Rows L2
section
variable {P : Program} {w : World} {A : Around} {E : Value -> Shared -> Prop} {s : Shared}
theorem tup_but {h h' : Heap} {k : List Key} {a b : Addr} {o : Obj} {es : Array (Int × Value)} {ep : Nat} {t : SetTable} (x : TupK P w h k b) (ho : h.get? a = some o) (hd : o.data = .set es ep t) (sb : Heap.SameBut a h h') : TupK P w h' k b := by
  obtain ⟨ob, its, n, g, gc, gd, gi⟩ := x
  refine ⟨ob, its, n, (sb.2 b fun e => ?_).trans g, gc, gd, gi⟩
  rw [e, ho] at g
  injection g with g
  rw [← g, hd] at gd
  exact nomatch gd
theorem tup_on {h h' : Heap} {k : List Key} {b : Addr} (x : TupK P w h k b) (keep : forall c o, h.get? c = some o -> h'.get? c = some o) : TupK P w h' k b := by
  obtain ⟨ob, its, n, g, r⟩ := x
  exact ⟨ob, its, n, keep b ob g, r⟩
theorem mid_perm {α : Type} (l : List α) (n : Nat) (x : α) : (l.take n ++ x :: l.drop n).Perm (x :: l) := by
  have z : (l.take n ++ x :: l.drop n).Perm (x :: (l.take n ++ l.drop n)) := List.perm_middle
  rwa [List.take_append_drop] at z
theorem take_get {α : Type} (l : List α) : forall n, n ≤ l.length -> (List.range n).filterMap (fun i => l[i]?) = l.take n
  | 0, _ => rfl
  | n + 1, h => by
    rw [List.range_succ, List.filterMap_append, take_get l n (Nat.le_of_lt h), List.take_succ, List.getElem?_eq_getElem h, List.filterMap_cons_some (List.getElem?_eq_getElem h)] <;> rfl
/-- a table laid anew keeps the rows, in another order -/
theorem rows_order {L : TL} {es : Array (Int × Value)} {order : Array Nat} (hr : es.toList = rowsT P w L) (hp : order.toList.Perm (List.range L.length)) :
    exists L2, (order.filterMap (es[·]?)).toList = rowsT P w L2 ∧ L2.Perm L ∧ hsT P w L2 = order.toList.map fun i => (es.map (·.1)).getD i 0 := by
  have row : forall i (h : i < L.length), es[i]? = some (hashT P w (L[i]).1, Value.ref (L[i]).2) := fun i h => by
    rw [← Array.getElem?_toList, hr, rowsT, List.getElem?_map, List.getElem?_eq_getElem h] <;> rfl
  have go : forall l : List Nat, (forall i, i ∈ l -> i < L.length) -> l.filterMap (fun i => es[i]?) = rowsT P w (l.filterMap fun i => L[i]?) ∧ hsT P w (l.filterMap fun i => L[i]?) = l.map fun i => (es.map (·.1)).getD i 0 := by
    intro l
    induction l with
    | nil => intro _; exact ⟨rfl, rfl⟩
    | cons i l ih =>
      intro hl
      have il := hl i List.mem_cons_self
      obtain ⟨z1, z2⟩ := ih fun j hj => hl j (List.mem_cons_of_mem _ hj)
      have e4 : (es.map (·.1)).getD i 0 = hashT P w (L[i]).1 := by
        have e5 : (es.map (·.1))[i]? = some (hashT P w (L[i]).1) := by rw [Array.getElem?_map, row i il] <;> rfl
        simp [Array.getD_eq_getD_getElem?, e5]
      rw [List.filterMap_cons_some (row i il), List.filterMap_cons_some (List.getElem?_eq_getElem il), z1, List.map_cons, e4, ← z2]
      exact ⟨rfl, rfl⟩
  obtain ⟨z1, z2⟩ := go order.toList fun i hi => List.mem_range.mp (hp.mem_iff.mp hi)
  refine ⟨order.toList.filterMap fun i => L[i]?, by first | (rw [Array.toList_filterMap]; exact z1) | simpa using z1, ?_, z2⟩
  have z3 := hp.filterMap fun i => L[i]?
  rw [take_get L L.length (Nat.le_refl _), List.take_length] at z3
  exact z3
variable {a : Addr} {L : TL} {es : Array (Int × Value)} {ep : Nat} {t : SetTable}
theorem relayT {o : Obj} (ho : s.heap.get? a = some o) (hex : o.ExactSet) (hd : o.data = .set es ep t) (rows : es.toList = rowsT P w L) (pl : t.place.size = es.size) (dm : t.dummies = #[]) (fl : es.size ≤ t.mask)
    (nd : (L.map (·.1)).Nodup) (tup : forall p, p ∈ L -> TupK P w s.heap p.1 p.2) (ld : w.params.followText "set-order" = true ∨ t.led = true) (few : L.length < 64) {wanted m : Nat}
    (hw : SetTable.sizeAbove wanted - 1 = m) (hm : MaskOk m) (hw2 : SetTable.sizeAbove wanted ≤ 128) (hn : L.length * 5 < m * 3) {Q : Unit -> Shared -> Prop}
    (q : forall h' L' es' ep' t', Heap.SameBut a s.heap h' -> SetT P w h' a L' es' ep' t' -> L'.Perm L -> Q () { s with heap := h' }) : wpAny (model P w) A (setRelay a wanted) Q E s := by
  have hl : es.size = L.length := by rw [← Array.length_toList, rows, rowsT, List.length_map]
  have fits : t.fits es.size = true := by
    unfold SetTable.fits SetTable.fill
    rw [dm, Bool.and_eq_true, beq_iff_eq, decide_eq_true_eq]
    show t.place.size = es.size ∧ t.place.size + 0 ≤ t.mask
    omega
  obtain ⟨t', order, e, hp, T, em, el, _, ed⟩ := relaid_ok t (hs := es.map (·.1)) (wanted := wanted) hw hm (by rw [Array.size_map, hl]; omega)
  rw [Array.size_map, hl] at hp
  obtain ⟨L2, r1, r2, r3⟩ := rows_order rows hp
  rw [← r3] at T
  have hl2 : (order.filterMap (es[·]?)).size = es.size := by rw [← Array.length_toList, r1, rowsT, List.length_map, r2.length_eq, hl]
  rw [setRelay_eq]
  refine wpAny_bind (wpAny_setState_of ho hd fits ?_)
  dsimp only
  refine wp_if_neg (by rw [sizeLine_eq]; omega) ?_
  try refine wpAny_bind (wpAny_pure ?_)
  rw [e]
  dsimp only
  refine wpAny_bind ?_
  refine wp_if_neg (by rw [hl2]; simp) ?_
  try refine wpAny_bind (wpAny_pure ?_)
  refine wpAny_pure ?_
  dsimp only
  refine wpAny_storeSet_of ho hd ?_ (by rw [hl2, hl, sizeLine_eq]; omega)
  have sb : Heap.SameBut a s.heap (s.heap.update a (Obj.putSet (order.filterMap (es[·]?)) t')) := Heap.SameBut.update ..
  refine q _ L2 (order.filterMap (es[·]?)) (ep + 1) t' sb ⟨⟨_, store_at ho hd, ⟨hex.1, hex.2.1, hex.2.2⟩, rfl⟩, r1, T, (r2.map (·.1)).nodup_iff.mpr nd, fun p pm => tup_but (tup p (r2.mem_iff.mp pm)) ho hd sb, by rw [el]; exact ld, ?_, by rw [r2.length_eq]; exact few⟩ r2
  rw [r2.length_eq, em]
  exact hn
theorem TabOk.plainOff {t : SetTable} {hs : List Int} {b : Bool} (T : TabOk t hs) : TabOk { t with plain := b } hs := ⟨T.ris, T.dm, T.sz, T.mok, T.bd, T.reach⟩
/-- a row goes in -/
theorem addT (R : SetT P w s.heap a L es ep t) {x : Addr} {k : List Key} (hx : TupK P w s.heap k x) (hu : A.units < cLine) (few : L.length + 1 < 64) {Q : Bool -> Shared -> Prop}
    (q : forall b h' L' es' ep' t', Heap.SameBut a s.heap h' -> SetT P w h' a L' es' ep' t' -> (k ∈ L.map (·.1) -> L' = L) -> (k ∉ L.map (·.1) -> L'.Perm ((k, x) :: L)) -> Q b { s with heap := h' }) :
    wpAny (model P w) A (setAddHashed a (.ref x) (hashT P w k)) Q E s := by
  obtain ⟨o, ho, hex, hd⟩ := R.ob
  have sz := R.size
  have rm := R.room
  unfold setAddHashed
  refine wpAny_holding ?_
  rw [show (100000 : Nat) = 99999 + 1 from rfl, setAddHashedIn_succ]
  refine wpAny_bind (wpAny_setState_of ho hd R.fits ?_)
  dsimp only
  refine wp_if_neg (by simp [byScan, Value.scannable]) ?_
  try refine wpAny_bind (wpAny_pure ?_)
  refine wpAny_bind (findT R hx hu (fun hm => ?_) fun K hm kn kb => ?_)
  · dsimp only
    exact wpAny_pure (q false s.heap L es ep t (Heap.SameBut.refl a s.heap) R (fun _ => rfl) fun z => absurd hm z)
  dsimp only
  refine wpAny_bind (wpAny_setState_of ho hd R.fits ?_)
  dsimp only
  obtain ⟨p1, p2, p3, p4, p5, _, _, _, p9⟩ := R.tab.put kn kb
  generalize hpt : t.put (way t.mask (hashT P w k) K) = pt at p1 p3 p4 p5 p9 ⊢
  obtain ⟨t1, n⟩ := pt
  dsimp only at p1 p3 p4 p5 p9 ⊢
  subst p1
  have perm := mid_perm L (SetTable.below t.place (way t.mask (hashT P w k) K)) (k, x)
  have rows : (SetTable.insertAt es (SetTable.below t.place (way t.mask (hashT P w k) K)) (hashT P w k, Value.ref x)).toList = rowsT P w (L.take (SetTable.below t.place (way t.mask (hashT P w k) K)) ++ (k, x) :: L.drop (SetTable.below t.place (way t.mask (hashT P w k) K))) := by
    rw [SetTable.toList_insertAt, R.rows, rowsT, rowsT, List.map_append, List.map_cons, List.map_take, List.map_drop]
  have hh : hsT P w (L.take (SetTable.below t.place (way t.mask (hashT P w k) K)) ++ (k, x) :: L.drop (SetTable.below t.place (way t.mask (hashT P w k) K))) = (hsT P w L).take (SetTable.below t.place (way t.mask (hashT P w k) K)) ++ hashT P w k :: (hsT P w L).drop (SetTable.below t.place (way t.mask (hashT P w k) K)) := by
    rw [hsT, hsT, List.map_append, List.map_cons, List.map_take, List.map_drop]
  rw [← hh] at p3
  generalize SetTable.below t.place (way t.mask (hashT P w k) K) = n at p2 p3 perm rows ⊢
  have len1 : (L.take n ++ (k, x) :: L.drop n).length = L.length + 1 := perm.length_eq
  generalize L.take n ++ (k, x) :: L.drop n = L1 at p3 perm rows len1
  generalize hes : SetTable.insertAt es n (hashT P w k, Value.ref x) = es1 at rows ⊢
  have sz1 : es1.size = L.length + 1 := by rw [← Array.length_toList, rows, rowsT, List.length_map, len1]
  have nd1 : (L1.map (·.1)).Nodup := by
    refine (perm.map (·.1)).nodup_iff.mpr ?_
    rw [List.map_cons]
    exact List.nodup_cons.mpr ⟨hm, R.nd⟩
  have ld1 : w.params.followText "set-order" = true ∨ t1.led = true := by rw [p5]; exact R.led
  have last : forall t2 : SetTable, TabOk t2 (hsT P w L1) -> t2.mask = t.mask -> (w.params.followText "set-order" = true ∨ t2.led = true) -> t2.fill = L.length + 1 ->
      wpAny (model P w) A (do
        storeSet a es1 t2
        if (!false && t2.tooFull) = true then setRelay a (SetTable.grown (es.size + 1))
        return true) Q E s := by
    intro t2 T2 m2 l2 f2
    refine wpAny_bind (wpAny_storeSet_of ho hd ?_ (by rw [sz1, sizeLine_eq]; omega))
    have sb : Heap.SameBut a s.heap (s.heap.update a (Obj.putSet es1 t2)) := Heap.SameBut.update ..
    have ho1 := store_at (es' := es1) (t' := t2) ho hd
    generalize s.heap.update a (Obj.putSet es1 t2) = h1 at sb ho1 ⊢
    have tup1 : forall p, p ∈ L1 -> TupK P w h1 p.1 p.2 := fun p pm => by
      rcases List.mem_cons.mp (perm.mem_iff.mp pm) with e | pm
      · rw [e]
        exact tup_but hx ho hd sb
      · exact tup_but (R.tup p pm) ho hd sb
    by_cases full : t2.tooFull = true
    · first
        | (refine wpAny_bind ?_; refine wp_if_pos (by simp [full]) ?_)
        | (refine wp_if_pos (by simp [full]) ?_; refine wpAny_bind ?_)
      have many : (L.length + 1) * 5 ≥ t2.mask * 3 := by
        have z := full
        unfold SetTable.tooFull at z
        rw [decide_eq_true_eq, f2] at z
        exact z
      have two : (t.mask = 7 ∧ L.length = 4) ∨ (t.mask = 31 ∧ L.length = 18) := by
        rcases R.tab.mok with e | e | e
        · left
          rw [m2, e] at many
          rw [e] at rm
          exact ⟨e, by omega⟩
        · right
          rw [m2, e] at many
          rw [e] at rm
          exact ⟨e, by omega⟩
        · rw [m2, e] at many
          omega
      have pl1 : t2.place.size = es1.size := by rw [T2.sz, hsT, List.length_map, len1, sz1]
      rw [sz]
      have go : forall m, SetTable.sizeAbove (SetTable.grown (L.length + 1)) - 1 = m -> MaskOk m -> SetTable.sizeAbove (SetTable.grown (L.length + 1)) ≤ 128 -> (L.length + 1) * 5 < m * 3 ->
          wpAny (model P w) A (setRelay a (SetTable.grown (L.length + 1))) (fun _ s' => wpAny (model P w) A (pure true) Q E s') E { s with heap := h1 } := fun m z1 z2 z3 z4 => by
        refine relayT (s := { s with heap := h1 }) ho1 ⟨hex.1, hex.2.1, hex.2.2⟩ rfl rows pl1 T2.dm (by rw [sz1, m2]; rcases two with ⟨e, e2⟩ | ⟨e, e2⟩ <;> omega) nd1 tup1 l2 (by rw [len1]; exact few) z1 z2 z3 (by rw [len1]; exact z4) ?_
        intro h2 L2 es2 ep2 t3 sb2 R2 perm2
        exact wpAny_pure (q true h2 L2 es2 ep2 t3 (sb.trans sb2) R2 (fun z => absurd z hm) fun _ => perm2.trans perm)
      rcases two with ⟨_, e2⟩ | ⟨_, e2⟩
      · exact go 31 (by rw [e2, size_20]) (.inr (.inl rfl)) (by rw [e2, size_20]; decide) (by omega)
      · exact go 127 (by rw [e2, size_76]) (.inr (.inr rfl)) (by rw [e2, size_76]; decide) (by omega)
    · first
        | refine wp_if_neg (by simp [full]) ?_
        | (refine wpAny_bind ?_; refine wp_if_neg (by simp [full]) ?_; refine wpAny_pure ?_)
      refine wpAny_pure (q true h1 L1 es1 (ep + 1) t2 sb ⟨⟨_, ho1, ⟨hex.1, hex.2.1, hex.2.2⟩, rfl⟩, rows, T2, nd1, tup1, l2, ?_, by rw [len1]; exact few⟩ (fun z => absurd z hm) fun _ => perm)
      have z := full
      unfold SetTable.tooFull at z
      rw [decide_eq_true_eq, f2] at z
      rw [len1]
      omega
  have fl : t1.fill = L.length + 1 := by rw [p9, hsT, List.length_map]
  have tail2 : forall c : Bool, wpAny (model P w) A (do
        storeSet a es1 (if c = true then t1 else { t1 with plain := false })
        if (!false && (if c = true then t1 else { t1 with plain := false } : SetTable).tooFull) = true then setRelay a (SetTable.grown (es.size + 1))
        return true) Q E s := fun c => by
    cases c with
    | true => exact last t1 p3 p4 ld1 fl
    | false => exact last _ (TabOk.plainOff p3) p4 ld1 fl
  by_cases pln : t1.plain = true
  · first
      | (refine wpAny_bind ?_; refine wp_if_pos pln ?_; refine hby_tup hx fun c => ?_)
      | refine wp_if_pos pln (wpAny_bind (hby_tup hx fun c => ?_))
    exact tail2 c
  · first
      | (refine wpAny_bind ?_; refine wp_if_neg pln ?_; refine wpAny_pure ?_)
      | refine wp_if_neg pln (wpAny_bind (wpAny_pure ?_))
    exact tail2 true
end
end Ak
/-! Ak 19: sets of flat keys; set(xs). -/
namespace Ak
open PySem PySem.Spec PyProof.Rows L2
section
variable {P : Program} {w : World} {A : Around} {E : Value -> Shared -> Prop} {s : Shared}
abbrev KL : Type := List (Key × Value)
def rowsF (w : World) (L : KL) : List (Int × Value) := L.map fun p => (keyH w p.1, p.2)
structure SetF (w : World) (h : Heap) (a : Addr) (L : KL) (es : Array (Int × Value)) (ep : Nat) (t : SetTable) : Prop where
  ob : exists o, h.get? a = some o ∧ o.ExactSet ∧ o.data = .set es ep t
  rows : es.toList.Perm (rowsF w L)
  isk : forall p, p ∈ L -> keyIs p.1 p.2 = true
  nd : (L.map (·.1)).Nodup
  ris : Ris t.place.toList
  fits : t.fits es.size = true
  led : w.params.followText "set-order" = true ∨ t.led = true
  few : L.length < 64
variable {a : Addr} {L : KL} {es : Array (Int × Value)} {ep : Nat} {t : SetTable}
theorem key_scn {k : Key} {v : Value} (r : keyIs k v = true) : v.scannable = true := by
  rcases keyIs_shape r with ⟨i, t, e1, e2⟩ | ⟨x, t, e1, e2⟩
  · subst e2
    rfl
  · subst e2
    rfl
theorem SetF.elems (R : SetF w s.heap a L es ep t) : ElemsOf (mixKind P w) es.toList := fun e me => by
  obtain ⟨p, pm, ep⟩ := List.mem_map.mp (R.rows.mem_iff.mp me)
  have z := R.isk p pm
  subst ep
  exact ⟨⟨p.1, z, rfl⟩, key_scn z⟩
theorem SetF.size (R : SetF w s.heap a L es ep t) : es.size = L.length := by
  rw [← Array.length_toList, R.rows.length_eq, rowsF, List.length_map]
theorem addF_end {g : Bool -> Sem Unit} (hg : forall (b : Bool) (s1 : Shared) (Q' : Unit -> Shared -> Prop), Q' () s1 -> wpAny (model P w) A (g b) Q' E s1)
    {o : Obj} (ho : s.heap.get? a = some o) (hex : o.ExactSet) (hd : o.data = .set es ep t)
    {es1 : Array (Int × Value)} {t2 : SetTable} {L1 : KL} (rows : es1.toList.Perm (rowsF w L1)) (isk : forall p, p ∈ L1 -> keyIs p.1 p.2 = true) (nd : (L1.map (·.1)).Nodup)
    (few : L1.length < 64) (fit : t2.fits es1.size = true) (ris : Ris t2.place.toList) (led : w.params.followText "set-order" = true ∨ t2.led = true) {was : Bool} {R : Option Bool -> Shared -> Prop}
    (q : forall h' es' ep' t', Heap.SameBut a s.heap h' -> SetF w h' a L1 es' ep' t' -> R (some true) { s with heap := h' }) :
    wpAny (model P w) A (do
        storeSet a es1 t2
        if (!was && t2.tooFull) = true then do
            g (relayAll t2 es1 (SetTable.grown es1.size)).2.2
            storeSet a (relayAll t2 es1 (SetTable.grown es1.size)).1 (relayAll t2 es1 (SetTable.grown es1.size)).2.1
            pure (some true)
          else pure (some true)) R E s := by
  have sz1 : es1.size = L1.length := by rw [← Array.length_toList, rows.length_eq, rowsF, List.length_map]
  refine wpAny_bind (wpAny_storeSet_of ho hd ?_ (by rw [sz1, sizeLine_eq]; omega))
  have ho1 := store_at (es' := es1) (t' := t2) ho hd
  have sb1 := Heap.SameBut.update s.heap a (Obj.putSet es1 t2)
  split
  · have y1 := relayAll_perm t2 es1 (SetTable.grown es1.size)
    have y2 := relayAll_fits t2 es1 (SetTable.grown es1.size)
    have y3 := relayAll_ris t2 es1 (SetTable.grown es1.size)
    have y4 := relayAll_led t2 es1 (SetTable.grown es1.size)
    generalize relayAll t2 es1 (SetTable.grown es1.size) = Z at y1 y2 y3 y4 ⊢
    obtain ⟨es2, t3, gave⟩ := Z
    dsimp only at y1 y2 y3 y4 ⊢
    have sz2 : es2.size = L1.length := by rw [← Array.length_toList, y1.length_eq, Array.length_toList, sz1]
    refine wpAny_bind (hg _ _ _ ?_)
    refine wpAny_bind (wpAny_storeSet_of ho1 rfl ?_ (by rw [sz2, sizeLine_eq]; omega))
    have ho2 := store_at (es' := es2) (t' := t3) ho1 rfl
    exact wpAny_pure (q _ es2 _ t3 (sb1.trans (Heap.SameBut.update _ a _)) ⟨⟨_, ho2, hex, rfl⟩, y1.trans rows, isk, nd, y3, y2, led.imp id fun z => by rw [y4]; exact z, few⟩)
  · exact wpAny_pure (q _ es1 _ t2 sb1 ⟨⟨_, ho1, hex, rfl⟩, rows, isk, nd, ris, fit, led, few⟩)
theorem addF (R : SetF w s.heap a L es ep t) {v : Value} {k : Key} (hk : keyIs k v = true) (few : L.length + 1 < 64) {Q : Bool -> Shared -> Prop}
    (q : forall b h' L' es' ep' t', Heap.SameBut a s.heap h' -> SetF w h' a L' es' ep' t' -> (k ∈ L.map (·.1) -> L' = L) -> (k ∉ L.map (·.1) -> L'.Perm ((k, v) :: L)) -> Q b { s with heap := h' }) :
    wpAny (model P w) A (setAddHashed a v (keyH w k)) Q E s := by
  obtain ⟨o, ho, hex, hd⟩ := R.ob
  have el : ElemsOf (mixKind P w) es.toList := R.elems
  have sz := R.size
  have bd : es.size < scanBound := by
    rw [sz]
    unfold scanBound
    omega
  have hkey : (mixKind P w).is k v = true := hk
  have hsc := key_scn hk
  unfold setAddHashed setAddHashedIn
  refine wpAny_holding (wpAny_bind (wpAny_setState_of ho hd R.fits ?_))
  dsimp only
  rw [byScan_of hsc bd el]
  simp only [↓reduceIte]
  unfold setAddByScan
  refine wpAny_bind ?_
  refine wpAny_bind (wpAny_rule ?_)
  refine wpAny_bind (wpAny_setScan_of (knd := mixKind P w) hkey ho hd R.fits el ?_)
  have rowk : forall e, e ∈ es.toList -> (mixKind P w).is k e.2 = true -> k ∈ L.map (·.1) := fun e me z => by
    obtain ⟨p, pm, ep⟩ := List.mem_map.mp (R.rows.mem_iff.mp me)
    have z2 := R.isk p pm
    subst ep
    exact List.mem_map.mpr ⟨p, pm, (mixKind P w).inj _ _ _ z2 z⟩
  cases hfi : List.findIdx? (fun e => (mixKind P w).is k e.2) es.toList with
  | some j =>
    dsimp only
    obtain ⟨hj, pj, _⟩ := List.findIdx?_eq_some_iff_getElem.mp hfi
    refine wpAny_pure (wpAny_pure ?_)
    have km := rowk _ (List.getElem_mem hj) pj
    exact q _ s.heap L es ep t (Heap.SameBut.refl a s.heap) R (fun _ => rfl) fun z => absurd km z
  | none =>
    dsimp only
    have kn : k ∉ L.map (·.1) := fun z => by
      obtain ⟨p, pm, e⟩ := List.mem_map.mp z
      have me : (keyH w p.1, p.2) ∈ es.toList := R.rows.mem_iff.mpr (List.mem_map.mpr ⟨p, pm, rfl⟩)
      have c := List.findIdx?_eq_none_iff.mp hfi _ me
      have z2 := R.isk p pm
      rw [e] at z2
      have c2 : (mixKind P w).is k p.2 = false := by simpa using c
      rw [show (mixKind P w).is k p.2 = true from z2] at c2
      cases c2
    have hgw : forall (b : Bool) {s1 : Shared} {Q' : Unit -> Shared -> Prop}, Q' () s1 -> wpAny (model P w) A (match b with | true => rule "set.scan.the-table-gave-way" | false => pure ()) Q' E s1 :=
      fun b s1 Q' z => by cases b <;> first | exact wpAny_pure z | exact wpAny_rule z
    have y1 := layNew_perm t es ((mixKind P w).hash k) v
    have y2 := layNew_fits t es ((mixKind P w).hash k) v
    have y3 := layNew_ris t es ((mixKind P w).hash k) v R.ris
    have y4 := layNew_led t es ((mixKind P w).hash k) v
    rw [show keyH w k = (mixKind P w).hash k from rfl]
    generalize layNew t es ((mixKind P w).hash k) v = Z at y1 y2 y3 y4 ⊢
    obtain ⟨es1, t1, was, gave⟩ := Z
    dsimp only at y1 y2 y3 y4 ⊢
    rw [Array.toList_push] at y1
    have rows : es1.toList.Perm (rowsF w ((k, v) :: L)) := y1.trans ((List.perm_append_singleton _ _).trans (R.rows.cons _))
    have isk : forall p, p ∈ (k, v) :: L -> keyIs p.1 p.2 = true := fun p pm => by
      rcases List.mem_cons.mp pm with e | pm
      · rw [e]
        exact hk
      · exact R.isk p pm
    have nd : (((k, v) :: L).map (·.1)).Nodup := List.nodup_cons.mpr ⟨kn, R.nd⟩
    have led : w.params.followText "set-order" = true ∨ t1.led = true := R.led.imp id fun z => by rw [y4]; exact z
    have fin : forall h' es' ep' t', Heap.SameBut a s.heap h' -> SetF w h' a ((k, v) :: L) es' ep' t' -> Q true { s with heap := h' } := fun h' es' ep' t' sb r => q true h' _ es' ep' t' sb r (fun z => absurd z kn) fun _ => List.Perm.refl _
    refine wpAny_bind (hgw _ ?_)
    split
    · refine wpAny_bind ?_
      rw [hashByValue_scannable 8 hsc]
      refine wpAny_pure ?_
      refine addF_end ?_ ho hex hd rows isk nd few ?_ ?_ ?_ ?_
      · intro b s1 Q' z
        cases b <;> first | exact wpAny_pure z | exact wpAny_rule z
      · first | (split <;> first | exact y2 | exact SetTable.fits_plain_off y2) | exact y2
      · first | (split <;> exact y3) | exact y3
      · first | (split <;> exact led) | exact led
      · intro h' es' ep' t' sb r
        dsimp only
        exact wpAny_pure (fin h' es' ep' t' sb r)
    · refine wpAny_bind (wpAny_pure ?_)
      simp only [↓reduceIte]
      refine addF_end ?_ ho hex hd rows isk nd few y2 y3 led ?_
      · intro b s1 Q' z
        cases b <;> first | exact wpAny_pure z | exact wpAny_rule z
      · intro h' es' ep' t' sb r
        dsimp only
        exact wpAny_pure (fin h' es' ep' t' sb r)
end
/-! ### what a set has got -/
structure Gat {κ β : Type} (ks : List (κ × β)) (i : Nat) (L : List (κ × β)) : Prop where
  sub : forall p, p ∈ L -> p ∈ ks.take i
  all : forall p, p ∈ ks.take i -> p.1 ∈ L.map (·.1)
  len : L.length ≤ i
theorem Gat.zero {κ β : Type} (ks : List (κ × β)) : Gat ks 0 [] := ⟨fun p h => (by cases h), fun p h => (by simp at h), Nat.le_refl _⟩
theorem Gat.next {κ β : Type} {ks L L' : List (κ × β)} {i : Nat} {x : κ × β} (g : Gat ks i L) (h : ks[i]? = some x) (c1 : x.1 ∈ L.map (·.1) -> L' = L) (c2 : x.1 ∉ L.map (·.1) -> L'.Perm (x :: L)) : Gat ks (i + 1) L' := by
  have tk : ks.take (i + 1) = ks.take i ++ [x] := by rw [List.take_succ, h] <;> rfl
  rcases Classical.em (x.1 ∈ L.map (·.1)) with c | c
  · rw [c1 c]
    refine ⟨fun p m => by rw [tk]; exact List.mem_append_left _ (g.sub p m), fun p m => ?_, Nat.le_succ_of_le g.len⟩
    rw [tk] at m
    rcases List.mem_append.mp m with z | z
    · exact g.all p z
    · rw [List.mem_singleton.mp z]
      exact c
  · have pm := c2 c
    refine ⟨fun p m => ?_, fun p m => ?_, ?_⟩
    · rw [tk]
      rcases List.mem_cons.mp (pm.mem_iff.mp m) with e | z
      · rw [e]
        exact List.mem_append_right _ (List.mem_singleton.mpr rfl)
      · exact List.mem_append_left _ (g.sub p z)
    · rw [(pm.map (·.1)).mem_iff, List.map_cons]
      rw [tk] at m
      rcases List.mem_append.mp m with z | z
      · exact List.mem_cons_of_mem _ (g.all p z)
      · rw [List.mem_singleton.mp z]
        exact List.mem_cons_self
    · rw [pm.length_eq, List.length_cons]
      exact Nat.succ_le_succ g.len
/-- what a kind of set must do -/
structure Ksu (P : Program) (w : World) (u : Nat) (κ β : Type) (val : β -> Value) (ks : List (κ × β)) (h0 : Heap) (S : Addr) (Z : Heap -> List (κ × β) -> Prop) : Prop where
  fresh : forall h, h.get? S = some { cls := .type "set", dict := none, data := .set #[] 0 (.fresh 0 0 (!w.params.followText "set-order")) } -> Z h []
  move : forall L h h', Z h L -> (forall p, p ∈ L -> p ∈ ks) -> (forall o, h.get? S = some o -> h'.get? S = some o) -> (forall b o, h0.get? b = some o -> h'.get? b = some o) -> Z h' L
  add : forall {A : Around} {E : Value -> Shared -> Prop} {s : Shared} {i : Nat} {p : κ × β} {L : List (κ × β)} {Q : Bool -> Shared -> Prop}, A.units ≤ u -> ks[i]? = some p -> Z s.heap L -> L.length ≤ i -> (forall b o, h0.get? b = some o -> s.heap.get? b = some o) ->
    (forall b h' tk L', s.toks ≤ tk -> Heap.SameBut S s.heap h' -> Z h' L' -> (p.1 ∈ L.map (·.1) -> L' = L) -> (p.1 ∉ L.map (·.1) -> L'.Perm (p :: L)) -> Q b { s with heap := h', toks := tk }) -> wpAny (model P w) A (setAdd S (val p.2)) Q E s
section
variable {P : Program} {w : World} {A : Around} {E : Value -> Shared -> Prop} {s : Shared} {κ β : Type} {val : β -> Value} {ks : List (κ × β)} {h0 : Heap} {S : Addr} {Z : Heap -> List (κ × β) -> Prop} {u : Nat}
theorem upd_loop {I : Addr} {fp wr : List Addr} {G : Array GenState -> Array GenState -> Prop} {n : Nat} {Pv : Nat -> Value -> Prop} {St : Nat -> Shared -> Prop} {R : Result -> Shared -> Prop}
    (W : WalksS P w A.in1 I fp wr G n Pv St) (hu : A.in1.units ≤ u) (C : Ksu P w u κ β val ks h0 S Z) (hSf : S ∉ fp) (hn : n = ks.length) (hval : forall i v, Pv i v -> exists p, ks[i]? = some p ∧ v = val p.2)
    (hS0 : h0.get? S = none) (hw0 : forall b, b ∈ wr -> h0.get? b = none) :
    forall (k i : Nat) (s : Shared), n - i = k -> i ≤ n -> St i s -> (forall b o, h0.get? b = some o -> s.heap.get? b = some o) -> (exists L, Z s.heap L ∧ Gat ks i L) ->
      (forall s' L, Moved (S :: wr) G s s' -> Z s'.heap L -> Gat ks n L -> (forall b o, h0.get? b = some o -> s'.heap.get? b = some o) -> R (.ok (.ret .none)) s') ->
      codeAny (model P w) A (.builtin "set.update.loop" ⟨[.ref S, .ref I], []⟩) R s := by
  have away : S ∉ wr := fun h => hSf (W.sub _ h)
  have wider : forall b, b ∈ wr -> b ∈ S :: wr := fun b hb => List.mem_cons_of_mem _ hb
  have on : forall {s s' : Shared}, Moved wr G s s' -> (forall b o, h0.get? b = some o -> s.heap.get? b = some o) -> forall b o, h0.get? b = some o -> s'.heap.get? b = some o := fun m keep b o e =>
    m.heap b o (fun hb => by rw [hw0 b hb] at e; cases e) (keep b o e)
  intro k
  induction k with
  | zero =>
    intro i s z1 z2 st keep ⟨L, hz, g⟩ q
    have e : i = n := by omega
    subst e
    refine codeAny_builtin PyProof.Rows.F.entry_set_update_loop ?_
    rw [Around.under_plainId PyProof.Rows.F.plain_set_update_loop _]
    show wpAny _ A.in1 (pyNext (.ref I) >>= _) _ _ s
    refine wpAny_bind (W.done s _ _ st fun s' m => ?_)
    show wpAny _ A.in1 (ret Value.none) _ _ s'
    have keep' := on m keep
    exact wpAny_pure (q s' L (m.mono wider) (C.move L _ _ hz (fun p pm => List.mem_of_mem_take (g.sub p pm)) (fun o e => m.heap S o away e) keep') g keep')
  | succ k ih =>
    intro i s z1 z2 st keep ⟨L, hz, g⟩ q
    have lt : i < n := by omega
    refine codeAny_builtin PyProof.Rows.F.entry_set_update_loop ?_
    rw [Around.under_plainId PyProof.Rows.F.plain_set_update_loop _]
    show wpAny _ A.in1 (pyNext (.ref I) >>= _) _ _ s
    refine wpAny_bind (W.item i s _ _ lt st fun v s' pv st' m => ?_)
    obtain ⟨p, hp, ev⟩ := hval i v pv
    subst ev
    have keep' := on m keep
    have hz' : Z s'.heap L := C.move L _ _ hz (fun p pm => List.mem_of_mem_take (g.sub p pm)) (fun o e => m.heap S o away e) keep'
    show wpAny _ A.in1 (holding [val p.2] (setAdd S (val p.2)) >>= _) _ _ s'
    refine wpAny_bind (wpAny_holding ?_)
    refine C.add hu hp hz' g.len keep' fun b h' tk L' ltk sb hz2 c1 c2 => ?_
    have keep2 : forall b o, h0.get? b = some o -> h'.get? b = some o := fun b o e => (sb.2 b (fun z => by rw [z, hS0] at e; cases e)).trans (keep' b o e)
    refine wpAny_pure ⟨plainId_quiet PyProof.Rows.F.plain_set_update_loop _, ih (i + 1) _ (by omega) lt (W.frame _ s' _ _ st' ltk fun b hb o e => ?_) keep2 ⟨L', hz2, g.next hp c1 c2⟩ fun s2 L2 m2 hz3 g3 keep3 => ?_⟩
    · rw [sb.2 b (fun z : b = S => hSf (by rw [← z]; exact hb))]
      exact e
    · refine q s2 L2 (Moved.trans W.gtrans ((m.mono wider).then_heap ltk fun b o hb e => ?_) m2) hz3 g3 keep3
      rw [sb.2 b (fun z : b = S => hb (by rw [z]; exact List.mem_cons_self))]
      exact e
end
end Ak
/-! Ak 20: set(xs) of a list or a tuple. -/
namespace Ak
open PySem PySem.Spec PyProof.Rows L2
section
variable {P : Program} {w : World} {A : Around} {E : Value -> Shared -> Prop} {s : Shared} {κ β : Type} {val : β -> Value} {ks : List (κ × β)} {Z : Heap -> List (κ × β) -> Prop} {u : Nat}

theorem call_set_list {l : Addr} {items : Array Value} {Q : Value -> Shared -> Prop} (calm : A.handled = none) (hl : s.heap.IsList l items) (hit : items.toList = ks.map fun p => val p.2)
    (hu : A.units + 3 ≤ u) (C : Ksu P w u κ β val ks s.heap s.heap.objs.size Z)
    (q : forall (h' : Heap) (tk : Nat) L, Z h' L -> Gat ks ks.length L -> (forall b o, s.heap.get? b = some o -> h'.get? b = some o) -> Q (.ref s.heap.objs.size) { s with heap := h', toks := tk }) :
    wpAny (model P w) A (call (.type "set") [.ref l]) Q E s := by
  have isz : items.size = ks.length := by rw [← Array.length_toList, hit, List.length_map]
  obtain ⟨c0, tl0, mro0⟩ := PySem.F.called_set.mro
  have mk0 := PySem.F.called_set.made
  have sub0 := PySem.F.called_set.sub
  refine wpAny_call (codeAny_of_tree ?_)
  show wpAny _ _ (callAny (.type "set") _) _ _ _
  refine wpAny_pure ⟨Code.quiet_builtin _ (by decide +kernel), codeAny_builtin PySem.F.entry_type_call ?_⟩
  rw [Around.under_plain (weight_type_call_type "set" [.ref l] []) rfl]
  have f1 := PySem.F.called_set.notType
  have f2 := PySem.F.called_set.canCreate
  have f3 := PySem.F.typeCall_set_1 (.ref l)
  repeat (any_goals (first | assumption | wp_step))

  refine codeAny_mono (code_set_led1 (.ref l) (E := E) (Q₁ := fun ob s1 => ob = .ref s.heap.objs.size ∧ s1 = { s with heap := s.heap.push { cls := .type "set", dict := none, data := .set #[] 0 (.fresh 0 0 (!w.params.followText "set-order")) } }) ⟨rfl, rfl⟩) fun r s1 hr => ?_
  cases r with
  | error e => exact hr
  | ok fl =>
    cases fl with
    | next => exact hr.elim
    | brk => exact hr.elim
    | cont => exact hr.elim
    | ret ob =>
      obtain ⟨e1, e2⟩ := hr
      subst e1 e2
      have gS : (s.heap.push { cls := .type "set", dict := none, data := .set #[] 0 (.fresh 0 0 (!w.params.followText "set-order")) }).get? s.heap.objs.size = some { cls := .type "set", dict := none, data := .set #[] 0 (.fresh 0 0 (!w.params.followText "set-order")) } := Heap.get?_push_size _ rfl
      have tS : Shared.TypeIs { s with heap := s.heap.push { cls := .type "set", dict := none, data := .set #[] 0 (.fresh 0 0 (!w.params.followText "set-order")) } } (.ref s.heap.objs.size) "set" := ⟨_, gS, rfl⟩
      have f4 := PySem.F.called_set.init.lookup
      have f5 := PySem.F.called_set.init.bind (.ref s.heap.objs.size)
      repeat (any_goals (first | assumption | wp_step))

      refine codeAny_mono (codeAny_call_builtin (R := wants (fun r s2 => r = .none ∧ exists h' tk L, s2 = { s with heap := h', toks := tk } ∧ Z h' L ∧ Gat ks ks.length L ∧ (forall b o, s.heap.get? b = some o -> h'.get? b = some o)) E) PySem.F.called_set.init.plain PySem.F.entry_set_init (check_set_init_1 tS ?_)) fun r2 s2 hr2 => ?_
      · obtain ⟨ol, gl, cl, nl, dl⟩ := hl
        obtain ⟨ocls, odict, odata, oslots⟩ := ol
        simp only at cl dl
        subst cl dl
        have gl1 : (s.heap.push { cls := .type "set", dict := none, data := .set #[] 0 (.fresh 0 0 (!w.params.followText "set-order")) }).get? l = some { cls := .type "list", dict := odict, data := .seq items nl, slots := oslots } := Heap.get?_push_of_some _ gl
        have f6 := F.sub_list_set
        have f7 := F.sub_list_frozenset
        have f8 : (Value.type "list" == Value.type "dict") = false := by decide
        have il : (s.heap.push { cls := .type "set", dict := none, data := .set #[] 0 (.fresh 0 0 (!w.params.followText "set-order")) }).IsList l items := ⟨_, gl1, rfl, nl, rfl⟩
        unfold Builtin.«set.__init__» noKeywords Builtin.Frozenset.updateFrom
        generalize hPI : pyIter = PI
        wp_walk
        subst hPI

        refine wpAny_pyIter_list il ?_
        refine wpAny_bind (wpAny_runValue ?_)
        have lS : l < s.heap.objs.size := Heap.lt_size gl
        have calm3 : A.in1.in1.in1.handled = none := by simp [calm]
        have lI : l ≠ (s.heap.push { cls := .type "set", dict := none, data := .set #[] 0 (.fresh 0 0 (!w.params.followText "set-order")) }).objs.size := by
          rw [Heap.size_push]
          exact Nat.ne_of_lt (Nat.lt_succ_of_lt lS)
        have sf : s.heap.objs.size ∉ [(s.heap.push { cls := .type "set", dict := none, data := .set #[] 0 (.fresh 0 0 (!w.params.followText "set-order")) }).objs.size, l] := by
          rw [Heap.size_push]
          simp only [List.mem_cons, List.mem_singleton, List.not_mem_nil, or_false, not_or]
          exact ⟨Nat.ne_of_lt (Nat.lt_succ_self _), Nat.ne_of_gt lS⟩
        have each : forall (i : Nat) (v : Value), items[i]? = some v -> exists p, ks[i]? = some p ∧ v = val p.2 := fun i v hv => by
          rw [← Array.getElem?_toList, hit, List.getElem?_map] at hv
          cases hq : ks[i]? with
          | none =>
            rw [hq] at hv
            cases hv
          | some p =>
            rw [hq] at hv
            exact ⟨p, rfl, (Option.some.inj hv).symm⟩
        have fresh : forall b, s.heap.objs.size ≤ b -> s.heap.get? b = none := fun b hb => by
          cases z : s.heap.get? b with
          | none => rfl
          | some o => exact absurd (Nat.lt_of_lt_of_le (Heap.lt_size z) hb) (Nat.lt_irrefl _)
        refine upd_loop ((Walks.list calm3 _ l lI items).toS) (by show A.units + 3 ≤ u; exact hu) C sf isz each (fresh _ (Nat.le_refl _)) (fun b hb => fresh b (by
            rw [List.mem_singleton.mp hb, Heap.size_push]
            exact Nat.le_succ _)) (items.size - 0) 0 _ (by omega) (Nat.zero_le _)
          ⟨⟨_, Heap.get?_push_size _ rfl, rfl, rfl⟩, (il.push _)⟩ (fun b o e => Heap.get?_push_of_some _ (Heap.get?_push_of_some _ e)) ?hS0 ?hR
        case hS0 => exact ⟨[], C.fresh _ (Heap.get?_push_of_some _ gS), Gat.zero ks⟩
        case hR =>
          intro s' L m hz g keep
          obtain ⟨h', g2, d', tk', os'⟩ := s'
          have eg : g2 = s.gens := m.gens
          have ed : d' = s.drawn := m.drawn
          have eo : os' = s.os := m.os
          subst eg ed eo
          show wpAny _ _ _ _ _ _
          refine wpAny_pure ?_
          show wpAny _ _ (ret Value.none) _ _ _
          rw [isz] at g
          exact wpAny_pure ⟨rfl, h', tk', L, rfl, hz, g, keep⟩
      · cases r2 with
        | error e => exact hr2
        | ok fl2 =>
          cases fl2 with
          | next => exact hr2.elim
          | brk => exact hr2.elim
          | cont => exact hr2.elim
          | ret r =>
            obtain ⟨e3, h', tk, L, e4, hz, g, keep⟩ := hr2
            subst e3 e4
            repeat (any_goals (first | assumption | wp_step))
            exact q _ _ _ hz g keep

end
end Ak
/-! Ak 21: sorted(set(xs)). -/
namespace Ak
open PySem PySem.Spec PyProof.Rows L2
theorem perm_lift {α β : Type} {f : α -> β} : forall {l : List α} {out : List β}, out.Perm (l.map f) -> exists l' : List α, l'.Perm l ∧ out = l'.map f
  | [], out, h => ⟨[], List.Perm.refl _, by have z : out = [] := List.perm_nil.mp h; rw [z] <;> rfl⟩
  | a :: l, out, h => by
    obtain ⟨o1, o2, e⟩ := List.append_of_mem (h.mem_iff.mpr (List.mem_map.mpr ⟨a, List.mem_cons_self, rfl⟩))
    subst e
    have z : (o1 ++ o2).Perm (l.map f) := (List.perm_middle.symm.trans h).cons_inv
    obtain ⟨l', p, e⟩ := perm_lift z
    obtain ⟨l1, l2, e1, e2, e3⟩ := List.map_eq_append_iff.mp e.symm
    refine ⟨l1 ++ a :: l2, List.perm_middle.trans (List.Perm.cons a (e1 ▸ p)), ?_⟩
    rw [List.map_append, List.map_cons, e2, e3]
theorem kD_inj : forall {k l : Key}, kD k = kD l -> k = l
  | .inl _, .inl _, h => by injection h with h; rw [h]
  | .inr _, .inr _, h => by injection h with h; rw [h]
  | .inl _, .inr _, h => nomatch h
  | .inr _, .inl _, h => nomatch h
theorem CanSort.sub {ds es : List D} (c : CanSort ds) (m : forall d, d ∈ es -> d ∈ ds) : CanSort es := by
  have hm : forall x, x ∈ es.map D.py -> x ∈ ds.map D.py := fun x hx => by
    obtain ⟨d, hd, e⟩ := List.mem_map.mp hx
    exact List.mem_map.mpr ⟨d, m d hd, e⟩
  refine ⟨fun d h d' h' => c.alike d (hm d h) d' (hm d' h'), ?_, fun d h => c.ok d (m d h)⟩
  rcases c.kind with k | k
  · exact .inl fun d h => k d (hm d h)
  · exact .inr fun d h => k d (hm d h)
theorem kDs_inj : forall {k l : List Key}, k.map kD = l.map kD -> k = l
  | [], [], _ => rfl
  | [], _ :: _, h => nomatch h
  | _ :: _, [], h => nomatch h
  | a :: k, b :: l, h => by
    injection h with h1 h2
    rw [kD_inj h1, kDs_inj h2]
theorem kT_inj {k l : List Key} (h : kT k = kT l) : k = l := by
  injection h with h
  exact kDs_inj h
section
variable {G H : Hp}
theorem kD_is : forall {k : Key} {v : V}, Rep G (kD k) v -> v = kV k
  | .inl _, _, h => h
  | .inr _, _, h => h
theorem kDs_is : forall {ks : List Key} {vs : List V}, Reps G (ks.map kD) vs -> vs = ks.map kV
  | [], _, h => h
  | k :: ks, _, h => by
    obtain ⟨x, xs, e, r, rs⟩ := h
    rw [e, kD_is r, kDs_is rs] <;> rfl
theorem is_rel : forall {k : Key} {v : Value}, RelV (kV k) v -> keyIs k v = true
  | .inl i, _, ⟨t, e⟩ => by
    rw [e]
    exact beq_self_eq_true i
  | .inr x, _, ⟨t, e⟩ => by
    rw [e]
    exact beq_self_eq_true x
theorem vals_keys : forall {ks : List Key} {us : List Value}, Vals (ks.map kV) us -> exists L : KL, L.map (·.1) = ks ∧ L.map (·.2) = us ∧ forall p, p ∈ L -> keyIs p.1 p.2 = true
  | [], _, .nil => ⟨[], rfl, rfl, by simp⟩
  | k :: ks, _, .cons (b := u) r t => by
    obtain ⟨L, e1, e2, e3⟩ := vals_keys t
    refine ⟨(k, u) :: L, by rw [List.map_cons, e1], by rw [List.map_cons, e2], fun p m => ?_⟩
    rcases List.mem_cons.mp m with e | m
    · rw [e]
      exact is_rel r
    · exact e3 p m
theorem tups_of : forall {ks : List (List Key)} {vs : List V}, Reps G (ks.map kT) vs -> exists L : TL, L.map (·.1) = ks ∧ vs = L.map (fun p => V.ref p.2) ∧ forall p, p ∈ L -> G p.2 = some (.tup (p.1.map kV))
  | [], vs, h => ⟨[], rfl, h, by simp⟩
  | k :: ks, _, h => by
    obtain ⟨x, xs, e, r, rs⟩ := h
    obtain ⟨L, e1, e2, e3⟩ := tups_of rs
    obtain ⟨b, ys, ex, hb, ry⟩ := r
    refine ⟨(k, b) :: L, by rw [List.map_cons, e1], by rw [e, ex, e2, List.map_cons], fun p m => ?_⟩
    rcases List.mem_cons.mp m with e | m
    · rw [e, ← kDs_is ry]
      exact hb
    · exact e3 p m
theorem vals_refs : forall {L : TL} {us : List Value}, Vals (L.map fun p => V.ref p.2) us -> us = L.map fun p => Value.ref p.2
  | [], _, .nil => rfl
  | p :: L, _, .cons r t => by
    cases r
    rw [vals_refs t] <;> rfl
theorem refs_vals : forall (L : TL), Vals (L.map fun p => V.ref p.2) (L.map fun p => Value.ref p.2)
  | [] => .nil
  | p :: L => .cons rfl (refs_vals L)
theorem keys_vals : forall (L : KL), (forall p, p ∈ L -> keyIs p.1 p.2 = true) -> Vals (L.map fun p => kV p.1) (L.map (·.2))
  | [], _ => .nil
  | p :: L, h => .cons (keyIs_rel (h p List.mem_cons_self)) (keys_vals L fun q m => h q (List.mem_cons_of_mem _ m))
end
/-! ### the two kinds -/
section
variable {P : Program} {w : World} {u : Nat} {h0 : Heap} {S : Addr}
theorem ksuT {ks : TL} (hu : u < cLine) (hk : forall p, p ∈ ks -> TupK P w h0 p.1 p.2) (few : ks.length < 64) : Ksu P w u (List Key) Addr Value.ref ks h0 S fun h L => exists es ep t, SetT P w h S L es ep t where
  fresh := fun h ho => ⟨#[], 0, _, ⟨_, ho, ⟨rfl, rfl, rfl⟩, rfl⟩, rfl, ⟨List.Pairwise.nil, rfl, rfl, .inl rfl, fun x m => (by cases m), fun i h j hi => (by simp [hsT] at hi)⟩, List.nodup_nil, fun p m => (by cases m), (by
    show _ ∨ (!w.params.followText "set-order") = true
    cases w.params.followText "set-order"
    · exact .inr rfl
    · exact .inl rfl), (by show 0 * 5 < 7 * 3; decide), (by show 0 < 64; decide)⟩
  move := fun L h h' ⟨es, ep, t, R⟩ sub keep on => by
    obtain ⟨o, ho, r⟩ := R.ob
    exact ⟨es, ep, t, ⟨o, keep o ho, r⟩, R.rows, R.tab, R.nd, fun p m => tup_on (hk p (sub p m)) on, R.led, R.room, R.few⟩
  add := by
    intro A E s i p L Q hA hp ⟨es, ep, t, R⟩ hl on q
    have il : i < ks.length := (List.getElem?_eq_some_iff.mp hp).1
    have hx : TupK P w s.heap p.1 p.2 := tup_on (hk p (List.mem_of_getElem? hp)) on
    unfold setAdd
    refine wpAny_holding ?_
    refine wpAny_bind (wpAny_pyHash_tuple (by omega) hx ?_)
    refine addT (s := { s with toks := s.toks + (p.1.length + 1) }) R hx (by omega) (by omega) fun b h' L' es' ep' t' sb R' c1 c2 => ?_
    exact q b h' _ L' (Nat.le_add_right _ _) sb ⟨es', ep', t', R'⟩ c1 c2
theorem ksuF {ks : KL} (hk : forall p, p ∈ ks -> keyIs p.1 p.2 = true) (few : ks.length < 64) : Ksu P w u Key Value (fun v => v) ks h0 S fun h L => exists es ep t, SetF w h S L es ep t where
  fresh := fun h ho => ⟨#[], 0, _, ⟨_, ho, ⟨rfl, rfl, rfl⟩, rfl⟩, List.Perm.refl _, fun p m => (by cases m), List.nodup_nil, List.Pairwise.nil, rfl, (by
    show _ ∨ (!w.params.followText "set-order") = true
    cases w.params.followText "set-order"
    · exact .inr rfl
    · exact .inl rfl), (by show 0 < 64; decide)⟩
  move := fun L h h' ⟨es, ep, t, R⟩ sub keep on => by
    obtain ⟨o, ho, r⟩ := R.ob
    exact ⟨es, ep, t, ⟨o, keep o ho, r⟩, R.rows, R.isk, R.nd, R.ris, R.fits, R.led, R.few⟩
  add := by
    intro A E s i p L Q hA hp ⟨es, ep, t, R⟩ hl on q
    have il : i < ks.length := (List.getElem?_eq_some_iff.mp hp).1
    have hx : keyIs p.1 p.2 = true := hk p (List.mem_of_getElem? hp)
    unfold setAdd
    refine wpAny_holding ?_
    refine wpAny_bind ((mixKind P w).pyHash (k := p.1) hx ?_)
    refine addF (P := P) (s := { s with toks := s.toks + 1 }) R hx (by omega) fun b h' L' es' ep' t' sb R' c1 c2 => ?_
    exact q b h' _ L' (Nat.le_add_right _ _) sb ⟨es', ep', t', R'⟩ c1 c2
end
/-! ### the rule -/
def rSS : V -> Hp -> VK -> Prop := fun x H Q => exists (ds : List D) (G : Hp), Sub G H ∧ Rep G (.lst ds) x ∧ ((exists ks : List Key, ds = ks.map kD) ∨ exists ks : List (List Key), ds = ks.map kT) ∧ CanSort ds ∧ ds.length < 64 ∧
  forall p out ds', H p = none -> ds'.Nodup -> (forall d, d ∈ ds' <-> d ∈ ds) -> Reps G (sortD ds') out -> Q (.ref p) (upd H p (.lst out))
def tSS (te : TE) : TE := fun σ H Q => te σ H fun x H1 => rSS x H1 Q
section
variable {X : Cx} {pins : List (Addr × Obj)} {σ : L2.St} {G H : Hp} {s : Shared}
theorem nodup_inj {α β : Type} {f : α -> β} (inj : forall x y, f x = f y -> x = y) : forall {l : List α}, l.Nodup -> (l.map f).Nodup := fun {l} h => List.pairwise_map.mpr (List.Pairwise.imp (fun ne e => ne (inj _ _ e)) h)
/-- the set is walked and sorted -/
theorem sorted_set_go {a : Addr} {es : Array (Int × Value)} {ep : Nat} {t : SetTable} {Q : VK} {E : Value -> Shared -> Prop} (calm : X.calm = true) (hu : X.A.units + 64 < cLine) (hG : Same G H) (I : Inv X pins σ H s) (sa : SetAt s.heap a es ep t) (fit : t.fits es.size = true) (sz : es.size < 64) (ris : Ris t.place.toList) (led : X.w.params.followText "set-order" = true ∨ t.led = true)
    (q : forall out, out.Perm (es.toList.map (·.2)) -> exists bs : List (V × D), Vals (bs.map (·.1)) out ∧ (forall p, p ∈ bs -> Rep G p.2 p.1) ∧ CanSort (bs.map (·.2)) ∧ forall p o, H p = none -> Reps G (sortD (bs.map (·.2))) o -> Q (.ref p) (upd H p (.lst o))) :
    wpAny (model X.prog X.w) X.A (call (.builtin "sorted") [.ref a]) (EP X pins σ Q) E s := by
  refine Calls.call_function_entry PyProof.Rows.kind_sorted PyProof.Rows.plain_sorted PyProof.Rows.entry_sorted (PyProof.Rows.args_sorted1 _) ?_
  unfold Builtin.«sorted»
  refine wpAny_bind (m := checkCount "sorted" 1 1 _) (wpAny_pure ?_)
  refine wpAny_bind (collect_set (P := X.prog) (A := X.A.in1) (I.ok.hd calm) sa fit (by unfold scanBound; omega) ris led fun s1 out keep hz hg ho pm => ?_)
  obtain ⟨bs, rv, hb, c, q⟩ := q out pm
  have I1 : Inv X pins σ H s1 := I.call' (ch := []) ho (Un.kept keep) (I.hok.kept keep) (by rw [hg]; exact I.bare) (fun _ z => nomatch z)
  have hl : bs.length ≤ sizeLine := by
    have z := rv.length
    have z2 := pm.length_eq
    rw [List.length_map] at z z2
    have z3 : es.toList.length = es.size := Array.length_toList
    rw [sizeLine_eq]
    omega
  refine sorted_go (mk := fun l => Fin.done (Flow.ret l)) hG I1 hu rv hb c hl q (fun u s2 h => ⟨_, rfl, h⟩) ?_
  show X.A.in1.units ≤ _
  first | exact Nat.le_succ _ | exact Nat.le_add_right _ _ | (simp [Around.in1]) | omega
theorem pe_sortset {e : Expr} {te : TE} {p p2 q pos : Pos} (calm : X.calm = true) (hu : X.A.units + 64 < cLine) (hg : Gl X "sorted") (hm : X.mg "sorted" = none) (hg2 : Gl X "set") (hm2 : X.mg "set" = none) (ha : PE X e te)
    (na : starEach [e] X.env = (false, eval e X.env) :: starEach [] X.env := by rfl) : PE X (.Call (.Name "sorted" p) [.Call (.Name "set" p2) [e] [] q] [] pos) (tSS te) := by
  refine ⟨fun pins s σ H Q I h => ?_⟩
  refine Call_ (ld_blt I hg hm PyProof.Rows.boot_sorted ?_)
  refine PyProof.Rows.callWith_builtin1 (PyProof.Rows.args_cons ?_ rfl) rfl rfl
  refine Call_ (ld_blt I hg2 hm2 PyProof.Rows.boot_set ?_)
  refine PyProof.Rows.callWith_type1 (PyProof.Rows.args_cons (thn (ha.run pins s σ H _ I h) fun v s1 ⟨x, H1, I1, r1, q1⟩ => PyProof.Rows.args_nil ?_) na) na rfl
  obtain ⟨ds, G, hG, rx, kinds, cs, few, q⟩ := q1
  obtain ⟨l, xs, ex, hl, rs⟩ := rx
  subst ex
  cases r1
  obtain ⟨its, rv, pl, hz⟩ := I1.list (SqL.of (hG.same _ _ hl))
  rcases kinds with ⟨ks, ed⟩ | ⟨ks, ed⟩
  · subst ed
    rw [kDs_is rs] at rv
    obtain ⟨L0, e1, e2, e3⟩ := vals_keys rv
    have few0 : L0.length < 64 := by
      have z := congrArg List.length e1
      rw [List.length_map] at z
      rw [List.length_map] at few
      omega
    refine call_set_list (ks := L0) (val := fun v => v) (u := X.A.units + 3) (I1.ok.hd calm) pl.isList (by rw [← e2] <;> simp) (Nat.le_refl _) (ksuF e3 few0) fun h' tk L ⟨es, ep, t, R⟩ g keep => ?_
    refine PyProof.Rows.args_nil ?_
    obtain ⟨o, ho, hex, hd⟩ := R.ob
    have esz : es.size = L.length := by rw [← Array.length_toList, R.rows.length_eq, rowsF, List.length_map]
    refine sorted_set_go calm hu hG.same (I1.kept keep) ⟨o, ho, hex.1, hd⟩ R.fits (by rw [esz]; exact R.few) R.ris R.led fun out pm => ?_
    have pm2 : out.Perm (L.map (·.2)) := by
      have z := pm.trans (R.rows.map (·.2))
      rw [rowsF, List.map_map] at z
      exact z
    obtain ⟨L', pL, eo⟩ := perm_lift pm2
    have mem : forall p, p ∈ L' -> p ∈ L0 := fun p m => List.mem_of_mem_take (g.sub p (pL.mem_iff.mp m))
    have ek : (L'.map fun p => (kV p.1, kD p.1)).map (·.2) = (L'.map (·.1)).map kD := by rw [List.map_map, List.map_map] <;> rfl
    have iff1 : forall d, d ∈ (L'.map (·.1)).map kD <-> d ∈ ks.map kD := fun d => by
      rw [List.mem_map, List.mem_map]
      constructor
      · intro ⟨k, m, e⟩
        obtain ⟨p, pm, ep⟩ := List.mem_map.mp m
        exact ⟨k, by rw [← e1, ← ep]; exact List.mem_map.mpr ⟨p, mem p pm, rfl⟩, e⟩
      · intro ⟨k, m, e⟩
        rw [← e1] at m
        obtain ⟨p, pm, ep⟩ := List.mem_map.mp m
        refine ⟨k, ?_, e⟩
        rw [(pL.map (·.1)).mem_iff, ← ep]
        exact g.all p (by rw [List.take_length]; exact pm)
    have nd : ((L'.map (·.1)).map kD).Nodup := nodup_inj (fun x y => kD_inj) ((pL.map (·.1)).nodup_iff.mpr R.nd)
    refine ⟨L'.map fun p => (kV p.1, kD p.1), ?_, fun b m => ?_, ?_, fun p o hp ro => ?_⟩
    · rw [eo, List.map_map]
      exact keys_vals L' fun p m => e3 p (mem p m)
    · obtain ⟨p, _, eb⟩ := List.mem_map.mp m
      rw [← eb]
      exact kD_rep p.1
    · rw [ek]
      exact cs.sub fun d m => (iff1 d).mp m
    · rw [ek] at ro
      exact q p o _ hp nd iff1 ro
  · subst ed
    obtain ⟨L0, e1, e2, e3⟩ := tups_of rs
    rw [e2] at rv
    have ev := vals_refs rv
    have few0 : L0.length < 64 := by
      have z := congrArg List.length e1
      rw [List.length_map] at z
      rw [List.length_map] at few
      omega
    have tk0 : forall p, p ∈ L0 -> TupK X.prog X.w s1.heap p.1 p.2 := fun p m => key_of I1.hok (hG.same _ _ (e3 p m))
    refine call_set_list (ks := L0) (val := Value.ref) (u := X.A.units + 3) (I1.ok.hd calm) pl.isList (by rw [← ev]) (Nat.le_refl _) (ksuT (by omega) tk0 few0) fun h' tk L ⟨es, ep, t, R⟩ g keep => ?_
    refine PyProof.Rows.args_nil ?_
    obtain ⟨o, ho, hex, hd⟩ := R.ob
    have esz : es.size = L.length := by rw [← Array.length_toList, R.rows, rowsT, List.length_map]
    refine sorted_set_go calm hu hG.same (I1.kept keep) ⟨o, ho, hex.1, hd⟩ (SetT.fits (s := { s1 with heap := h', toks := tk }) R) (by rw [esz]; exact R.few) R.tab.ris R.led fun out pm => ?_
    have pm2 : out.Perm (L.map fun p => Value.ref p.2) := by
      rw [R.rows, rowsT, List.map_map] at pm
      exact pm
    obtain ⟨L', pL, eo⟩ := perm_lift pm2
    have mem : forall p, p ∈ L' -> p ∈ L0 := fun p m => List.mem_of_mem_take (g.sub p (pL.mem_iff.mp m))
    have ek : (L'.map fun p => (V.ref p.2, kT p.1)).map (·.2) = (L'.map (·.1)).map kT := by rw [List.map_map, List.map_map] <;> rfl
    have iff1 : forall d, d ∈ (L'.map (·.1)).map kT <-> d ∈ ks.map kT := fun d => by
      rw [List.mem_map, List.mem_map]
      constructor
      · intro ⟨k, m, e⟩
        obtain ⟨p, pm, ep⟩ := List.mem_map.mp m
        exact ⟨k, by rw [← e1, ← ep]; exact List.mem_map.mpr ⟨p, mem p pm, rfl⟩, e⟩
      · intro ⟨k, m, e⟩
        rw [← e1] at m
        obtain ⟨p, pm, ep⟩ := List.mem_map.mp m
        refine ⟨k, ?_, e⟩
        rw [(pL.map (·.1)).mem_iff, ← ep]
        exact g.all p (by rw [List.take_length]; exact pm)
    have nd : ((L'.map (·.1)).map kT).Nodup := nodup_inj (fun x y => kT_inj) ((pL.map (·.1)).nodup_iff.mpr R.nd)
    refine ⟨L'.map fun p => (V.ref p.2, kT p.1), ?_, fun b m => ?_, ?_, fun p o hp ro => ?_⟩
    · rw [eo, List.map_map]
      exact refs_vals L'
    · obtain ⟨p, m2, eb⟩ := List.mem_map.mp m
      rw [← eb]
      exact kT_rep (e3 p (mem p m2))
    · rw [ek]
      exact cs.sub fun d m => (iff1 d).mp m
    · rw [ek] at ro
      exact q p o _ hp nd iff1 ro
end
section
variable {K : PySem.W.Frag} {M : MK} {s : L2.St} {H : Hp} {te : TE}
/-- sorted(set(xs)): what has the same members, each once, in order -/
theorem ev_sortset {ds es : List D} (m : Mok M H) (h : EvD M te s H (.lst ds)) (kinds : (exists ks : List Key, ds = ks.map kD) ∨ exists ks : List (List Key), ds = ks.map kT) (c : CanSort ds) (few : ds.length < 64)
    (nd : es.Nodup) (mem : forall d, d ∈ es <-> d ∈ ds) (inj : forall a b, a ∈ es -> b ∈ es -> toks a = toks b -> a = b) : EvD M (tSS te) s H (.lst (sortD es)) := fun H1 e1 Q q => h H1 e1 _ fun x H2 e2 rx => by
  have mm := m.up (e1.trans e2)
  refine ⟨ds, msk M H2, Sub.of mm, rx, kinds, c, few, fun p out ds' hp nd' mem' ro => ?_⟩
  have ee : sortD ds' = sortD es := (sortD_eq inj (nodup_perm nd nd' fun d => (mem d).trans (mem' d).symm)).symm
  rw [ee] at ro
  exact q _ _ (e2.trans (same_new hp)) ⟨p, out, rfl, msk_new mm hp, ro.up (msk_mono (same_new hp))⟩
end
end Ak
/-! Ak 22: data that are equal just when what they stand for is. -/
namespace Ak
open PySem PySem.Spec PyProof.Rows L2
structure Dat (α : Type) [DecidableEq α] where
  d : α -> D
  dp : Nat
  pl : forall x, (d x).pl = true
  dep : forall x, (d x).py.depth ≤ dp
  eqv : forall x y, PyData.eqv (d x).py (d y).py = decide (x = y)
section
variable {α β γ : Type} [DecidableEq α] [DecidableEq β] [DecidableEq γ]
theorem Dat.ok (m : Dat α) (h : m.dp ≤ 40) (x : α) : (m.d x).ok = true := by
  unfold D.ok
  rw [m.pl x, Bool.true_and, decide_eq_true_eq]
  exact Nat.le_trans (m.dep x) h
theorem pls_all {m : Dat α} : forall l : List α, D.pls (l.map m.d) = true
  | [] => rfl
  | x :: l => by
    show ((m.d x).pl && D.pls (l.map m.d)) = true
    rw [m.pl x, pls_all l] <;> rfl
theorem dps_all {m : Dat α} : forall l : List α, PyData.depthAll (D.pys (l.map m.d)) ≤ m.dp
  | [] => by
    show PyData.depthAll [] ≤ m.dp
    simp [PyData.depthAll]
  | x :: l => by
    show PyData.depthAll ((m.d x).py :: D.pys (l.map m.d)) ≤ m.dp
    rw [PyData.depthAll]
    exact Nat.max_le.mpr ⟨m.dep x, dps_all l⟩
theorem eqvs_all {m : Dat α} : forall l k : List α, PyData.eqvAll (D.pys (l.map m.d)) (D.pys (k.map m.d)) = decide (l = k)
  | [], [] => by
    show PyData.eqvAll [] [] = _
    simp [PyData.eqvAll]
  | [], y :: k => by
    show PyData.eqvAll [] ((m.d y).py :: D.pys (k.map m.d)) = _
    simp [PyData.eqvAll]
  | x :: l, [] => by
    show PyData.eqvAll ((m.d x).py :: D.pys (l.map m.d)) [] = _
    simp [PyData.eqvAll]
  | x :: l, y :: k => by
    show PyData.eqvAll ((m.d x).py :: D.pys (l.map m.d)) ((m.d y).py :: D.pys (k.map m.d)) = _
    rw [PyData.eqvAll, m.eqv, eqvs_all l k, ← Bool.decide_and]
    simp only [List.cons.injEq]
def dInt : Dat Int := ⟨.int, 0, fun _ => rfl, fun _ => by show PyData.depth (.int _) ≤ 0; simp [PyData.depth], eqv_int⟩
def dStr : Dat Str := ⟨.str, 0, fun _ => rfl, fun _ => by show PyData.depth (.str _) ≤ 0; simp [PyData.depth], eqv_str⟩
/-- lists -/
def dL (m : Dat α) : Dat (List α) := ⟨fun l => .lst (l.map m.d), m.dp + 1, fun l => pls_all l, fun l => by
  show PyData.depth (.list (D.pys (l.map m.d))) ≤ m.dp + 1
  rw [PyData.depth]
  exact Nat.succ_le_succ (dps_all l), fun l k => by
  show PyData.eqv (.list _) (.list _) = _
  simp only [PyData.eqv]
  exact eqvs_all l k⟩
/-- tuples -/
def dT (m : Dat α) : Dat (List α) := ⟨fun l => .tup (l.map m.d), m.dp + 1, fun l => pls_all l, fun l => by
  show PyData.depth (.tuple (D.pys (l.map m.d))) ≤ m.dp + 1
  rw [PyData.depth]
  exact Nat.succ_le_succ (dps_all l), fun l k => by
  show PyData.eqv (.tuple _) (.tuple _) = _
  simp only [PyData.eqv]
  exact eqvs_all l k⟩
def dP (m : Dat α) (n : Dat β) : Dat (α × β) := ⟨fun x => .tup [m.d x.1, n.d x.2], max m.dp n.dp + 1, fun x => by
  show ((m.d x.1).pl && ((n.d x.2).pl && true)) = true
  rw [m.pl, n.pl] <;> rfl, fun x => by
  show PyData.depth (.tuple [(m.d x.1).py, (n.d x.2).py]) ≤ _
  have h1 := m.dep x.1
  have h2 := n.dep x.2
  simp only [PyData.depth, PyData.depthAll]
  omega, fun x y => by
  show PyData.eqv (.tuple [(m.d x.1).py, (n.d x.2).py]) (.tuple [(m.d y.1).py, (n.d y.2).py]) = _
  simp only [PyData.eqv, PyData.eqvAll, m.eqv, n.eqv, Bool.and_true]
  rw [← Bool.decide_and]
  exact decide_eq_decide.mpr ⟨fun h => Prod.ext h.1 h.2, fun h => by rw [h]; exact ⟨rfl, rfl⟩⟩⟩
def d3 (m : Dat α) (n : Dat β) (o : Dat γ) : Dat (α × β × γ) := ⟨fun x => .tup [m.d x.1, n.d x.2.1, o.d x.2.2], max m.dp (max n.dp o.dp) + 1, fun x => by
  show ((m.d x.1).pl && ((n.d x.2.1).pl && ((o.d x.2.2).pl && true))) = true
  rw [m.pl, n.pl, o.pl] <;> rfl, fun x => by
  show PyData.depth (.tuple [(m.d x.1).py, (n.d x.2.1).py, (o.d x.2.2).py]) ≤ _
  have h1 := m.dep x.1
  have h2 := n.dep x.2.1
  have h3 := o.dep x.2.2
  simp only [PyData.depth, PyData.depthAll]
  omega, fun x y => by
  show PyData.eqv (.tuple [(m.d x.1).py, (n.d x.2.1).py, (o.d x.2.2).py]) (.tuple [(m.d y.1).py, (n.d y.2.1).py, (o.d y.2.2).py]) = _
  simp only [PyData.eqv, PyData.eqvAll, m.eqv, n.eqv, o.eqv, Bool.and_true]
  rw [← Bool.decide_and, ← Bool.decide_and]
  exact decide_eq_decide.mpr ⟨fun h => Prod.ext h.1 (Prod.ext h.2.1 h.2.2), fun h => by rw [h]; exact ⟨rfl, rfl, rfl⟩⟩⟩
end
section
variable {K : PySem.W.Frag} {M : MK} {s : L2.St} {H : Hp} {ta tb : TE} {α : Type} [DecidableEq α]
theorem ev_eqD (m : Dat α) {x y : α} {d e : D} (ed : d = m.d x) (ee : e = m.d y) (ha : EvD M ta s H d) (hb : EvD M tb s H e) (h : m.dp ≤ 40 := by decide) : EvD M (tOp (rEqU false) ta tb) s H (.bl (decide (x = y))) := by
  subst ed ee
  rw [← m.eqv x y]
  exact ev_op ha hb (rd_eqU (neg := false) (m.ok h x) (m.ok h y))
theorem ev_neD (m : Dat α) {x y : α} {d e : D} (ed : d = m.d x) (ee : e = m.d y) (ha : EvD M ta s H d) (hb : EvD M tb s H e) (h : m.dp ≤ 40 := by decide) : EvD M (tOp (rEqU true) ta tb) s H (.bl (!decide (x = y))) := by
  subst ed ee
  rw [← m.eqv x y]
  exact ev_op ha hb (rd_eqU (neg := true) (m.ok h x) (m.ok h y))
end
mutual
theorem eqv_self : forall d : D, d.pl = true -> PyData.eqv d.py d.py = true
  | .non, _ => rfl
  | .bl b, _ => by cases b <;> rfl
  | .int i, _ => (eqv_int i i).trans (decide_eq_true rfl)
  | .str x, _ => (eqv_str x x).trans (decide_eq_true rfl)
  | .tup ds, h => by
    show PyData.eqv (.tuple (D.pys ds)) (.tuple (D.pys ds)) = true
    simp only [PyData.eqv]
    exact eqvs_self ds h
  | .lst ds, h => by
    show PyData.eqv (.list (D.pys ds)) (.list (D.pys ds)) = true
    simp only [PyData.eqv]
    exact eqvs_self ds h
  | .oth _, h => nomatch h
  | .ins _ _, h => nomatch h
  | .dK _, h => nomatch h
  | .dT _, h => nomatch h
theorem eqvs_self : forall ds : List D, D.pls ds = true -> PyData.eqvAll (D.pys ds) (D.pys ds) = true
  | [], _ => by
    show PyData.eqvAll [] [] = true
    simp [PyData.eqvAll]
  | d :: ds, h => by
    have h2 : (d.pl && D.pls ds) = true := h
    rw [Bool.and_eq_true] at h2
    show PyData.eqvAll (d.py :: D.pys ds) (d.py :: D.pys ds) = true
    rw [PyData.eqvAll, eqv_self d h2.1, eqvs_self ds h2.2] <;> rfl
end
theorem inP_dat {α : Type} [DecidableEq α] (m : Dat α) (x : α) : forall l : List α, inP (m.d x) (l.map m.d) = decide (x ∈ l)
  | [] => by
    show false = decide (x ∈ [])
    simp
  | y :: l => by
    show (PyData.eqv (m.d y).py (m.d x).py || inP (m.d x) (l.map m.d)) = _
    rw [m.eqv, inP_dat m x l, ← Bool.decide_or]
    exact decide_eq_decide.mpr ⟨fun h => h.elim (fun e => by rw [e]; exact List.mem_cons_self) (fun h => List.mem_cons_of_mem _ h), fun h => (List.mem_cons.mp h).imp Eq.symm id⟩
theorem oks_dat {α : Type} [DecidableEq α] (m : Dat α) (h : m.dp ≤ 40) (l : List α) : oksP (l.map m.d) = true := by
  unfold oksP
  rw [List.all_eq_true]
  intro d hd
  obtain ⟨x, _, rfl⟩ := List.mem_map.mp hd
  exact m.ok h x
section
variable {K : PySem.W.Frag} {M : MK} {s : L2.St} {H : Hp} {ta tb : TE} {α : Type} [DecidableEq α]
theorem ev_inD (m : Dat α) {x : α} {l : List α} {d e : D} (ed : d = m.d x) (ee : e = .lst (l.map m.d)) (ha : EvD M ta s H d) (hb : EvD M tb s H e) (h : m.dp ≤ 40 := by decide) : EvD M (tOp (rInU false) ta tb) s H (.bl (decide (x ∈ l))) := by
  subst ed ee
  rw [← inP_dat m x l]
  exact ev_op ha hb (rd_inLU (neg := false) (m.ok h x) (oks_dat m h l))
end
end Ak
/-! Ak 23: try with several clauses `except C as n`, one name. -/
namespace Ak
open PySem PySem.Spec PyProof.Rows L2
abbrev SuiteT : Type := Addr -> Value -> Option Addr -> TS
/-- the ends of a suite: the name is gone -/
def gone (i : Nat) (D : Ends) : Ends := { nx := fun σ H => D.nx (σ.set i none) H, rt := D.rt, bk := fun σ H => D.bk (σ.set i none) H, ct := fun σ H => D.ct (σ.set i none) H }
def wAll (K : PySem.W.Frag) (Wout : WX) (D : Ends) (i : Nat) : List (Value × SuiteT) -> WX
  | [] => Wout
  | (c, ts) :: r => fun cls d σ H => exists b, PySem.W.exmOne K cls c = some b ∧ (b = true -> forall a, H a = none -> ts a cls d (gone i D) (σ.set i (some (.ref a))) H) ∧ (b = false -> wAll K Wout D i r cls d σ H)
inductive Clauses (X : Cx) (n : Str) : List ExceptHandler -> List (Value × SuiteT) -> Prop
  | nil : Clauses X n [] []
  | cons {x : Str} {c : Value} {ts : SuiteT} {st : Stmt} {more : List Stmt} {np pos : Pos} {hds : List ExceptHandler} {l : List (Value × SuiteT)} (name : Names X x c)
      (suite : forall (a : Addr) (oe : Obj) (cls : Value) (d : Option Addr) (pn : List (Addr × Obj)), Zc cls d oe -> (exists vs, oe.data = .fields vs) -> PSs (X.suite a ((a, oe) :: pn)) (st :: more) (ts a cls d)) (rest : Clauses X n hds l) :
      Clauses X n (.ExceptHandler (some (.Name x np)) (some n) (st :: more) pos :: hds) ((c, ts) :: l)
section
variable {X : Cx} {n : Str} {i : Nat} {body : List Stmt} {h1 : ExceptHandler} {hds : List ExceptHandler} {l : List (Value × SuiteT)} {pos : Pos} {tb : WX -> TS} {Wout : WX}
theorem ps_try_all (es : X.stack = X.env :: X.outer) (ef : X.env.frame = some X.env.locals) (nd : X.N.Nodup) (hi : X.N[i]? = some n) (kl : X.env.kindOf n = some .local) (tk : Takes X Wout)
    (hb : forall (W : WX) (pn : List (Addr × Obj)) (xe : Value -> Shared -> Prop), Takes (X.tr pn xe) W -> PassesOwn (model X.prog X.w) X.A X.env xe -> PSs (X.tr pn xe) body (tb W))
    (cl : Clauses X n (h1 :: hds) l) : PS X (.Try body (h1 :: hds) [] [] pos) (fun D σ H => tb (wAll X.K Wout D i l) D σ H) := by
  refine ⟨fun pins s σ H D I wish => ?_⟩
  have ok := I.ok
  have afr : X.A.frames = some (X.env :: X.outer) := by rw [ok.frames, es]
  refine wpAny_Try_except ?_
  refine wpAny_mono ((hb (wAll X.K Wout D i l) (X.pn ++ pins) (fun e t1 => wpAny (model X.prog X.w) X.A (noteFrame e X.env) (fun _ t2 => wpAny (model X.prog X.w) X.A (setFlight e none) (fun _ t3 =>
    wpAny (model X.prog X.w) X.A (handleBy e X.env (h1 :: hds)) (SP X pins D) X.xe t3) X.xe t2) X.xe t1) (fun u t xx => ?_) PassesOwn.looking).run [] s σ H D (I.toTry _) wish) (fun f t1 sp => ?_) (fun e t1 z => z)
  · obtain ⟨a, B, sI, pins', σ', H', cls, d, eu, J', nb, up, sky, na, os, ag, w⟩ := xx
    subst eu
    have J : Inv X pins σ' H' sI := J'.ofTry ok
    have sky2 : Sky B (X.env :: X.outer) a (Zc cls d) X.env.locals t.heap := by rw [← es]; exact sky
    show wpAny (model X.prog X.w) X.A (noteFrame (.ref a) X.env) _ _ _
    refine Sky.land Zc.steady afr ef sky2 fun h3 fl3 up3 => ?_
    have J3 : Inv X pins σ' H' { t with heap := h3 } := J.landed nb fl3.1 (up.trans up3) os ag
    obtain ⟨oe3, vs3, he3, hz3, hd3⟩ := fl3.there
    have off : a ∉ frs (X.env :: X.outer) := fun hm => by
      obtain ⟨_, o', e', hnf⟩ := fl3.2.2.1.mem hm
      rw [he3] at e'
      cases e'
      exact hnf _ hd3
    have nL : a ≠ X.env.locals := fun z => off (List.mem_filterMap.mpr ⟨X.env, List.mem_cons_self, by rw [ef, z]⟩)
    have nF : a ∉ X.fs := fun hm => by
      obtain ⟨e, he, q⟩ := List.mem_filterMap.mp hm
      exact off (List.mem_filterMap.mpr ⟨e, List.mem_cons_of_mem _ he, q⟩)
    have S3 := J3.suite he3 hd3 na nL nF
    have go : forall {hds' : List ExceptHandler} {l' : List (Value × SuiteT)}, Clauses X n hds' l' -> wAll X.K Wout D i l' cls d σ' H' -> wpAny (model X.prog X.w) X.A (handleBy (.ref a) X.env hds') (SP X pins D) X.xe { t with heap := h3 } := by
      intro hds' l' hk
      induction hk with
      | nil =>
        intro w
        refine wpAny_handleBy_nil ?_
        obtain ⟨k1, k2, k3, oe, vs, T, oT, ts', he, hz, hd, g1, hr⟩ := id fl3
        unfold PySem.passOn
        refine wpAny_bind (wpAny_field he hd g1 ?_)
        rw [if_neg (show ¬ ((Value.ref T == Value.none) = true) from by simp)]
        have fin : wpAny (model X.prog X.w) X.A (setFlight (.ref a) X.env.frame) (fun _ t4 => wpAny (model X.prog X.w) X.A (throw (.ref a) : Sem Flow) (SP X pins D) X.xe t4) X.xe { t with heap := h3 } := by
          rw [ef]
          refine HandSPX.setFlight_upZ fl3 fun h4 hh4 up4 => wpAny_throw (tk _ _ ?_)
          exact ⟨a, B, sI, pins, σ', H', cls, d, rfl, J, nb, (up.trans up3).trans up4, .inr (.inr (by rw [es]; exact hh4)), na, os, ag, w⟩
        first
          | exact wpAny_bind (wpAny_pure (wpAny_bind fin))
          | exact wpAny_bind fin
      | @cons x c ts st more np pos2 hds2 l2 name suite rest ih =>
        intro w
        obtain ⟨b, eb, yes, no⟩ := w
        refine wpAny_handleBy_cons (codeAny_handlers_test ?_) (by intro q; cases q)
        have LT : PySem.W.Looks (model X.prog X.w) h3 (typeOf (.ref a)) cls := fun A Q E s k q => wpAny_typeOf_ref (k _ _ he3) (by rw [hz3.1]; exact q)
        have LM := PySem.W.exm_one (M := model X.prog X.w) (J3.kIn) LT eb
        have test : forall {Q : Value -> Shared -> Prop} {E : Value -> Shared -> Prop}, Q c { t with heap := h3 } -> wpAny (model X.prog X.w) (X.A.mark (some (.ref a))) (eval (.Name x np) X.env) Q E { t with heap := h3 } := fun {Q E} q => by
          obtain ⟨hg, hdbg, hm | ⟨hm, hv, hnn⟩⟩ := name
          · exact ld_glob (X := X.suite a ((a, oe3) :: (X.pn ++ pins))) S3 hg hm q hdbg
          · exact ld_blt (X := X.suite a ((a, oe3) :: (X.pn ++ pins))) S3 hg hm hv q hnn hdbg
        refine test (LM.here ?_)
        cases b with
        | false =>
          show wpAny _ X.A (handleBy (.ref a) X.env hds2) _ _ _
          exact ih (no rfl)
        | true =>
          refine codeAny_handlers_suite_as ?_
          refine HandSPX.lands_againZ fl3 fun h4 fl4 up4 => ?_
          have J4 : Inv X pins σ' H' { t with heap := h4 } := J.landed nb fl4.1 ((up.trans up3).trans up4) os ag
          obtain ⟨oe4, vs4, he4, hz4, hd4⟩ := fl4.there
          have S4 := J4.suite he4 hd4 na nL nF
          refine store_ok (X := X.suite a ((a, oe4) :: (X.pn ++ pins))) (v := .ref a) S4 nd hi (.inl kl) rfl (fun t5 S5 => ?_) (.inr kl)
          refine wpAny_mono ((suite a oe4 cls d (X.pn ++ pins) hz4 ⟨_, hd4⟩).run [] t5 _ H' _ S5 (yes rfl a na)) (fun f t6 sp => ?_) (fun _ _ z => False.elim z)
          have fine : forall {σ6 : L2.St} {H6 : Hp} {Q : Shared -> Prop}, Inv (X.suite a ((a, oe4) :: (X.pn ++ pins))) [] σ6 H6 t6 -> (forall t7, Inv X pins (σ6.set i none) H6 t7 -> Q t7) ->
              wpAny (model X.prog X.w) X.A (do bindName X.env n .none; unbindBehindTheSuite X.env n pos2) (fun _ t7 => Q t7) X.xe t6 := fun {σ6 H6 Q} S6 hq => gone_ok (S6.unsuite ok) nd hi kl hq
          cases f with
          | next =>
            obtain ⟨σ6, H6, S6, q6⟩ := sp
            exact fine S6 fun t7 J7 => ⟨_, _, J7, q6⟩
          | brk =>
            obtain ⟨σ6, H6, S6, q6⟩ := sp
            exact fine S6 fun t7 J7 => ⟨_, _, J7, q6⟩
          | cont =>
            obtain ⟨σ6, H6, S6, q6⟩ := sp
            exact fine S6 fun t7 J7 => ⟨_, _, J7, q6⟩
          | ret u =>
            obtain ⟨v6, σ6, H6, S6, r6, q6⟩ := sp
            exact fine S6 fun t7 J7 => ⟨_, _, _, J7, r6, q6⟩
    exact go cl w
  · cases f with
    | next =>
      obtain ⟨σ2, H2, J2, q⟩ := sp
      exact wpAny_execs_nil ⟨σ2, H2, J2.ofTry ok, q⟩
    | brk =>
      obtain ⟨σ2, H2, J2, q⟩ := sp
      exact ⟨σ2, H2, J2.ofTry ok, q⟩
    | cont =>
      obtain ⟨σ2, H2, J2, q⟩ := sp
      exact ⟨σ2, H2, J2.ofTry ok, q⟩
    | ret u =>
      obtain ⟨v, σ2, H2, J2, r, q⟩ := sp
      exact ⟨v, σ2, H2, J2.ofTry ok, r, q⟩
end
end Ak
/-! Ak 24: lambdas as values: made, kept, called by name; a def told of the very state. -/
namespace Ak
open PySem PySem.Spec PyProof.Rows L2
open LamX (CodeO TabS Tabs ExtN TabB LamS inv_table among_app codeO_ne)
open NdefX (NF envF ncx NScope CellsAt Caps startF inv_startN codeO_at cells_of slotAt)
def lamObj (F : NF) (ex : Expr) (pm ctv : Value) : Obj := PySem.W.kla_obj F.name F.qual F.params ex F.scope F.cl pm F.c ctv
/-- the object at f is the lambda F with the body ex -/
def LamO (f : Addr) (F : NF) (ex : Expr) : HO := .ext fun h => exists pm ctv, h.get? f = some (lamObj F ex pm ctv)
theorem lamO_ne {f : Addr} {F : NF} {ex : Expr} (ps : Array Value) : LamO f F ex ≠ .tbl ps := fun z => by
  unfold LamO at z
  cases z
theorem lamO_at {P : Program} {w : World} {H : Hp} {h : Heap} {f : Addr} {F : NF} {ex : Expr} (hok : HOk P w H h) (e : H f = some (LamO f F ex)) : exists pm ctv, h.get? f = some (lamObj F ex pm ctv) := (hok f _ e).1
/-- the lambda that the frame X makes -/
def mkL (X : Cx) (params : Arguments) (scope : Scope) (c : Addr) : NF := ⟨"<lambda>", X.env.qual ++ "<lambda>", params, [], scope, cloFrom X.env.cells scope.names [], c⟩
section
variable {X : Cx} {pins : List (Addr × Obj)} {σ : L2.St} {H : Hp} {s : Shared}
theorem inv_lam {F : NF} {ex : Expr} {t : Nat} {pm ctv : Value} (I : Inv X pins σ H s) : Inv X pins σ (upd H s.heap.objs.size (LamO s.heap.objs.size F ex)) { s with heap := s.heap.push (lamObj F ex pm ctv), toks := t } :=
  I.laid (fun b u e => Heap.get?_push_of_some _ e) (Nat.le_refl _) ⟨⟨pm, ctv, Heap.get?_push_size _ rfl⟩, ⟨_, Heap.get?_push_size _ rfl⟩, fun h1 h2 ⟨pm, ctv, e⟩ st => ⟨pm, ctv, st _ e⟩⟩
theorem lam_new {T : List (Addr × Str)} {c P : Addr} {params : Arguments} {body : Expr} {scope : Scope} {pos : Pos} {E : Value -> Shared -> Prop} {Q : Value -> Shared -> Prop} (I : Inv X pins σ H s) (TB : TabB X.base X.mg c P) (hcode : X.env.code = .ref c)
    (hm : (P, X.env.qual ++ "<lambda>") ∈ T) (hu : forall p, p ∈ T -> p.1 = P -> p.2 = X.env.qual ++ "<lambda>") (hT : Tabs T H) (hdef : defaultsOf params X.env = ([], [])) (hfree : forall y, y ∈ scope.names -> y.2 = .free -> exists c, X.env.cells.lookup y.1 = some c)
    (q : forall (f c' : Addr) (H1 : Hp) (s' : Shared), Inv X pins σ H1 s' -> SameX P H H1 -> Tabs T H1 -> H f = none -> H1 f = some (LamO f (mkL X params scope c') body) -> H1 c' = some (CodeO c' (X.env.qual ++ "<lambda>")) -> Q (.ref f) s') :
    wpAny (model X.prog X.w) X.A (eval (.Lambda params body scope pos) X.env) Q E s := by
  obtain ⟨ps, hP, ht, ha⟩ := hT _ hm
  refine PySem.W.kla_eval hdef ?_
  have bP : s.heap.BuiltinsAt X.mg P := TB.bm.keeps I.bk
  have gP : s.heap.get? P = some { cls := .none, data := .fields ps } := I.hok P _ hP
  cases hc : codeAmong pos ps.toList with
  | none =>
    refine PySem.W.kla_makeFunction (mg := X.mg) (c := c) (P := P) (ps := ps) (closure_ok hfree) I.ok.glob (I.mod.glob.keeps I.bk) hcode (TB.code.keeps I.bk) gP ht hc TB.gP bP fun c' ctv h' tk hx hge hlt hrec htb => ?_
    obtain ⟨c2, oc, vs, t, e2, hoc, hd, hv⟩ := hrec
    cases e2
    have nC : H c' = none := I.hok.fresh hge
    have I1 := inv_table (t' := tk) (more := #[rawInt pos.line, rawInt pos.col, .ref c']) (h' := h') I hP (fun b o hb e => hx b o hb e) htb hge ⟨oc, vs, t, hoc, hd, hv⟩
    have hE : ExtN H (upd (upd H P (.tbl (ps ++ #[rawInt pos.line, rawInt pos.col, .ref c']))) c' (CodeO c' (X.env.qual ++ "<lambda>"))) := fun b o e n => by
      rw [upd_ne (ne_of_none e nC), upd_ne (fun z => n ps (Option.some.inj (e.symm.trans (by rw [z]; exact hP))))]
      exact e
    have eL : (ps ++ #[rawInt pos.line, rawInt pos.col, .ref c']).toList = ps.toList ++ [rawInt pos.line, rawInt pos.col, .ref c'] := by simp
    have T1 : Tabs T (upd (upd H P (.tbl (ps ++ #[rawInt pos.line, rawInt pos.col, .ref c']))) c' (CodeO c' (X.env.qual ++ "<lambda>"))) := fun p hp => by
      by_cases hb : p.1 = P
      · rw [hu p hp hb, hb]
        refine ⟨_, by rw [upd_ne (ne_of_none hP nC), upd_same], by rw [eL]; exact PySem.TriplesOk_snoc _ _ _ _ ht, fun p' cv hcv => ?_⟩
        rw [eL] at hcv
        rcases among_app _ ht hcv with z | z
        · obtain ⟨c0, e1, e2⟩ := ha p' cv z
          exact ⟨c0, e1, hE _ _ e2 codeO_ne⟩
        · exact ⟨c', z, upd_same⟩
      · obtain ⟨ps', a1, a2, a3⟩ := hT p hp
        refine ⟨ps', by rw [upd_ne (ne_of_none a1 nC), upd_ne hb]; exact a1, a2, fun p' cv hcv => ?_⟩
        obtain ⟨c0, e1, e2⟩ := a3 p' cv hcv
        exact ⟨c0, e1, hE _ _ e2 codeO_ne⟩
    have nF := I1.hok.fresh (Nat.le_refl _)
    have I2 := inv_lam (F := mkL X params scope c') (ex := body) (t := tk) (pm := (X.mg "__name__").getD .none) (ctv := ctv) I1
    refine q h'.objs.size c' _ _ I2 (fun b o n e => ?_) (T1.ext fun b o e => ?_) (I.hok.fresh (Nat.le_trans hge (Nat.le_of_lt hlt))) upd_same ?_
    · have e1 : upd (upd H P (.tbl (ps ++ #[rawInt pos.line, rawInt pos.col, .ref c']))) c' (CodeO c' (X.env.qual ++ "<lambda>")) b = some o := by
        rw [upd_ne (ne_of_none e nC), upd_ne n]
        exact e
      exact (upd_ne (ne_of_none e1 nF)).trans e1
    · exact (upd_ne (ne_of_none e nF)).trans e
    · exact (upd_ne (Nat.ne_of_lt hlt)).trans upd_same
  | some cv =>
    obtain ⟨c', e, hco⟩ := ha pos cv hc
    subst e
    refine PySem.W.kla_makeFunctionHit (mg := X.mg) (c := c) (P := P) (ps := ps) (closure_ok hfree) I.ok.glob (I.mod.glob.keeps I.bk) hcode (TB.code.keeps I.bk) gP ht hc bP fun ctv h' tk hx hsz => ?_
    have I1 : Inv X pins σ H { s with heap := h', toks := tk } := I.kept hx
    have nF : H h'.objs.size = none := I1.hok.fresh (Nat.le_refl _)
    have I2 := inv_lam (F := mkL X params scope c') (ex := body) (t := tk) (pm := (X.mg "__name__").getD .none) (ctv := ctv) I1
    refine q h'.objs.size c' _ _ I2 (fun b o n e => ?_) (hT.ext fun b o e => ?_) nF upd_same ?_
    · exact (upd_ne (ne_of_none e nF)).trans e
    · exact (upd_ne (ne_of_none e nF)).trans e
    · exact (upd_ne (ne_of_none hco nF)).trans hco
end
/-- `lambda ..: body` -/
def tLamV (P : Addr) (T : List (Addr × Str)) (mk : Addr -> NF) (body : Expr) : TE := fun _ H Q => Tabs T H ∧ forall (f c' : Addr) (H1 : Hp), SameX P H H1 -> Tabs T H1 -> H f = none -> H1 f = some (LamO f (mk c') body) -> H1 c' = some (CodeO c' (mk c').qual) -> Q (.ref f) H1
section
variable {X : Cx}
theorem pe_lam {T : List (Addr × Str)} {c P : Addr} {params : Arguments} {body : Expr} {scope : Scope} {pos : Pos} (TB : TabB X.base X.mg c P) (hcode : X.env.code = .ref c) (hm : (P, X.env.qual ++ "<lambda>") ∈ T) (hu : forall p, p ∈ T -> p.1 = P -> p.2 = X.env.qual ++ "<lambda>")
    (hfree : forall y, y ∈ scope.names -> y.2 = .free -> X.env.scope.names.lookup y.1 = some .cell ∨ X.env.scope.names.lookup y.1 = some .free) (hdef : defaultsOf params X.env = ([], [])) : PE X (.Lambda params body scope pos) (tLamV P T (mkL X params scope) body) := by
  refine ⟨fun pins s σ H Q I ⟨hT, q⟩ => ?_⟩
  exact lam_new I TB hcode hm hu hT hdef (fun y hy e => (hfree y hy e).elim (fun z => I.ok.has _ (.inl z)) fun z => I.ok.has _ (.inr z)) fun f c' H1 s' I1 e1 t1 n1 hf hc => ⟨.ref f, H1, I1, rfl, q f c' H1 e1 t1 n1 hf hc⟩
end
/-! ### a lambda runs -/
section
variable {CX : CXT} {P : Program} {w : World} {K : PySem.W.Frag} {mg : Str -> Option Value} {base : Heap} {N ps fr : List Str} {F : NF} {ex : Expr} {f : Addr} {k : Nat}
theorem lam_run (S : NScope N ps fr F.scope) (hb : forall (pm ctv : Value) (us : List Value), us.length = ps.length -> bindArgs (PySem.W.kla_fn F.name F.qual F.params ex F.scope F.cl pm (.ref F.c) ctv) ⟨us, []⟩ = pure (ps.zip us))
    {A : Around} {outer : List Env} {s : Shared} {H : Hp} {us : List Value} {vs : List V} {ws : List (Option V)} {Q : VK} {E : XK} (hr : Room (k + 1) A) (e0 : Env0 P w K mg base A outer s H) (hf : H f = some (LamO f F ex)) (hc : H F.c = some (CodeO F.c F.qual)) (C : CellsAt F.cl fr ws s.heap H) (r : Vals vs us) (hl : vs.length = ps.length)
    (hbody : Room k (A.deeper (envF F f s.heap.objs.size)) -> exists te, PE (ncx CX P w K mg base N F f A outer s H E) ex te ∧ te (startF N vs ws) H Q) : codeAny (model P w) A (.call (.ref f) ⟨us, []⟩) (CR CX outer P w H s Q E) s := by
  have lim : s.heap.NoLimit := e0.mod.nolimit.keeps fun b o e => (e0.bs b o e).1
  obtain ⟨pm, ctv, ho⟩ := lamO_at e0.hok hf
  refine PySem.W.kla_callFunE hr.depth ho rfl S.co S.gen rfl (codeO_at e0.hok hc) ?_
  rw [hb pm ctv us (by rw [← r.length]; exact hl)]
  refine wpAny_pure (wpAny_newFunctionEnv S.nocell (fun ⟨n, _⟩ hy => S.par n (List.of_mem_zip hy).1) (fun h1 hns hsb => ⟨lim.fresh _ hsb, ?_⟩) S.kind)
  show codeAny _ _ (.expr ex (envF F f s.heap.objs.size)) _ _
  have keep : forall b o, s.heap.get? b = some o -> h1.get? b = some o := fun b o e => hsb.extBut b o (Nat.ne_of_lt (Heap.lt_size e)) (Heap.get?_push_of_some _ e)
  obtain ⟨te, ht, q⟩ := hbody (hr.deeper _)
  have J : Inv (ncx CX P w K mg base N F f A outer s H E) [] (startF N vs ws) H { s with heap := h1, toks := s.toks + (ps.zip us).length } := inv_startN S hr.hd e0 hl r C hns keep
  refine PySem.W.kla_codeExpr (wpAny_mono (ht.run [] _ _ H Q J q) (fun v s' hq => ?_) fun e s' hq => hq)
  obtain ⟨x, H', J', rv, q'⟩ := hq
  exact ⟨x, H', J'.os, J'.bare, J'.base, J'.hok, rv, q'⟩
end
/-! ### called by its name -/
/-- the promise of the object at f, whatever state the frame X is in by then -/
def Prom (CX : CXT) (X : Cx) (f : Addr) (vs : List V) (σ : L2.St) (H : Hp) (Q : VK) (E : XK) : Prop := forall (pins : List (Addr × Obj)) (s : Shared) (us : List Value), Inv X pins σ H s -> Vals vs us -> codeAny (model X.prog X.w) X.A (.call (.ref f) ⟨us, []⟩) (CR CX X.stack X.prog X.w H s Q E) s
theorem lamFn {f : Addr} {F : NF} {ex : Expr} {X : Cx} {pins : List (Addr × Obj)} {σ : L2.St} {H : Hp} {s : Shared} (I : Inv X pins σ H s) (e : H f = some (LamO f F ex)) : PySem.W.FnAt f s.heap := by
  obtain ⟨pm, ctv, ho⟩ := lamO_at I.hok e
  exact ⟨_, _, _, _, ho⟩
/-- what the frame does with an exception of a call, the names being what they are -/
def PassAt (CX : CXT) (X : Cx) (σ : L2.St) (E : XK) : Prop := forall (pins : List (Addr × Obj)) (H : Hp) (s : Shared) (e : Value) (s' : Shared), Inv X pins σ H s -> CX X.stack H s E e s' -> X.xe e s'
def tActN (CX : CXT) (X : Cx) (i : Nat) (t : TA) : TE := fun σ H Q => exists f F ex, σ[i]? = some (some (.ref f)) ∧ H f = some (LamO f F ex) ∧ t σ H fun vs H1 => H1 f = some (LamO f F ex) ∧ exists E, PassAt CX X σ E ∧ Prom CX X f vs σ H1 Q E
section
variable {X : Cx} {CX : CXT} {i : Nat} {x : Str} {t : TA} {e : Expr} {es : List Expr} {p pos : Pos}
theorem run_prom {pins : List (Addr × Obj)} {σ : L2.St} {H : Hp} {s : Shared} {Q : VK} {E : XK} {f : Addr} {us : List Value} {vs : List V} (hx : PassAt CX X σ E) (I : Inv X pins σ H s) (r : Vals vs us) (q : Prom CX X f vs σ H Q E) :
    wpAny (model X.prog X.w) X.A (call (.ref f) us) (EP X pins σ Q) X.xe s := by
  refine wpAny_call (codeAny_mono (q pins s us I r) fun r s' hq => ?_)
  cases r with
  | error e => exact hx pins H s e s' I hq
  | ok fl =>
    cases fl with
    | ret u => exact I.after hq
    | next => exact False.elim hq
    | brk => exact False.elim hq
    | cont => exact False.elim hq
theorem pe_act0 (hN : X.N[i]? = some x) (hv : Vis X.env.scope x) (hd : (x == ("__debug__" : Str)) = false := by decide) (hcd : (x == ("__classdict__" : Str)) = false := by decide) : PE X (.Call (.Name x p) [] [] pos) (tActN CX X i tNil) := by
  refine ⟨fun pins s σ H Q I h => ?_⟩
  obtain ⟨f, F, ex, hs, hf, h1, E, hx, q⟩ := h
  refine wpAny_Call_Name_kw (thn ((pe_var (pos := p) hN hv hd hcd).run pins s σ H (fun v H1 => v = .ref f ∧ H1 = H) I ⟨.ref f, hs, rfl, rfl⟩) fun u s1 ⟨v, H1, I1, r1, ev, eH⟩ => ?_)
  subst ev
  rw [eH] at I1
  obtain rfl : u = Value.ref f := r1
  refine PySem.W.callWith_F0 (first := []) (lamFn I1 hf) ?_
  show wpAny _ _ (call (.ref f) []) _ _ _
  exact run_prom hx I1 .nil q
theorem pe_actN (hN : X.N[i]? = some x) (hv : Vis X.env.scope x) (ha : PA X (e :: es) t) (hd : (x == ("__debug__" : Str)) = false := by decide) (hcd : (x == ("__classdict__" : Str)) = false := by decide)
    (he : starEach (e :: es) X.env = (false, eval e X.env) :: starEach es X.env := by rfl) (hpl : (backTo pos (starEach es X.env)).any (·.1) = false := by rfl) : PE X (.Call (.Name x p) (e :: es) [] pos) (tActN CX X i t) := by
  refine ⟨fun pins s σ H Q I h => ?_⟩
  obtain ⟨f, F, ex, hs, hf, ht⟩ := h
  refine wpAny_Call_Name_kw (thn ((pe_var (pos := p) hN hv hd hcd).run pins s σ H (fun v H1 => v = .ref f ∧ H1 = H) I ⟨.ref f, hs, rfl, rfl⟩) fun u s1 ⟨v, H1, I1, r1, ev, eH⟩ => ?_)
  subst ev
  rw [eH] at I1
  obtain rfl : u = Value.ref f := r1
  refine PySem.W.callWith_F (first := []) (lamFn I1 hf) (thn (ha.run pos pins s1 σ H _ I1 ht) fun us s2 ⟨vs, H2, I2, r, h1, E, hx, q⟩ => ⟨lamFn I2 h1, ?_⟩) he hpl
  show wpAny _ _ (call (.ref f) us) _ _ _
  exact run_prom hx I2 r q
end
end Ak
/-! Ak 25: a def told of the very state. -/
namespace Ak
open PySem PySem.Spec PyProof.Rows L2
open NdefX (CellsAt)
section
variable {X : Cx} {pins : List (Addr × Obj)} {σ : L2.St} {H : Hp} {s : Shared} {cl : List (Str × Addr)} {fr : List Str} {ws : List (Option V)}
/-- captured cells hold what they held when the frame began -/
theorem cells_on (C : CellsAt cl fr ws X.s_0.heap X.H_0) (hx : X.ex = []) (I : Inv X pins σ H s) : CellsAt cl fr ws s.heap H := by
  have keep : forall c v, X.H_0 c = none -> X.s_0.heap.IsCell c v -> s.heap.IsCell c v := fun c v n ⟨o, ho, hd⟩ => by
    obtain ⟨sl, e⟩ := I.base.any ho n (by rw [hx]; simp)
    exact ⟨_, e, hd⟩
  refine ⟨C.len, fun y c e => ?_, C.inj, fun i y e => ?_⟩
  · obtain ⟨n, v, z⟩ := C.all y c e
    refine ⟨?_, v, keep c v n z⟩
    obtain ⟨o, ho, _⟩ := z
    exact I.base.free c o ho n (by rw [hx]; simp)
  · obtain ⟨c, hc, hv⟩ := C.has i y e
    refine ⟨c, hc, fun v ev => ?_⟩
    obtain ⟨u, r, z⟩ := hv v ev
    exact ⟨u, r, keep c _ (C.all y c hc).1 z⟩
theorem passes_at {W : WX} {E : XK} (tk : Takes X W) (h : forall cls d H', E cls d H' -> W cls d σ H') : PassAt (L2.CX X.prog X.w) X σ E := fun _ _ _ e s' I c => tk e s' (XE.of_call I (fun cls d H' q => h cls d H' q) c)
end
section
variable {X : Cx} {CX : CXT} {x qual a : Str} {params : Arguments} {body : List Stmt} {scope : Scope} {g : Addr} {fd : FuncData} {N : List Str} {k : Nat} {t : TA} {e : Expr} {p pos : Pos}
/-- x(e), the def's promise given of the very state at the call -/
theorem pe_told {Told : L2.St -> V -> Hp -> VK -> Prop} (F : FunD X.K x qual params body scope [] [] g fd) (hg : Gl X x) (hm : X.mg x = some (.ref g)) (hb : Binds X.K fd [a] []) (S : FnScope N [a] scope) (hr : Room (k + 1) X.A) (hx : Passes CX X E0) (ha : PA X [e] t)
    (go : forall (pins : List (Addr × Obj)) (σ : L2.St) (s : Shared) (H : Hp) (v : V) (Q : VK) (cdv : Value), Inv X pins σ H s -> Told σ v H Q -> Room k (X.A.deeper (envOfC qual scope s.heap.objs.size g cdv)) ->
      exists t, PSs (cxOf CX X.prog X.w X.K X.mg X.base N qual scope g cdv X.A X.stack s H E0) body t ∧ t { nx := fun _ H' => Q .non H', rt := Q } (L2.start N [v]) H)
    (hdb : (x == ("__debug__" : Str)) = false := by decide) (he : starEach [e] X.env = (false, eval e X.env) :: starEach [] X.env := by rfl) (hpl : (backTo pos (starEach [] X.env)).any (·.1) = false := by rfl) :
    PE X (.Call (.Name x p) [e] [] pos) (fun σ H Q => t σ H fun vs H1 => exists v, vs = [v] ∧ Told σ v H1 Q) := by
  refine ⟨fun pins s σ H Q I h => ?_⟩
  refine wpAny_Call_Name_kw (ld_glob I hg hm ?_ hdb)
  refine PySem.W.callWith_K (h₀ := X.base) I.ok.mod.kin F.kp (thn (ha.run pos pins s σ H _ I h) fun us s1 ⟨vs, H1, I1, r, v, ev, told⟩ => ⟨I1.kIn, ?_⟩) he hpl
  subst ev
  obtain ⟨u, eu, ru⟩ := vals1 r
  subst eu
  obtain ⟨oc, od, dV, kV, doc, pm, an, cdv, ct, osl, rfl, lk, hcd, _, _⟩ := F.ex
  have rc : codeAny (model X.prog X.w) X.A (.call (.ref g) ⟨[u], []⟩) (CR CX X.stack X.prog X.w H1 s1 Q E0) s1 :=
    LamX.run_ofS (N := N) (ps := [a]) (us := [u]) (vs := [v]) lk hcd S hr I1.env0 (hb s1 [u] I1.kIn rfl) r rfl fun hr' => go pins σ s1 H1 v Q cdv I1 told hr'
  refine wpAny_call (codeAny_mono rc fun r2 s2 hq => ?_)
  cases r2 with
  | error e => exact hx pins σ H1 s1 e s2 I1 hq
  | ok fl =>
    cases fl with
    | ret u => exact I1.after hq
    | next => exact False.elim hq
    | brk => exact False.elim hq
    | cont => exact False.elim hq
end
end Ak
/-! Ak 26: isinstance of a caught exception that has attributes. -/
namespace Ak
open PySem PySem.Spec PyProof.Rows L2
section
open PySem.W PySem.Calls
variable {prog : Program} {w : World} {A : Around} {E : Value -> Shared -> Prop} {s : Shared} {K : Frag} {x D : Addr} {ox od : Obj}
theorem exc_class {Q : Option Value -> Shared -> Prop} (c : ExcC K D) (X : K.In s.heap) (I : InstAt s.heap x ox D (some od)) (h : Q (some (.ref D)) { s with toks := s.toks + 1 }) : wpAny (model prog w) A (getAttr? (.ref x) "__class__") Q E s := by
  have hf : findObj K D (some od) "__class__" = some (.bind (.builtin "getset_descriptor.__get__") (.builtin "object.__class__")) := findObj_data (by obtain ⟨cd, hc, _⟩ := any_some c.hd; rw [hc] <;> rfl) c.ha c.hn c.ht
  obtain ⟨hp, g, d, t, os⟩ := s
  have l0 := I.type (M := model prog w)
  have l1 := looks_findIn (M := model prog w) X c.hg
  have l2 := looks_findIn (M := model prog w) X c.hk
  have l3 := looks_find (M := model prog w) X I hf
  have isx : Looks (model prog w) hp (isInstance (.ref x) (.type "BaseException")) true := l0.andThen (looks_subIn X c.hs)
  have n0 : (false && onTheHeap (Value.builtin "BaseException.__getattribute__")) = false := rfl
  have n2 : (Value.builtin "BaseException.__getattribute__" == Value.builtin "object.__getattribute__") = false := by decide +kernel
  have n1 : (onTheHeap (Value.ref D) && Value.builtin "BaseException.__getattribute__" == Value.builtin "object.__getattribute__") = false := by rw [n2] <;> rfl
  unfold getAttr? getAttrBy? getAttrBy
  refine wpAny_bind (wpAny_mkText (wpAny_bind (wpAny_attempt (wpAny_holding (wpAny_bind (l0.at (wpAny_bind (l1.at ?_))))))))
  show wpAny _ _ (if (onTheHeap (Value.ref D) && Value.builtin "BaseException.__getattribute__" == Value.builtin "object.__getattribute__") = true then _ else _) _ _ _
  rw [n1, if_neg Bool.false_ne_true]
  unfold getAttrByItsOwn hookBefore
  refine wpAny_bind ?_
  rw [if_pos (show onTheHeap (Value.ref D) = true from rfl)]
  refine l2.at ?_
  refine wpAny_bind (wpAny_attempt (wpAny_holding ?_))
  unfold callGetattribute
  rw [n0, if_neg Bool.false_ne_true]
  unfold boundAndCalled
  rw [PySem.F.excAttr_ValueError.ga.bind (.ref x)]
  refine wpAny_bind (wpAny_pure ?_)
  show wpAny _ _ (call (.builtin "BaseException.__getattribute__") [.ref x, .str "__class__" t]) _ _ _
  refine wpAny_call (codeAny_call_builtin PySem.F.excAttr_ValueError.ga.plain PySem.F.entry_bexc_ga ?_)
  refine @check_slot (model prog w) _ _ ⟨hp, g, d, t + 1, os⟩ "BaseException.__getattribute__" "BaseException" "__getattribute__" (.ref x) [.str "__class__" t] [] _ (by decide +kernel) (by decide +kernel) isx (PySem.F.args_bexc_ga (.ref x) (.str "__class__" t)) ?_
  unfold Builtin.«object.__getattribute__»
  refine wpAny_bind (wpAny_of_eq (a := ((Value.ref x : Value), [Value.str "__class__" t])) (by first | rfl | (simp only [slotArgs]; rfl)) ?_)
  refine wpAny_bind (wpAny_pure (wpAny_bind (l0.at (wpAny_bind (l3.at ?_)))))
  show wpAny _ _ (holding [Value.builtin "object.__class__"] (call (.builtin "getset_descriptor.__get__") [.builtin "object.__class__", .ref x, .ref D]) >>= ret) _ _ _
  refine wpAny_bind (wpAny_holding (wpAny_call (class_get (s := ⟨hp, g, d, t + 1, os⟩) (ox := ox) (od := some od) X I c.hm ?_)))
  refine wpAny_pure ?_
  show wpAny _ _ (handedOut (.ref D)) _ _ _
  rw [handedOut_of (v := .ref D) rfl]
  first
    | exact wpAny_pure (wpAny_pure h)
    | exact wpAny_pure h
    | exact wpAny_pure (wpAny_bind (wpAny_pure (wpAny_pure h)))
theorem exc_kit (c : ExcC K D) : KitX K (.ref x) (.ref D) (fun h => InstAt h x ox D (some od)) where
  ty := fun _ _ _ I => I.type
  it := fun _ _ X _ => by
    obtain ⟨cd, hc, _⟩ := any_some c.hd
    unfold clsIn at hc
    split at hc
    · rename_i c' d' cd' sl' ho
      intro A' Q' E' s' k q
      unfold isType loadHead
      exact wpAny_bind (wpAny_loadPart (k _ _ (X _ _ ho)) (wpAny_pure q))
    · cases hc
  ne := fun h tp dd its n sl X htp => by
    refine Bool.eq_false_iff.mpr fun q => ?_
    have e : D = tp := Value.ref.inj (beq_iff_eq.mp q)
    subst e
    obtain ⟨cd, hc, _⟩ := any_some c.hd
    unfold clsIn at hc
    split at hc
    · rename_i c' d' cd' sl' ho
      have z := (X _ _ ho).symm.trans htp
      cases z
    · cases hc
  ca := fun X I k => exc_class c X I k
end
/-- isinstance(e, c), e the caught exception a, of the class cls with the attributes at d -/
def rIsX (K : PySem.W.Frag) (cls : Value) (d : Option Addr) (a : Addr) : List V -> Hp -> VK -> Prop := fun xs H Q => exists (D : Addr) (c : V) (cv : Value) (b : Bool) (dd : Addr) (fs : List (Str × V)), ExcC K D ∧ cls = .ref D ∧ d = some dd ∧ H dd = some (.xd fs) ∧ xs = [.ref a, c] ∧ (forall u, RelV c u -> u = cv) ∧ PySem.W.kitOne K (.ref D) cv = some b ∧ Q (.bl b) H
theorem call_isX {X : Cx} {a : Addr} {oe : Obj} {cls : Value} {d : Option Addr} {pn : List (Addr × Obj)} (hz : Zc cls d oe) (hf : exists vs, oe.data = .fields vs) : CallR (X.suite a ((a, oe) :: pn)) (.builtin "isinstance") (rIsX X.K cls d a) := by
  intro pins s σ H xs us Q I r h
  obtain ⟨D, c, cv, b, dd, fs, ec, ecl, ed, ea, rfl, hcv, e, q⟩ := h
  subst ecl ed
  cases r with
  | cons rx rr =>
    cases rr with
    | cons rt rr =>
      cases rr
      cases rx
      have e2 := hcv _ rt
      subst e2
      obtain ⟨ha, _⟩ := I.pin (a, oe) (List.mem_append.mpr (.inl List.mem_cons_self))
      obtain ⟨vs, hd⟩ := hf
      have hx : ObjOk X.prog X.w H s.heap dd (.xd fs) := I.hok dd _ ea
      obtain ⟨mA, hns, hr⟩ := hx
      obtain ⟨od, ho, hl⟩ := lookIn_ns hns
      have J : PySem.W.InstAt s.heap a oe D (some od) := ⟨ha, hz.1, by unfold PySem.W.notCls; rw [hd] <;> rfl, by rw [hz.2]; exact ho⟩
      exact PySem.W.kia_one (exc_kit (od := od) ec) I.kIn J e (fun z => nomatch z) fun tk => ⟨.bl b, H, I.kept (t' := tk) fun _ _ z => z, rfl, q⟩
end Ak
/-! Ak 27: xs.index(i) on ints; what a frame that draws and makes lambdas keeps. -/
namespace Ak
open PySem PySem.Spec PyProof.Rows L2
open LamX (CodeO TabS Tabs ExtN TabB codeO_ne)
section
variable {K : PySem.W.Frag} {M : MK} {s : L2.St} {H : Hp} {te ta : TE}
theorem ints_is {G : Hp} : forall {l : List Int} {vs : List V}, Reps G (l.map .int) vs -> vs = l.map V.int
  | [], _, h => h
  | i :: l, _, ⟨x, xs, e, r, rs⟩ => by
    rw [e, show x = V.int i from r, ints_is rs, List.map_cons]
theorem ev_indexI {l : List Int} {x : Int} (h : EvD M te s H (.lst (l.map .int))) (ha : EvD M ta s H (.int x)) (hx : x ∈ l) : EvD M (tBM K "list" (rIndex K) te (tCons ta tNil)) s H (.int (l.idxOf x : Nat)) := fun H1 e1 Q q => h H1 e1 _ fun v H2 e2 r => by
  obtain ⟨a, xs, ev, hq, rs⟩ := r
  subst ev
  have ex := ints_is rs
  subst ex
  have hq2 := msk_same _ _ hq
  refine ⟨.inl ⟨rfl, _, SqL.of hq2⟩, ha H2 (e1.trans e2) _ fun y H3 e3 ry => ?_⟩
  have ey : y = V.int x := ry
  subst ey
  have hlt := List.idxOf_lt_length_of_mem hx
  refine ⟨a, l.map V.int, .int x, l.idxOf x, .int x, rfl, rfl, SqL.of (e3 _ _ hq2), rfl, ?_, ?_, beq_self_eq_true x, fun m z hm hz => ?_, q _ H3 (e2.trans e3) rfl⟩
  · rw [List.all_eq_true]
    intro z hz
    obtain ⟨i, _, rfl⟩ := List.mem_map.mp hz
    rfl
  · rw [List.getElem?_map, List.getElem?_eq_getElem hlt, List.getElem_idxOf hlt] <;> rfl
  · rw [List.getElem?_map] at hz
    cases g : l[m]? with
    | none =>
      rw [g] at hz
      cases hz
    | some i =>
      rw [g] at hz
      cases hz
      show (i == x) = false
      rw [beq_eq_false_iff_ne]
      rintro rfl
      have hml : m < l.length := (List.getElem?_eq_some_iff.mp g).1
      have g2 : l[m] = i := (List.getElem?_eq_some_iff.mp g).2
      have z := List.not_of_lt_findIdx (p := fun y => y == i) (xs := l) (i := m) (by exact hm)
      rw [g2] at z
      simp at z
end
/-! ### the frame of a law -/
def LM (p P0 : Addr) : MK := fun b => b = p ∨ b = P0
/-- the draw list at p, the script at a, the table of code objects at P0 -/
structure Lw (K : PySem.W.Frag) (p a P0 : Addr) (q : Str) (ns : List Int) (H : Hp) : Prop where
  drw : Drw p a H
  scr : SqL K H a (ns.map V.int)
  tab : TabS H P0 q
section
variable {K : PySem.W.Frag} {p a P0 : Addr} {q : Str} {ns : List Int} {H H' : Hp}
theorem Lw.mok (l : Lw K p a P0 q ns H) : Mok (LM p P0) H := fun b z => by
  rcases z with z | z
  · obtain ⟨k, _, g⟩ := l.drw
    rw [z]
    exact ⟨_, g, fun xs e => nomatch e⟩
  · obtain ⟨ps, g, _⟩ := l.tab
    rw [z]
    exact ⟨_, g, fun xs e => nomatch e⟩
theorem lm_p : LM p P0 p := .inl rfl
theorem Lw.up (l : Lw K p a P0 q ns H) (e : Same H H') : Lw K p a P0 q ns H' := ⟨l.drw.up e, l.scr.same e, l.tab.ext e⟩
theorem Lw.upx (l : Lw K p a P0 q ns H) (e : SameX p H H') (d : Drw p a H') : Lw K p a P0 q ns H' := by
  refine ⟨d, sql_x l.scr e l.drw, ?_⟩
  obtain ⟨k, _, g⟩ := l.drw
  obtain ⟨ps, g1, g2, g3⟩ := l.tab
  refine ⟨ps, e _ _ (fun z => ?_) g1, g2, fun pos cv hc => ?_⟩
  · rw [z, g] at g1
    cases g1
  · obtain ⟨c, e1, e2⟩ := g3 pos cv hc
    refine ⟨c, e1, e _ _ (fun z => ?_) e2⟩
    rw [z, g] at e2
    unfold CodeO at e2
    cases e2
/-- a lambda was made -/
theorem Lw.ext (l : Lw K p a P0 q ns H) (e : SameX P0 H H') (t : Tabs [(P0, q)] H') : Lw K p a P0 q ns H' := by
  obtain ⟨k, hk, g⟩ := l.drw
  obtain ⟨ps, g1, _⟩ := l.tab
  have np : p ≠ P0 := fun z => by
    rw [z, g1] at g
    cases g
  refine ⟨⟨k, hk, e _ _ np g⟩, ?_, t _ List.mem_cons_self⟩
  have na : forall o, H a = some o -> (forall ps, o ≠ .tbl ps) -> H' a = some o := fun o h n => e _ _ (fun z => by
    rw [z, g1] at h
    exact n _ (Option.some.inj h).symm) h
  rcases l.scr with (h | ⟨o, h⟩) | h
  · exact .inl (.inl (na _ h fun ps z => nomatch z))
  · exact .inl (.inr ⟨o, na _ h fun ps z => nomatch z⟩)
  · exact .inr h
theorem Lw.tabs (l : Lw K p a P0 q ns H) : Tabs [(P0, q)] H := fun x hx => by
  rw [List.mem_singleton.mp hx]
  exact l.tab
/-- data stay -/
theorem lw_ext (e : SameX P0 H H') : Same (msk (LM p P0) H) (msk (LM p P0) H') := fun b o h => by
  obtain ⟨n, g⟩ := msk_of h
  rw [msk_at n]
  exact e b o (fun z => n (.inr z)) g
end
theorem fnr_of {P : Program} {w : World} {K : PySem.W.Frag} {mg : Str -> Option Value} {base : Heap} {CX : CXT} {k : Nat} {f : Addr} {fd : FuncData} {ps : List Str} {sp : Sp} (F : FnOk P w K mg base CX k f fd ps sp) (B : Binds K fd ps []) : FnR P w K mg base CX k f sp := fun A outer s H us vs Q E hr e0 r hs => by
  have KX : K.In s.heap := e0.mod.kin.keeps fun b o e => (e0.bs b o e).1
  have hl : us.length = ps.length := by rw [← r.length]; exact F.len _ _ _ _ hs
  have hb := B s us KX (by rw [List.append_nil]; exact hl)
  rw [List.append_nil] at hb
  exact F.run A outer s H ⟨us, []⟩ us vs Q E hr e0 hb r hs
end Ak
/-! Ak 28: facts of the head, by Bools. -/
namespace Ak
open PySem PySem.Spec PyProof.Rows L2
open He (ba eqO eqO_ok relAll relAll_ok)
section
variable {K : PySem.W.Frag} {C D f a : Addr}
/-- object's heir with an __eq__ of its own at f -/
def eqcB (K : PySem.W.Frag) (C f : Addr) : Bool := (match K.lookup C with
  | some ⟨.type "type", _, .cls cd, sl⟩ => (match cd.mro, sl.toList with
    | .ref C' :: bm, [_, _, _, _, some (.builtin n), _] => C' == C && !cd.hasDel && bm == [.type "object"] && PySem.W.nsOkIn K cd.ns && eqO (PySem.W.nsIn K cd.ns "__eq__") (some (some (.ref f))) && eqO (PySem.W.nsIn K cd.ns "__ne__") (some none)
    | _, _ => false)
  | _ => false) && PySem.W.isFn K (.ref f)
theorem eqcB_ok (h : eqcB K C f = true) : EqC K C f := by
  obtain ⟨q, hf⟩ := ba h
  refine ⟨?_, ?_⟩
  · split at q
    · rename_i dd cd sl ho
      split at q
      · rename_i C' bm k0 k1 k2 k3 n k5 hm hs
        simp only [Bool.and_eq_true, beq_iff_eq, Bool.not_eq_true'] at q
        obtain ⟨⟨⟨⟨⟨rfl, hdel⟩, rfl⟩, hok⟩, he⟩, hn⟩ := q
        obtain ⟨nm, bs, mro, ns, qn, hd, sn, sub, ab, col, del⟩ := cd
        dsimp only at hm hdel hok he hn
        subst hm hdel
        have hsl : sl = #[k0, k1, k2, k3, some (.builtin n), k5] := by
          obtain ⟨l⟩ := sl
          simp only at hs
          rw [hs]
        subst hsl
        exact ⟨nm, qn, ns, bs, hd, sn, sub, ab, col, dd, k0, k1, k2, k3, k5, n, ho, hok, eqO_ok he, eqO_ok hn⟩
      · cases q
    · cases q
  · obtain ⟨o, ho, hc⟩ := Option.map_eq_some_iff.mp (show (K.lookup f).map (·.cls) = some (.type "function") from beq_iff_eq.mp hf)
    exact ⟨o, ho, hc⟩
/-- an exception class of the program, with an __init__ of its own -/
def oexB (K : PySem.W.Frag) (C : Addr) : Bool := (match K.lookup C with
  | some ⟨.type "type", _, .cls cd, sl⟩ => (match cd.mro, sl.toList with
    | .ref C' :: bm, [_, _, _, _, some (.builtin n), _] => C' == C && n == "ValueError.__new__" && !cd.hasDel && cd.hasDict && PySem.HandSPX.refsVE bm
    | _, _ => false)
  | _ => false) && (eqO (PySem.W.findIn K (.ref C) "__setattr__") (some (some (.builtin "object.__setattr__"))) && (decide (PySem.W.subIn K (.ref C) (.type "BaseException") = some true) && (decide (PySem.W.typeIn K (.ref C) = some (.type "type")) && PySem.W.keepIn K (.ref C))))
theorem oexB_ok (h : oexB K C = true) : OexC K C := by
  obtain ⟨q, h⟩ := ba h
  obtain ⟨h1, h⟩ := ba h
  obtain ⟨h2, h⟩ := ba h
  obtain ⟨h3, h4⟩ := ba h
  refine ⟨?_, eqO_ok h1, of_decide_eq_true h2, of_decide_eq_true h3, h4⟩
  split at q
  · rename_i dd cd sl ho
    split at q
    · rename_i C' bm k0 k1 k2 k3 n k5 hm hs
      simp only [Bool.and_eq_true, beq_iff_eq, Bool.not_eq_true'] at q
      obtain ⟨⟨⟨⟨rfl, rfl⟩, hdel⟩, hdct⟩, hve⟩ := q
      obtain ⟨nm, bs, mro, ns, qn, hd, sn, sub, ab, col, del⟩ := cd
      dsimp only at hm hdel hdct
      subst hm hdel hdct
      have hsl : sl = #[k0, k1, k2, k3, some (.builtin "ValueError.__new__"), k5] := by
        obtain ⟨l⟩ := sl
        simp only at hs
        rw [hs]
      subst hsl
      exact ⟨nm, qn, ns, bs, bm, sn, sub, ab, col, dd, k0, k1, k2, k3, k5, ho, hve⟩
    · cases q
  · cases q
def iscB (K : PySem.W.Frag) (C : Addr) : Bool := eqO (PySem.W.findIn K (.ref C) "__class__") (some (some (.builtin "object.__class__"))) && (eqO (PySem.W.specialIn K (.builtin "object.__class__") "__get__") (some (some (.builtin "getset_descriptor.__get__"))) && (decide (PySem.W.takesIn K (.builtin "object.__class__") = some true) && (decide (PySem.W.mroIn K C (.type "object") = some true) && decide (PySem.W.kitOne K (.ref C) (.ref C) = some true))))
theorem iscB_ok (h : iscB K C = true) : IsC K C := by
  obtain ⟨h1, h⟩ := ba h
  obtain ⟨h2, h⟩ := ba h
  obtain ⟨h3, h⟩ := ba h
  obtain ⟨h4, h5⟩ := ba h
  exact ⟨eqO_ok h1, eqO_ok h2, of_decide_eq_true h3, of_decide_eq_true h4, of_decide_eq_true h5⟩
def excB (K : PySem.W.Frag) (C : Addr) : Bool := eqO (PySem.W.findIn K (.ref C) "__getattribute__") (some (some (.builtin "BaseException.__getattribute__"))) && (eqO (PySem.W.findIn K (.ref C) "__getattr__") (some none) && (decide (PySem.W.subIn K (.ref C) (.type "BaseException") = some true) && (PySem.W.hasDictIn K C && (eqO (PySem.W.findIn K (.ref C) "__class__") (some (some (.builtin "object.__class__"))) && (eqO (PySem.W.specialIn K (.builtin "object.__class__") "__get__") (some (some (.builtin "getset_descriptor.__get__"))) && (decide (PySem.W.takesIn K (.builtin "object.__class__") = some true) && decide (PySem.W.mroIn K C (.type "object") = some true)))))))
theorem excB_ok (h : excB K C = true) : ExcC K C := by
  obtain ⟨h1, h⟩ := ba h
  obtain ⟨h2, h⟩ := ba h
  obtain ⟨h3, h⟩ := ba h
  obtain ⟨h4, h⟩ := ba h
  obtain ⟨h5, h⟩ := ba h
  obtain ⟨h6, h⟩ := ba h
  obtain ⟨h7, h8⟩ := ba h
  exact ⟨eqO_ok h1, eqO_ok h2, of_decide_eq_true h3, h4, eqO_ok h5, eqO_ok h6, of_decide_eq_true h7, of_decide_eq_true h8⟩
/-- a constant of a class: a tuple of the class's own -/
def conTB (K : PySem.W.Frag) (C : Addr) (x : Str) (a : Addr) (vs : List V) : Bool := eqO (PySem.W.findIn K (.ref C) x) (some (some (.ref a))) && (eqO (PySem.W.specialIn K (.ref a) "__get__") (some none) && (!PySem.W.copiedNames.contains x && (match K.lookup a with
  | some ⟨.type c, _, .seq its _, _⟩ => decide (c = "tuple") && (decide (its.size ≤ sizeLine) && relAll vs its.toList)
  | _ => false)))
theorem conTB_ok {x : Str} {vs : List V} (h : conTB K C x a vs = true) : Con K C x (.ref a) (.ref a) ∧ forall G, SqT K G a vs := by
  obtain ⟨h1, h⟩ := ba h
  obtain ⟨h2, h⟩ := ba h
  obtain ⟨h3, h⟩ := ba h
  refine ⟨⟨eqO_ok h1, rfl, eqO_ok h2, by simpa using h3⟩, fun G => ?_⟩
  split at h
  · rename_i c dd its n sl q
    obtain ⟨h4, h⟩ := ba h
    obtain ⟨h5, h6⟩ := ba h
    exact .inr ⟨_, its, n, q, congrArg Value.type (of_decide_eq_true h4), rfl, of_decide_eq_true h5, relAll_ok h6⟩
  · cases h
/-- a method: its attribute facts -/
theorem typ_fn (h : PySem.W.isFn K (.ref f) = true) : PySem.W.typeIn K (.ref f) = some (.type "function") := by
  have z : (K.lookup f).map (·.cls) = some (.type "function") := beq_iff_eq.mp h
  exact z
end
end Ak
/-! Ak 29: == of tuples, dicts, own instances within one another; either answer. -/
namespace Ak
open PySem PySem.Spec PyProof.Rows L2
/-! ### by the model -/
section
open PySem.SeqAt AutoSeq1 MeetsSeq MeetsSeq2 MeetsSeq3 SeqRoads2
variable {prog : Program} {w : World} {A : Around}
/-- a turn of a comparison: equal and on, or unlike and out -/
def Turn (prog : Program) (w : World) (A : Around) (E : Value -> Shared -> Prop) (u v : Value) (next : Shared -> Prop) (out : Shared -> Prop) (s : Shared) : Prop :=
  wpAny (model prog w) A (eqBool u v) (fun r s2 => (r = true ∧ next s2) ∨ (r = false ∧ out s2)) E s
theorem tupB {R : Result -> Shared -> Prop} (p q : Addr) (us vs : Array Value) (k1 k2 : Nat) (d1 d2 : Option Addr) (l1 l2 : Array (Option Value)) (J : Nat -> Shared -> Prop)
    (step : forall i (h1 : i < us.size) (h2 : i < vs.size) s, J i s -> Turn prog w A.in1 (fun e s' => R (.error e) s') us[i] vs[i] (J (i + 1)) (fun s2 => R (.ok (.ret (.bool false))) s2) s)
    (ends : forall s, J (min us.size vs.size) s -> R (.ok (.ret (.bool (us.size == vs.size)))) s) {s : Shared} (hp : s.heap.get? p = some { cls := .type "tuple", dict := d1, data := .seq us k1, slots := l1 }) (hq : s.heap.get? q = some { cls := .type "tuple", dict := d2, data := .seq vs k2, slots := l2 }) (h : J 0 s) :
    wpAny (model prog w) A.in1 (Builtin.«tuple.__eq__» ⟨[.ref p, .ref q], []⟩) (GQ.FinOf prog w A R) (fun e s' => R (.error e) s') s := by
  have sub := AutoSeq1.sub_tuple_tuple
  have zl : (us.toList.zip vs.toList).length = min us.size vs.size := by simp
  have start := h
  obtain ⟨hp0, g0, d0, t0, o0⟩ := s
  wp_walk using wpAny_loadPart' hp, wpAny_loadPart' hq, wpAny_forIn_list _ (fun rest b s' => (b.1 = none ∧ exists i, rest = (us.toList.zip vs.toList).drop i ∧ i ≤ min us.size vs.size ∧ J i s')) _
  case turn =>
    rintro ⟨y, x⟩ rest b s' ⟨hb', i, hz, hi, hJ⟩
    have hlt : i < (us.toList.zip vs.toList).length := by
      rcases Nat.lt_or_ge i (us.toList.zip vs.toList).length with z | z
      · exact z
      · rw [List.drop_of_length_le z] at hz
        cases hz
    have hm : i < min us.size vs.size := by rw [← zl]; exact hlt
    have h1 : i < us.size := Nat.lt_of_lt_of_le hm (Nat.min_le_left _ _)
    have h2 : i < vs.size := Nat.lt_of_lt_of_le hm (Nat.min_le_right _ _)
    rw [List.drop_eq_getElem_cons hlt] at hz
    injection hz with hyx hrest
    have hy : y = us[i] := by have := congrArg Prod.fst hyx; simpa using this
    have hx : x = vs[i] := by have := congrArg Prod.snd hyx; simpa using this
    subst hy hx
    refine wpAny_bind (wpAny_mono (step i h1 h2 s' hJ) (fun r s2 q2 => ?_) fun _ _ x => x)
    rcases q2 with ⟨hr, q2⟩ | ⟨hr, q2⟩
    · subst hr
      wp_walk
      exact ⟨rfl, i + 1, hrest, hm, q2⟩
    · subst hr
      wp_walk
      exact q2
  case fin =>
    rintro ⟨b1, b2⟩ s' ⟨hb', i, hz, hi, hJ⟩
    simp only at hb'
    subst hb'
    have hge : min us.size vs.size ≤ i := by
      rcases Nat.lt_or_ge i (us.toList.zip vs.toList).length with z | z
      · rw [List.drop_eq_getElem_cons z] at hz
        cases hz
      · rw [← zl]
        exact z
    have ei : i = min us.size vs.size := by omega
    have done := ends s' (ei ▸ hJ)
    wp_walk
    simpa [Builtin.Tuple.tupleCompareSizes] using done
  case h =>
    exact ⟨rfl, 0, rfl, Nat.zero_le _, start⟩
end
section
open PySem.SeqAt
variable {prog : Program} {w : World} {A : Around} {E : Value -> Shared -> Prop} {κ : Type} [DecidableEq κ] {knd : KeyKind prog w κ}
/-- the entries of two dicts, one by one; the two stand still -/
theorem pairsB {nm : String} {p q : Addr} {o1 o2 : Obj} {es fs : Array DictEntry} {n1 n2 : Nat} {us vs : List (κ × Value)} {Q : Bool -> Shared -> Prop} (np : (p == sysModules) = false) (nq : (q == sysModules) = false)
    (f1 : o1.data = .dict es n1) (f2 : o2.data = .dict fs n2) (k1 : KeysOf knd es) (k2 : KeysOf knd fs) (pr1 : Pairs knd es.toList us) (pr2 : Pairs knd fs.toList vs) (J : Nat -> Shared -> Prop)
    (at_ : forall i s, J i s -> s.heap.get? p = some o1 ∧ s.heap.get? q = some o2)
    (step : us.length = vs.length -> forall (i : Nat) k u s, us[i]? = some (k, u) -> J i s -> (valueAt vs k = none ∧ Q false s) ∨ exists v, valueAt vs k = some v ∧ Turn prog w A E u v (J (i + 1)) (Q false) s)
    (ends : us.length = vs.length -> forall s, J us.length s -> Q true s) {s : Shared} (unlike : us.length ≠ vs.length -> Q false s) (h : J 0 s) : wpAny (model prog w) A (Builtin.Dict.samePairs nm p q) Q E s := by
  obtain ⟨g1, g2⟩ := at_ 0 s h
  have lu : us.length = es.size := by
    rw [← pr1.length, Array.length_toList]
  have lv : vs.length = fs.size := by
    rw [← pr2.length, Array.length_toList]
  have look : forall k, valueAt vs k = findBy knd.is fs k := fun k => by
    rw [← pr2.find k]
    obtain ⟨l⟩ := fs
    simp [findBy]
  unfold Builtin.Dict.samePairs Builtin.Dict.showsAll
  rw [np, nq]
  rw [if_neg Bool.false_ne_true]
  refine wpAny_bind (wpAny_pure (wpAny_bind (wpAny_pure (wpAny_bind (wpAny_dictEntries g1 f1 ?_)))))
  refine wpAny_bind (wpAny_dictEntries g2 f2 ?_)
  by_cases size : us.length = vs.length
  case neg =>
    have z := unlike size
    rw [lu, lv] at size
    rw [if_pos (bne_iff_ne.mpr size)]
    exact wpAny_bind (wpAny_rule (wpAny_pure z))
  have size2 : es.size = fs.size := by omega
  have go := step size
  have fin := ends size
  rw [if_neg (by rw [size2]; simp)]
  refine wpAny_bind (wpAny_dictEpoch g1 f1 (wpAny_bind ?_))
  rw [Std.Legacy.Range.forIn_eq_forIn_range']
  simp only [Std.Legacy.Range.size, Nat.sub_zero, Nat.add_sub_cancel, Nat.div_one]
  refine wpAny_forIn_list _ (fun rest b s' => b = (none, ()) ∧ exists i, rest = List.range' i (es.size - i) ∧ i ≤ es.size ∧ J i s') _ ?_ ?_ _ _ ⟨rfl, 0, by simp, Nat.zero_le _, h⟩
  · rintro x rest b s' ⟨rfl, i, er, hi, hJ⟩
    have lt : i < es.size := by
      rcases Nat.lt_or_ge i es.size with z | z
      · exact z
      · rw [Nat.sub_eq_zero_of_le z] at er
        simp at er
    rw [show es.size - i = (es.size - (i + 1)) + 1 by omega, List.range'_succ] at er
    injection er with ex er
    subst ex
    obtain ⟨g1', g2'⟩ := at_ x s' hJ
    refine wpAny_bind (wpAny_dictEntries g1' f1 ?_)
    rw [Array.getElem?_eq_getElem lt]
    have lt2 : x < us.length := by omega
    obtain ⟨k, u, eku⟩ : exists k u, us[x] = (k, u) := ⟨_, _, rfl⟩
    have at0 : us[x]? = some (k, u) := by rw [List.getElem?_eq_getElem lt2, eku]
    obtain ⟨isk, isv⟩ := pr1.get? (i := x) (e := es[x]) (k := k) (v := u) (by rw [Array.getElem?_toList]; exact Array.getElem?_eq_getElem lt) at0
    obtain ⟨k0, isk0, hash⟩ := k1 es[x] (Array.getElem_mem lt)
    rw [knd.inj _ _ _ isk0 isk] at hash
    show wpAny _ _ (holding [es[x].key, es[x].val] _ >>= _) _ _ _
    rw [hash]
    refine wpAny_bind (wpAny_holding (wpAny_bind (wpAny_dictFind_of isk g2' f2 k2 ?_)))
    have turn := go x k u s' at0 hJ
    cases hj : fs.findIdx? fun e => knd.is k e.key with
    | none =>
      have miss : valueAt vs k = none := by rw [look k, findBy_of_findIdx?, hj]
      rcases turn with ⟨_, z⟩ | ⟨v, z, _⟩
      · refine wpAny_pure ?_
        show wpAny _ _ (if (!false) = true then _ else _) _ _ _
        rw [if_pos (show (!false) = true from rfl)]
        exact wpAny_pure (wpAny_pure z)
      · rw [miss] at z
        cases z
    | some j =>
      obtain ⟨ltj, _, _⟩ := Array.findIdx?_eq_some_iff_getElem.mp hj
      have found : valueAt vs k = some fs[j].val := by
        rw [look k, findBy_of_findIdx?, hj]
        simp [Array.getElem?_eq_getElem ltj]
      refine wpAny_bind (wpAny_dictEntries g2' f2 ?_)
      rw [Array.getElem?_eq_getElem ltj]
      rcases turn with ⟨z, _⟩ | ⟨v, z, turn⟩
      · rw [found] at z
        cases z
      · rw [found] at z
        injection z with z
        rw [← isv, ← z] at turn
        refine wpAny_holding (wpAny_mono turn (fun r s2 q2 => ?_) fun _ _ e => e)
        rcases q2 with ⟨rfl, q2⟩ | ⟨rfl, q2⟩
        · show wpAny _ _ (if (!true) = true then _ else _) _ _ _
          rw [if_neg (show ¬ (!true) = true by decide)]
          obtain ⟨g1s, _⟩ := at_ _ _ q2
          refine wpAny_bind (wpAny_dictEpoch g1s f1 ?_)
          rw [if_neg (by simp)]
          exact wpAny_pure ⟨rfl, x + 1, er, lt, q2⟩
        · show wpAny _ _ (if (!false) = true then _ else _) _ _ _
          rw [if_pos (show (!false) = true from rfl)]
          exact wpAny_pure (wpAny_pure q2)
  · rintro b s' ⟨rfl, i, er, hi, hJ⟩
    have ei : i = es.size := by
      rcases Nat.lt_or_ge i es.size with z | z
      · rw [show es.size - i = (es.size - (i + 1)) + 1 by omega, List.range'_succ] at er
        cases er
      · omega
    refine wpAny_pure (fin s' ?_)
    rw [lu, ← ei]
    exact hJ
end
end Ak
/-! Ak 30: == of tuples, dicts, own instances: the rules. -/
namespace Ak
open PySem PySem.Spec PyProof.Rows L2
abbrev EqR := V -> V -> Hp -> Bool -> Prop
def MonR (R : EqR) : Prop := forall x y H H' k, Fx H H' -> R x y H k -> R x y H' k
def EqB (X : Cx) (n : Nat) (R : EqR) : Prop := forall (A : Around) (pins : List (Addr × Obj)) (s : Shared) (σ : L2.St) (H : Hp) (x y : V) (u v : Value) (k : Bool), L2.Sub X n A -> Inv X pins σ H s -> RelV x u -> RelV y v -> R x y H k ->
  wpAny (model X.prog X.w) A (eqBool u v) (fun r s' => r = k ∧ exists H', Inv X pins σ H' s' ∧ Same H H') X.xe s
def RcB (X : Cx) (n : Nat) (R : EqR) : Prop := forall (A : Around) (pins : List (Addr × Obj)) (s : Shared) (σ : L2.St) (H : Hp) (x y : V) (u v : Value) (k : Bool), L2.Sub X n A -> Inv X pins σ H s -> RelV x u -> RelV y v -> R x y H k ->
  wpAny (model X.prog X.w) A (richCompare .Eq u v) (fun r s' => r = .bool k ∧ exists H', Inv X pins σ H' s' ∧ Same H H') X.xe s
section
variable {X : Cx} {n m : Nat} {R S : EqR}
theorem EqB.mono (h : EqB X n R) (hn : n ≤ m) : EqB X m R := fun A pins s σ H x y u v k sb => h A pins s σ H x y u v k ⟨sb.room.mono hn, sb.fr⟩
theorem RcB.mono (h : RcB X n R) (hn : n ≤ m) : RcB X m R := fun A pins s σ H x y u v k sb => h A pins s σ H x y u v k ⟨sb.room.mono hn, sb.fr⟩
theorem EqB.or (h : EqB X n R) (g : EqB X n S) : EqB X n (fun x y H k => R x y H k ∨ S x y H k) := fun A pins s σ H x y u v k sb I rx ry d => d.elim (h A pins s σ H x y u v k sb I rx ry) (g A pins s σ H x y u v k sb I rx ry)
theorem MonR.or (h : MonR R) (g : MonR S) : MonR (fun x y H k => R x y H k ∨ S x y H k) := fun x y H H' k f d => d.elim (fun d => .inl (h x y H H' k f d)) fun d => .inr (g x y H H' k f d)
/-- the same thing is equal to itself -/
theorem RcB.eqB (h : RcB X n R) (hr : forall x y H k, R x y H k -> exists a b, x = .ref a ∧ y = .ref b ∧ (a = b -> k = true)) : EqB X n R := by
  intro A pins s σ H x y u v k sb I rx ry d
  obtain ⟨a, b, rfl, rfl, z⟩ := hr _ _ _ _ d
  obtain rfl : u = Value.ref a := rx
  obtain rfl : v = Value.ref b := ry
  by_cases hab : a = b
  · subst hab
    rw [z rfl]
    exact SeqAt.EqAt.same (A := A) (s := s) (.ref a) X.prog X.w X.xe _ ⟨rfl, H, I, Same.refl H⟩
  · refine GQ.eqBool_refG hab (wpAny_mono (h A pins s σ H (.ref a) (.ref b) _ _ k sb I rfl rfl d) (fun r s' q => ?_) fun _ _ x => x)
    obtain ⟨hr', q⟩ := q
    exact ⟨k, hr', rfl, q⟩
/-! ### plain data -/
def RPl : EqR := fun x y H k => exists d e : D, Rep H d x ∧ Rep H e y ∧ d.ok = true ∧ e.ok = true ∧ k = PyData.eqv d.py e.py
theorem mon_pl : MonR RPl := fun x y H H' k f ⟨d, e, h1, h2, h⟩ => ⟨d, e, Rep.fx f d h1, Rep.fx f e h2, h⟩
theorem eqB_pl : EqB X 0 RPl := by
  intro A pins s σ H x y u v k sb I rx ry ⟨d, e, hd, he, sd, se, ek⟩
  obtain ⟨as, r1⟩ := Dp.reads I d.py x u (Rep.dp d (D.ok_pl sd) hd) rx
  obtain ⟨bs, r2⟩ := Dp.reads I e.py y v (Rep.dp e (D.ok_pl se) he) ry
  have h1 := D.ok_dp sd
  have h2 := sb.room.units
  subst ek
  exact SeqAt.eqAt_plain d.py e.py A s u v as bs r1 r2 (pl_plain d (D.ok_pl sd)) (pl_plain e (D.ok_pl se)) (by omega) X.prog X.w X.xe _ ⟨rfl, H, I, Same.refl H⟩
/-! ### tuples -/
inductive RAll (R : EqR) (H : Hp) : List V -> List V -> Bool -> Prop
  | nil : RAll R H [] [] true
  | left {x xs} : RAll R H (x :: xs) [] false
  | right {y ys} : RAll R H [] (y :: ys) false
  | tt {x y xs ys b} : R x y H true -> RAll R H xs ys b -> RAll R H (x :: xs) (y :: ys) b
  | ff {x y xs ys} : R x y H false -> RAll R H (x :: xs) (y :: ys) false
theorem RAll.mon (h : MonR R) {H H' : Hp} (f : Fx H H') {xs ys : List V} {k : Bool} (r : RAll R H xs ys k) : RAll R H' xs ys k := by
  induction r with
  | nil => exact .nil
  | left => exact .left
  | right => exact .right
  | tt h1 _ ih => exact .tt (h _ _ _ _ _ f h1) ih
  | ff h1 => exact .ff (h _ _ _ _ _ f h1)
def RTup (K : PySem.W.Frag) (R : EqR) : EqR := fun x y H k => exists a b xs ys, x = .ref a ∧ y = .ref b ∧ SqT K H a xs ∧ SqT K H b ys ∧ RAll R H xs ys k ∧ (a = b -> k = true)
theorem sqT_fx {K : PySem.W.Frag} {H H' : Hp} {a : Addr} {xs : List V} (f : Fx H H') (nf : forall o, H a ≠ some (.frz o (.tup xs))) (h : SqT K H a xs) : SqT K H' a xs := by
  rcases h with (h | ⟨o, h⟩) | h
  · exact .inl (.inl (f.tup h))
  · exact absurd h (nf o)
  · exact .inr h
theorem rcB_tup (hm : MonR R) (h : EqB X n R) : RcB X (n + 1) (RTup X.K R) := by
  intro A pins s σ H x y u v k sb I rx ry ⟨a, b, xs, ys, ex, ey, ha, hb, hall, _⟩
  subst ex ey
  obtain rfl : u = Value.ref a := rx
  obtain rfl : v = Value.ref b := ry
  obtain ⟨us, ru, e1, z1⟩ := I.tuple ha
  obtain ⟨vs, rv, e2, z2⟩ := I.tuple hb
  obtain ⟨⟨c1, d1, t1, s1⟩, g1, hc1, n1, f1⟩ := id e1
  obtain ⟨⟨c2, d2, t2, s2⟩, g2, hc2, n2, f2⟩ := id e2
  simp only at hc1 f1 hc2 f2
  subst hc1 f1 hc2 f2
  have lx : xs.length = us.toArray.size := by rw [List.size_toArray, ru.length]
  have ly : ys.length = vs.toArray.size := by rw [List.size_toArray, rv.length]
  refine wpAny_richCompare_same_room (op := .Eq) ⟨_, g1, rfl⟩ ⟨_, g2, rfl⟩ F.slot_tuple_eq (GQ.call_here F.slot_tuple_eq ⟨_, g1, rfl⟩ F.entry_tuple_eq (F.args_tuple_eq_2 _ _) ?_) sb.room.units0
  have wok : forall (b : Bool) (s2 : Shared), b = k -> (exists H', Inv X pins σ H' s2 ∧ Same H H') -> (PySem.wants (fun w s' => w ≠ .notImplemented ∧ (fun (r : Value) s' => r = .bool k ∧ exists H', Inv X pins σ H' s' ∧ Same H H') w s') X.xe) (.ok (.ret (.bool b))) s2 := fun b s2 eb q => by
    show Value.bool b ≠ Value.notImplemented ∧ Value.bool b = Value.bool k ∧ _
    exact ⟨fun z => (nomatch z), by rw [eb], q⟩
  generalize hW : (PySem.wants (fun w s' => w ≠ .notImplemented ∧ (fun (r : Value) s' => r = .bool k ∧ exists H', Inv X pins σ H' s' ∧ Same H H') w s') X.xe) = W at wok
  have wer : forall e s2, X.xe e s2 -> W (.error e) s2 := fun e s2 z => by
    rw [← hW]
    exact z
  clear hW
  refine tupB (R := W) a b us.toArray vs.toArray n1 n2 d1 d2 s1 s2
    (fun i s' => exists H', Inv X pins σ H' s' ∧ Same H H' ∧ RAll R H' (xs.drop i) (ys.drop i) k) (fun i h1 h2 s' hj => ?_) (fun s' hj => ?_) g1 g2 ⟨H, I, Same.refl H, hall⟩
  · obtain ⟨H', I', e', r⟩ := hj
    have i1 : i < xs.length := by omega
    have i2 : i < ys.length := by omega
    rw [List.drop_eq_getElem_cons i1, List.drop_eq_getElem_cons i2] at r
    obtain ⟨w1, hw1, r1⟩ := ru.get (List.getElem?_eq_getElem i1)
    obtain ⟨w2, hw2, r2⟩ := rv.get (List.getElem?_eq_getElem i2)
    have q1 : us.toArray[i] = w1 := by
      have z : us[i]? = some us.toArray[i] := by
        have h1' : i < us.length := by simpa using h1
        rw [List.getElem?_eq_getElem h1'] <;> simp
      rw [z] at hw1
      exact Option.some.inj hw1
    have q2 : vs.toArray[i] = w2 := by
      have z : vs[i]? = some vs.toArray[i] := by
        have h2' : i < vs.length := by simpa using h2
        rw [List.getElem?_eq_getElem h2'] <;> simp
      rw [z] at hw2
      exact Option.some.inj hw2
    rw [q1, q2]
    have go : forall k', R xs[i] ys[i] H' k' -> (k' = true -> RAll R H' (xs.drop (i + 1)) (ys.drop (i + 1)) k) -> (k' = false -> k = false) -> Ak.Turn X.prog X.w A.in1 (fun e s' => W (.error e) s') w1 w2
        (fun s' => exists H', Inv X pins σ H' s' ∧ Same H H' ∧ RAll R H' (xs.drop (i + 1)) (ys.drop (i + 1)) k) (fun s2 => W (.ok (.ret (.bool false))) s2) s' := fun k' hR k1 k2 => by
      refine wpAny_mono (h A.in1 pins s' σ H' _ _ w1 w2 k' ⟨sb.room.in1, sb.fr⟩ I' r1 r2 hR) (fun r s2 q => ?_) wer
      obtain ⟨rfl, H2, I2, e2⟩ := q
      cases r with
      | true => exact .inl ⟨rfl, H2, I2, e'.trans e2, (k1 rfl).mon hm (Fx.of e2)⟩
      | false => exact .inr ⟨rfl, wok false s2 (k2 rfl).symm ⟨H2, I2, e'.trans e2⟩⟩
    cases r with
    | tt h1 h2 => exact go true h1 (fun _ => h2) fun z => nomatch z
    | ff h1 => exact go false h1 (fun z => nomatch z) fun _ => rfl
  · obtain ⟨H', I', e', r⟩ := hj
    refine wok _ s' ?_ ⟨H', I', e'⟩
    by_cases l : xs.length = ys.length
    · have z1 : xs.drop (min us.toArray.size vs.toArray.size) = [] := List.drop_of_length_le (by omega)
      have z2 : ys.drop (min us.toArray.size vs.toArray.size) = [] := List.drop_of_length_le (by omega)
      rw [z1, z2] at r
      cases r
      rw [← lx, ← ly, l]
      simp
    · have kf : k = false := by
        rcases Nat.lt_or_ge xs.length ys.length with z | z
        · have z1 : xs.drop (min us.toArray.size vs.toArray.size) = [] := List.drop_of_length_le (by omega)
          have i2 : min us.toArray.size vs.toArray.size < ys.length := by omega
          rw [z1, List.drop_eq_getElem_cons i2] at r
          cases r
          rfl
        · have z1 : ys.drop (min us.toArray.size vs.toArray.size) = [] := List.drop_of_length_le (by omega)
          have i2 : min us.toArray.size vs.toArray.size < xs.length := by omega
          rw [z1, List.drop_eq_getElem_cons i2] at r
          cases r
          rfl
      rw [kf, ← lx, ← ly]
      exact beq_eq_false_iff_ne.mpr l
theorem eqB_tup (hm : MonR R) (h : EqB X n R) : EqB X (n + 1) (RTup X.K R) := (rcB_tup hm h).eqB fun _ _ _ _ ⟨a, b, _, _, ex, ey, _, _, _, z⟩ => ⟨a, b, ex, ey, z⟩
end
end Ak
/-! Ak 31: == of dicts and own instances. -/
namespace Ak
open PySem PySem.Spec PyProof.Rows L2
/-! ### dicts -/
inductive RKs (R : EqR) (H : Hp) (kb : List (Key × V)) : List (Key × V) -> Bool -> Prop
  | nil : RKs R H kb [] true
  | miss {c x r} : valV kb c = none -> RKs R H kb ((c, x) :: r) false
  | tt {c x y r b} : valV kb c = some y -> R x y H true -> RKs R H kb r b -> RKs R H kb ((c, x) :: r) b
  | ff {c x y r} : valV kb c = some y -> R x y H false -> RKs R H kb ((c, x) :: r) false
theorem RKs.mon {R : EqR} (h : MonR R) {H H' : Hp} (f : Fx H H') {kb ka : List (Key × V)} {k : Bool} (r : RKs R H kb ka k) : RKs R H' kb ka k := by
  induction r with
  | nil => exact .nil
  | miss h1 => exact .miss h1
  | tt h1 h2 _ ih => exact .tt h1 (h _ _ _ _ _ f h2) ih
  | ff h1 h2 => exact .ff h1 (h _ _ _ _ _ f h2)
def RDic (R : EqR) : EqR := fun x y H k => exists a b ka kb, x = .ref a ∧ y = .ref b ∧ Rd H a (.dK ka) ∧ Rd H b (.dK kb) ∧ ((ka.length ≠ kb.length ∧ k = false) ∨ (ka.length = kb.length ∧ RKs R H kb ka k)) ∧ (a = b -> k = true)
section
variable {X : Cx} {n m : Nat} {R S : EqR} {pins : List (Addr × Obj)} {σ : L2.St} {H : Hp} {s : Shared}
/-- a dict is locked, and unlocked behind -/
theorem lockD {a : Addr} {ka : List (Key × V)} (I : Inv X pins σ H s) (h : Rd H a (.dK ka)) : exists od H2, Inv X pins σ H2 s ∧ H2 a = some (.frz od (.dK ka)) ∧ Fx H H2 ∧ (forall c o u, H c = some (.frz o u) -> H2 c = some (.frz o u)) ∧
    forall H3 s3, Same H2 H3 -> Inv X pins σ H3 s3 -> exists H4, Inv X pins σ H4 s3 ∧ Same H H4 := by
  rcases h with h | ⟨od, h⟩
  · obtain ⟨od, I2⟩ := I.lock h (u := .dK ka) trivial
    refine ⟨od, _, I2, upd_same, fx_lock h (.inl ⟨ka, rfl⟩), fun c o u hc => ?_, fun H3 s3 e I3 => ?_⟩
    · rw [upd_ne]
      · exact hc
      · rintro rfl
        rw [h] at hc
        cases hc
    · have h3 := e a _ upd_same
      refine ⟨_, I3.unlock h3 (I.nofrz h trivial), fun b o hb => ?_⟩
      by_cases eb : b = a
      · rw [eb] at hb ⊢
        rw [h] at hb
        rw [upd_same]
        exact hb
      · rw [upd_ne eb]
        exact e b o (by rw [upd_ne eb]; exact hb)
  · exact ⟨od, H, I, h, Fx.refl H, fun _ _ _ z => z, fun H3 s3 e I3 => ⟨H3, I3, e⟩⟩
theorem rcB_dic (hm : MonR R) (h : EqB X n R) : RcB X (n + 1) (RDic R) := by
  intro A pins s σ H x y u v k sb I rx ry ⟨a, b, ka, kb, ex, ey, ha, hb, hall, _⟩
  subst ex ey
  obtain rfl : u = Value.ref a := rx
  obtain rfl : v = Value.ref b := ry
  obtain ⟨oa, H2, I2, l2, fx2, fz2, back2⟩ := lockD I ha
  have hb2 : Rd H2 b (.dK kb) := fx2.rk hb
  obtain ⟨ob, H3, I3, l3, fx3, fz3, back3⟩ := lockD I2 hb2
  have l2' := fz3 _ _ _ l2
  have fx := fx2.trans fx3
  obtain ⟨na, ga, xa, es, n1, us, f1, sz1, kv1, _, _, ga', _, f1', k1, p1, nd1⟩ := I3.frzK l2'
  rw [ga] at ga'
  cases ga'
  rw [f1] at f1'
  cases f1'
  obtain ⟨nb, gb, xb, fs, n2, vs, f2, sz2, kv2, _, _, gb', _, f2', k2, p2, nd2⟩ := I3.frzK l3
  rw [gb] at gb'
  cases gb'
  rw [f2] at f2'
  cases f2'
  have da : s.heap.DictOf (mixKind X.prog X.w) a us := ⟨_, es, n1, ga, xa, f1, k1, p1, nd1⟩
  have db : s.heap.DictOf (mixKind X.prog X.w) b vs := ⟨_, fs, n2, gb, xb, f2, k2, p2, nd2⟩
  have la : ka.length = us.length := kv1.length
  have lb : kb.length = vs.length := kv2.length
  refine wpAny_mono (Q := fun r s' => r = .bool k ∧ exists H', Inv X pins σ H' s' ∧ Same H3 H') ?_ (fun r s' q => ?_) fun _ _ e => e
  case refine_2 =>
    obtain ⟨er, H', I', e'⟩ := q
    obtain ⟨H4, I4, e4⟩ := back3 H' s' e' I'
    obtain ⟨H5, I5, e5⟩ := back2 H4 s' e4 I4
    exact ⟨er, H5, I5, e5⟩
  refine wpAny_richCompare_same_room (op := .Eq) da.typeIs db.typeIs PySem.F.slot_dict_eq (PySem.wpAny_call_entry PySem.F.slot_dict_eq da.typeIs PySem.F.entry_dict_eq ?_ (PySem.F.args_dict_eq_2 _ _)) sb.room.units0
  show wpAny _ _ (Builtin.Dict.dictSlotArgs "__eq__" ⟨[.ref a, .ref b], []⟩ >>= _) _ _ s
  refine wpAny_bind ?_
  unfold Builtin.Dict.dictSlotArgs
  refine wpAny_bind (wpAny_notOrdered_dict da.typeIs (wpAny_pure ?_))
  refine wpAny_bind (wpAny_isInstance (T := "dict") db.typeIs PySem.F.sub_dict_dict ?_)
  rw [if_neg (show ¬ (!true) = true by decide)]
  refine wpAny_bind (wpAny_pure (wpAny_bind (wpAny_pure (wpAny_bind (wpAny_mono (Q := fun r s' => r = k ∧ exists H', Inv X pins σ H' s' ∧ Same H3 H') (E := X.xe) ?_ (fun r s' q => ?_) fun _ _ e => e)))))
  case refine_2 =>
    obtain ⟨er, q⟩ := q
    subst er
    refine wpAny_pure ⟨_, rfl, fun z => (nomatch z), ?_⟩
    cases r <;> exact ⟨rfl, q⟩
  refine pairsB (knd := mixKind X.prog X.w) na nb f1 f2 k1 k2 p1 p2 (fun i s' => exists H', Inv X pins σ H' s' ∧ Same H3 H' ∧ (ka.length = kb.length -> RKs R H' kb (ka.drop i) k)) (fun i s' hj => ?_) (fun size i c w s' hi hj => ?_) (fun size s' hj => ?_) (fun size => ?_) ⟨H3, I3, Same.refl H3, fun l => ?_⟩
  · obtain ⟨H', I', e', _⟩ := hj
    exact ⟨(I'.frzK (e' _ _ l2')).2.1, (I'.frzK (e' _ _ l3)).2.1⟩
  · obtain ⟨H', I', e', r⟩ := hj
    have lt : i < us.length := (List.getElem?_eq_some_iff.mp hi).1
    have lk : i < ka.length := by omega
    obtain ⟨c1, w1, eq1⟩ : exists c1 w1, ka[i] = (c1, w1) := ⟨_, _, rfl⟩
    obtain ⟨w', hw', rw1⟩ := kv_get kv1 (i := i) (k := c1) (v := w1) (by rw [List.getElem?_eq_getElem lk, eq1])
    rw [hi] at hw'
    cases hw'
    have r := r (by omega)
    rw [List.drop_eq_getElem_cons lk, eq1] at r
    have vrel := kv2.val c
    cases r with
    | miss hn =>
      rw [hn] at vrel
      refine .inl ⟨?_, ⟨rfl, H', I', e'⟩⟩
      cases z : valueAt vs c with
      | none => rfl
      | some o =>
        rw [z] at vrel
        exact vrel.elim
    | @tt _ _ yy _ _ hv h1 h2 =>
      rw [hv] at vrel
      cases z : valueAt vs c with
      | none =>
        rw [z] at vrel
        exact vrel.elim
      | some o =>
        rw [z] at vrel
        refine .inr ⟨o, rfl, wpAny_mono (h A.in1 pins s' σ H' _ _ w o true ⟨sb.room.in1, sb.fr⟩ I' rw1 vrel h1) (fun r s2 q => ?_) fun _ _ e => e⟩
        obtain ⟨rfl, H2', I2', e2'⟩ := q
        exact .inl ⟨rfl, H2', I2', e'.trans e2', fun _ => h2.mon hm (Fx.of e2')⟩
    | @ff _ _ yy _ hv h1 =>
      rw [hv] at vrel
      cases z : valueAt vs c with
      | none =>
        rw [z] at vrel
        exact vrel.elim
      | some o =>
        rw [z] at vrel
        refine .inr ⟨o, rfl, wpAny_mono (h A.in1 pins s' σ H' _ _ w o false ⟨sb.room.in1, sb.fr⟩ I' rw1 vrel h1) (fun r s2 q => ?_) fun _ _ e => e⟩
        obtain ⟨rfl, H2', I2', e2'⟩ := q
        exact .inr ⟨rfl, ⟨rfl, H2', I2', e'.trans e2'⟩⟩
  · obtain ⟨H', I', e', r⟩ := hj
    have r := r (by omega)
    rw [← la, List.drop_length] at r
    cases r
    exact ⟨rfl, H', I', e'⟩
  · rcases hall with ⟨_, ek⟩ | ⟨l, _⟩
    · exact ⟨ek.symm, H3, I3, Same.refl H3⟩
    · exact absurd (by omega) size
  · rcases hall with ⟨l', _⟩ | ⟨_, r⟩
    · exact absurd l l'
    · rw [List.drop_zero]
      exact r.mon hm fx
theorem eqB_dic (hm : MonR R) (h : EqB X n R) : EqB X (n + 1) (RDic R) := (rcB_dic hm h).eqB fun _ _ _ _ ⟨a, b, _, _, ex, ey, _, _, _, z⟩ => ⟨a, b, ex, ey, z⟩
theorem mon_dic (hm : MonR R) : MonR (RDic R) := fun x y H H' k f ⟨a, b, ka, kb, ex, ey, ha, hb, hall, z⟩ => ⟨a, b, ka, kb, ex, ey, f.rk ha, f.rk hb, hall.elim .inl fun ⟨l, r⟩ => .inr ⟨l, r.mon hm f⟩, z⟩
/-! ### instances -/
def RIns (C : Addr) (R : List D -> D -> Prop) : EqR := fun x y H k => exists a b dx dy fs gs d e, x = .ref a ∧ y = .ref b ∧ H a = some (.ins C dx fs) ∧ H b = some (.ins C dy gs) ∧ Rep H d x ∧ Rep H e y ∧ R [d, e] (.bl k) ∧ (a = b -> k = true)
theorem mon_ins {C : Addr} {R : List D -> D -> Prop} : MonR (RIns C R) := fun x y H H' k f ⟨a, b, dx, dy, fs, gs, d, e, ex, ey, ha, hb, h1, h2, h⟩ => ⟨a, b, dx, dy, fs, gs, d, e, ex, ey, f.ins ha, f.ins hb, Rep.fx f d h1, Rep.fx f e h2, h⟩
theorem rcB_ins {CX : CXT} {C f : Addr} {R : List D -> D -> Prop} (F : FnR X.prog X.w X.K X.mg X.base CX n f (SpR R)) (mt : Meth X.K C "__eq__" f) (hx : forall (st : List Env) (H : Hp) (s : Shared) (e : Value) (s' : Shared), CX st H s E0 e s' -> False) : RcB X n (RIns C R) := by
  intro A pins s σ H x y u v k sb I rx ry ⟨a, b, dx, dy, fs, gs, d, e, ex, ey, ha, hb, r1, r2, hR, _⟩
  subst ex ey
  obtain rfl : u = Value.ref a := rx
  obtain rfl : v = Value.ref b := ry
  obtain ⟨mA, J, _⟩ := ins_get I.hok ha
  obtain ⟨mB, J', _⟩ := ins_get I.hok hb
  obtain ⟨od, J, _⟩ := J.look
  obtain ⟨od', J', _⟩ := J'.look
  obtain ⟨m, hF⟩ := I.fr
  refine PySem.W.cmp_K (op := .Eq) (tb := .ref C) sb.room.units0 hF I.ok.mod.kin J J'.type (by simp [PySem.W.notFirst]) mt.at_ mt.fn ?_
  have e0 := I.env0
  have e1 : Env0 X.prog X.w X.K X.mg X.base A X.stack s H := ⟨by rw [sb.fr]; exact e0.frames, e0.mod, e0.bs, e0.bsz, e0.funs, e0.frf, e0.hok, e0.bare⟩
  have low : Same H (msk (fun _ => False) H) := fun a o h => by
    rw [msk_at fun z => z]
    exact h
  have hsp : SpR R [.ref a, .ref b] H (fun v H' => v = .bl k ∧ Same H H') E0 := ⟨fun _ => False, [d, e], .bl k, Mok.none H, ⟨_, _, rfl, r1.up low, _, _, rfl, r2.up low, rfl⟩, hR, fun v H' e' rv => ⟨rv, e'⟩⟩
  refine wpAny_call (codeAny_mono (F A X.stack s H [.ref a, .ref b] [.ref a, .ref b] _ E0 sb.room e1 (.cons rfl (.cons rfl .nil)) hsp) fun r s' hq => ?_)
  cases r with
  | error e => exact (hx _ _ _ _ _ hq).elim
  | ok fl =>
    cases fl with
    | ret w =>
      obtain ⟨z, H', I', rz, ez, e'⟩ := I.after hq
      subst ez
      obtain rfl : w = Value.bool k := rz
      exact ⟨rfl, H', I', e'⟩
    | next => exact False.elim hq
    | brk => exact False.elim hq
    | cont => exact False.elim hq
theorem eqB_ins {CX : CXT} {C f : Addr} {R : List D -> D -> Prop} (F : FnR X.prog X.w X.K X.mg X.base CX n f (SpR R)) (mt : Meth X.K C "__eq__" f) (hx : forall (st : List Env) (H : Hp) (s : Shared) (e : Value) (s' : Shared), CX st H s E0 e s' -> False) : EqB X n (RIns C R) :=
  (rcB_ins F mt hx).eqB fun _ _ _ _ ⟨a, b, _, _, _, _, _, _, ex, ey, _, _, _, _, _, z⟩ => ⟨a, b, ex, ey, z⟩
/-! ### as an expression -/
def rEqR (R : EqR) : R2 := fun x y H Q => exists k, R x y H k ∧ forall H', Same H H' -> Q (.bl k) H'
theorem op_eqR (h : RcB X n R) (hr : Room n X.A) : OpR X (compareOp .Eq) (rEqR R) := by
  intro pins s σ H x y v u Q I rx ry ⟨k, hk, q⟩
  show wpAny (model X.prog X.w) X.A (richCompare .Eq v u) (EP X pins σ Q) X.xe s
  refine wpAny_mono (h X.A pins s σ H x y v u k ⟨hr, rfl⟩ I rx ry hk) (fun r s' z => ?_) fun _ _ e => e
  obtain ⟨er, H', I', e⟩ := z
  subst er
  exact ⟨.bl k, H', I', rfl, q H' e⟩
end
end Ak
/-! Ak 32: == by own members, on data. -/
namespace Ak
open PySem PySem.Spec PyProof.Rows L2
/-- no value is both -/
def Apart (d e : D) : Prop := forall G x, Rep G d x -> Rep G e x -> False
abbrev DRel := D -> D -> Bool -> Prop
def Lift (R : EqR) (S : DRel) : Prop := forall H d e k x y, S d e k -> Rep H d x -> Rep H e y -> R x y H k
inductive DAll (S : DRel) : List D -> List D -> Bool -> Prop
  | nil : DAll S [] [] true
  | left {x xs} : DAll S (x :: xs) [] false
  | right {y ys} : DAll S [] (y :: ys) false
  | tt {x y xs ys b} : S x y true -> DAll S xs ys b -> DAll S (x :: xs) (y :: ys) b
  | ff {x y xs ys} : S x y false -> DAll S (x :: xs) (y :: ys) false
inductive DKs (S : DRel) (kb : List (Key × D)) : List (Key × D) -> Bool -> Prop
  | nil : DKs S kb [] true
  | miss {c x r} : vD kb c = none -> DKs S kb ((c, x) :: r) false
  | tt {c x y r b} : vD kb c = some y -> S x y true -> DKs S kb r b -> DKs S kb ((c, x) :: r) b
  | ff {c x y r} : vD kb c = some y -> S x y false -> DKs S kb ((c, x) :: r) false
def SPl : DRel := fun d e k => d.ok = true ∧ e.ok = true ∧ k = PyData.eqv d.py e.py
def STup (S : DRel) : DRel := fun d e k => exists ds es, d = .tup ds ∧ e = .tup es ∧ DAll S ds es k ∧ (k = false -> Apart d e)
def SDic (S : DRel) : DRel := fun d e k => exists ka kb, d = .dK ka ∧ e = .dK kb ∧ ((ka.length ≠ kb.length ∧ k = false) ∨ (ka.length = kb.length ∧ DKs S kb ka k)) ∧ (k = false -> Apart d e)
def SIns (C : Addr) (R : List D -> D -> Prop) : DRel := fun d e k => exists fs gs, d = .ins C fs ∧ e = .ins C gs ∧ R [d, e] (.bl k) ∧ (k = false -> Apart d e)
section
variable {R T : EqR} {S U : DRel} {K : PySem.W.Frag} {M : MK} {H : Hp}
theorem lift_pl : Lift RPl SPl := fun H d e k x y ⟨h1, h2, h3⟩ r1 r2 => ⟨d, e, r1, r2, h1, h2, h3⟩
theorem Lift.or (h : Lift R S) (g : Lift T U) : Lift (fun x y H k => R x y H k ∨ T x y H k) (fun d e k => S d e k ∨ U d e k) := fun H d e k x y z r1 r2 => z.elim (fun z => .inl (h H d e k x y z r1 r2)) fun z => .inr (g H d e k x y z r1 r2)
theorem same_bit {d e : D} {G : Hp} {k : Bool} {x y : V} (h : k = false -> Apart d e) (r1 : Rep G d x) (r2 : Rep G e y) (exy : x = y) : k = true := by
  cases k with
  | true => rfl
  | false =>
    rw [← exy] at r2
    exact (h rfl G x r1 r2).elim
theorem lift_tup (h : Lift R S) : Lift (RTup K R) (STup S) := by
  intro H d e k x y hS r1 r2
  obtain ⟨ds, es, ed, ee, hall, ap⟩ := hS
  subst ed ee
  obtain ⟨a, xs, ex, ha, rx⟩ := id r1
  obtain ⟨b, ys, ey, hb, ry⟩ := id r2
  refine ⟨a, b, xs, ys, ex, ey, SqT.of ha, SqT.of hb, ?_, fun eab => same_bit ap r1 r2 (by rw [ex, ey, eab])⟩
  clear ap r1 r2 ex ey ha hb
  induction hall generalizing xs ys with
  | nil =>
    rw [show xs = [] from rx, show ys = [] from ry]
    exact .nil
  | left =>
    obtain ⟨x1, xs1, e1, _⟩ := rx
    rw [e1, show ys = [] from ry]
    exact .left
  | right =>
    obtain ⟨y1, ys1, e1, _⟩ := ry
    rw [e1, show xs = [] from rx]
    exact .right
  | tt h1 _ ih =>
    obtain ⟨x1, xs1, e1, p1, q1⟩ := rx
    obtain ⟨y1, ys1, e2, p2, q2⟩ := ry
    rw [e1, e2]
    exact .tt (h H _ _ _ _ _ h1 p1 p2) (ih xs1 q1 ys1 q2)
  | ff h1 =>
    obtain ⟨x1, xs1, e1, p1, q1⟩ := rx
    obtain ⟨y1, ys1, e2, p2, q2⟩ := ry
    rw [e1, e2]
    exact .ff (h H _ _ _ _ _ h1 p1 p2)
theorem lift_dic (h : Lift R S) : Lift (RDic R) (SDic S) := by
  intro H d e k x y hS r1 r2
  obtain ⟨ka, kb, ed, ee, hall, ap⟩ := hS
  subst ed ee
  obtain ⟨a, wa, ex, ha, ra0⟩ := id r1
  obtain ⟨b, wb, ey, hb, rb0⟩ := id r2
  have ra := repK_iff.mp ra0
  have rb := repK_iff.mp rb0
  clear ra0 rb0
  have la := Paired.length ra
  have lb := Paired.length rb
  refine ⟨a, b, wa, wb, ex, ey, ha, hb, ?_, fun eab => same_bit ap r1 r2 (by rw [ex, ey, eab])⟩
  rcases hall with ⟨l, ek⟩ | ⟨l, hall⟩
  · exact .inl ⟨by omega, ek⟩
  · refine .inr ⟨by omega, ?_⟩
    clear ap r1 r2 ex ey ha hb la lb l
    induction hall generalizing wa with
    | nil =>
      cases ra
      exact .nil
    | @miss c x r hn =>
      cases ra with
      | @cons p q ps qs hpq t =>
        obtain ⟨q1, q2⟩ := q
        obtain ⟨ec, _⟩ := hpq
        have ec : c = q1 := ec
        subst ec
        refine .miss ?_
        rcases rb.val c with ⟨_, z⟩ | ⟨d', v, z, _⟩
        · exact z
        · rw [hn] at z
          cases z
    | @tt c x y r b hv h1 _ ih =>
      cases ra with
      | @cons p q ps qs hpq t =>
        obtain ⟨q1, q2⟩ := q
        obtain ⟨ec, rx⟩ := hpq
        have ec : c = q1 := ec
        subst ec
        rcases rb.val c with ⟨z, _⟩ | ⟨d', v, z, z2, rv⟩
        · rw [hv] at z
          cases z
        · rw [hv] at z
          cases z
          exact .tt z2 (h H _ _ _ _ _ h1 rx rv) (ih _ t)
    | @ff c x y r hv h1 =>
      cases ra with
      | @cons p q ps qs hpq t =>
        obtain ⟨q1, q2⟩ := q
        obtain ⟨ec, rx⟩ := hpq
        have ec : c = q1 := ec
        subst ec
        rcases rb.val c with ⟨z, _⟩ | ⟨d', v, z, z2, rv⟩
        · rw [hv] at z
          cases z
        · rw [hv] at z
          cases z
          exact .ff z2 (h H _ _ _ _ _ h1 rx rv)
theorem lift_ins {C : Addr} {Q : List D -> D -> Prop} : Lift (RIns C Q) (SIns C Q) := fun H d e k x y ⟨fs, gs, ed, ee, hR, ap⟩ r1 r2 => by
  subst ed ee
  obtain ⟨a, dx, vs, ex, ha, _⟩ := id r1
  obtain ⟨b, dy, ws, ey, hb, _⟩ := id r2
  exact ⟨a, b, dx, dy, vs, ws, _, _, ex, ey, ha, hb, r1, r2, hR, fun eab => same_bit ap r1 r2 (by rw [ex, ey, eab])⟩
theorem rd_eqR (h : Lift R S) {d e : D} {k : Bool} (hS : S d e k) : RD M (rEqR R) H d e (.bl k) := fun x y H1 _ rx ry Q q => ⟨k, h H1 d e k x y hS (rx.up msk_same) (ry.up msk_same), fun H' e => q _ H' e rfl⟩
/-! ### what is apart -/
theorem apart_len {ds es : List D} (h : ds.length ≠ es.length) : Apart (.tup ds) (.tup es) := fun G x ⟨a, xs, ex, ha, rx⟩ ⟨b, ys, ey, hb, ry⟩ => by
  rw [ex] at ey
  cases ey
  rw [ha] at hb
  cases hb
  exact h (by rw [← rx.len, ← ry.len])
theorem apart_at {ds es : List D} {i : Nat} {d e : D} (h1 : ds[i]? = some d) (h2 : es[i]? = some e) (h : Apart d e) : Apart (.tup ds) (.tup es) := fun G x ⟨a, xs, ex, ha, rx⟩ ⟨b, ys, ey, hb, ry⟩ => by
  rw [ex] at ey
  cases ey
  rw [ha] at hb
  cases hb
  obtain ⟨v, hv, rv⟩ := rx.at h1
  obtain ⟨w, hw, rw'⟩ := ry.at h2
  rw [hv] at hw
  cases hw
  exact h G v rv rw'
theorem apart_ins {C C' : Addr} {fs gs : List (Str × D)} {f : Str} {d e : D} (h1 : fs.lookup f = some d) (h2 : gs.lookup f = some e) (h : Apart d e) : Apart (.ins C fs) (.ins C' gs) := fun G x ⟨a, dx, vs, ex, ha, rx⟩ ⟨b, dy, ws, ey, hb, ry⟩ => by
  rw [ex] at ey
  cases ey
  rw [ha] at hb
  cases hb
  obtain ⟨v, hv, rv⟩ := rx.look h1
  obtain ⟨w, hw, rw'⟩ := ry.look h2
  rw [hv] at hw
  cases hw
  exact h G v rv rw'
end
end Ak
/-! Ak 33: written empty tuples; is None; max; dict(pairs), list(dict); defaults; d[k] = v. -/
namespace Ak
open PySem PySem.Spec PyProof.Rows L2
/-! ### a written empty tuple -/
def ET (K : PySem.W.Frag) (a : Addr) : Prop := forall H : Hp, SqT K H a []
def rSortC (K : PySem.W.Frag) : List V -> Hp -> VK -> Prop := fun xs H Q => rSortU K xs H Q ∨ exists a, xs = [V.ref a] ∧ SqT K H a [] ∧ forall p, H p = none -> Q (.ref p) (upd H p (.lst []))
theorem call_sortC {X : Cx} (hcalm : X.calm = true) (hu : X.A.units + 64 < cLine) : CallR X (.builtin "sorted") (rSortC X.K) := by
  intro pins σ s H xs us Q I r q
  rcases q with q | ⟨a, ex, ha, q⟩
  · exact call_sortU hcalm hu pins σ s H xs us Q I r q
  subst ex
  obtain ⟨u, eu, rx⟩ := vals1 r
  subst eu
  obtain rfl : u = Value.ref a := rx
  obtain ⟨its, rv, pl, hz⟩ := I.tuple ha
  obtain ⟨o, ho, hc, n, hd⟩ := pl
  have hl := rv.length
  refine Calls.call_function_entry PyProof.Rows.kind_sorted PyProof.Rows.plain_sorted PyProof.Rows.entry_sorted (PyProof.Rows.args_sorted1 _) ?_
  unfold Builtin.«sorted»
  refine wpAny_bind (m := checkCount "sorted" 1 1 _) (wpAny_pure ?_)
  refine wpAny_bind (wpAny_collect_seq a (.inr rfl) ho hc hd (fun h' kp => ?_) (by rw [List.size_toArray, ← hl]; exact hz))
  have c : CanSort (([] : List (V × D)).map (·.2)) := canSort_ints []
  refine sorted_go (G := H) (bs := []) (mk := fun l => Fin.done (Flow.ret l)) (Same.refl H) (I.kept (t' := _) kp) hu (by exact rv) (fun p hp => by cases hp) c (Nat.zero_le _) (fun p out hp ro => ?_) (fun u s2 h => ⟨_, rfl, h⟩) ?_
  · have e0 : sortD (List.map (fun x : V × D => x.2) []) = [] := by simp [sortD]
    rw [e0] at ro
    have e : out = [] := ro
    rw [e]
    exact q p hp
  · show X.A.in1.units ≤ _
    first | exact Nat.le_succ _ | exact Nat.le_add_right _ _ | (simp [Around.in1]) | omega
section
variable {K : PySem.W.Frag} {M : MK} {s : L2.St} {H : Hp} {te ta : TE} {tr : TA} {ds es : List D} {d e z : D}
theorem ev_sortC (m : Mok M H) (h : EvDs M tr s H [d]) (hi : d.its = some ds) (c : CanSort ds) : EvD M (tCB (rSortC K) tr) s H (.lst (sortD ds)) := ev_cb h fun vs H1 e1 rs Q q => by
  obtain ⟨x, xs, ev, rx, r0⟩ := rs
  have e4 : xs = [] := r0
  subst e4 ev
  refine .inl ⟨x, ds, msk M H1, rfl, Sub.of (m.up e1), Src.of hi rx, c, fun p out hp ro => q _ _ (same_new hp) ⟨p, out, rfl, msk_new (m.up e1) hp, ro.up (msk_mono (same_new hp))⟩⟩
theorem ev_sortE {a : Addr} (m : Mok M H) (ha : ET K a) (h : EvDs M tr s H [.oth (.ref a)]) : EvD M (tCB (rSortC K) tr) s H (.lst []) := ev_cb h fun vs H1 e1 rs Q q => by
  obtain ⟨x, xs, ev, rx, r0⟩ := rs
  have e4 : xs = [] := r0
  have e5 : x = V.ref a := rx
  subst e4 ev e5
  exact .inr ⟨a, rfl, ha H1, fun p hp => q _ _ (same_new hp) ⟨p, [], rfl, msk_new (m.up e1) hp, rfl⟩⟩
theorem ev_lenE {a : Addr} (ha : ET K a) (h : EvDs M tr s H [.oth (.ref a)]) : EvD M (tCB (rLenU K) tr) s H (.int 0) := ev_cb h fun vs H1 e1 rs Q q => by
  obtain ⟨x, xs, ev, rx, r0⟩ := rs
  have e4 : xs = [] := r0
  have e5 : x = V.ref a := rx
  subst e4 ev e5
  exact .inl ⟨.ref a, 0, rfl, .inr ⟨[], ha H1, rfl⟩, q _ H1 (Same.refl H1) rfl⟩
theorem ia_E {a : Addr} (ha : ET K a) (h : EvD M te s H (.oth (.ref a))) : EvI M (iAny K te) s H [] := fun H1 e R k => h H1 e _ fun v H2 e2 r => by
  have ev : v = V.ref a := r
  refine .inr (.inl ⟨a, [], ev, ha H2, k _ H2 e2 ⟨fun i H f hi => (nomatch hi), fun H f => ⟨[], ha H, Nat.zero_le _⟩, fun i H x H' N f m hn hi y => (nomatch hi)⟩⟩)
/-! ### is None -/
def rIsN : R2 := fun x y H Q => y = .non ∧ Q (.bl (decide (x = .non))) H
def rNotN : R2 := fun x y H Q => y = .non ∧ Q (.bl (!decide (x = .non))) H
def isN : D -> Bool
  | .non => true
  | _ => false
theorem rep_isN {G : Hp} {v : V} (hf : forall w, d ≠ .oth w) (r : Rep G d v) : decide (v = .non) = isN d := by
  cases d with
  | non =>
    rw [show v = V.non from r]
    rfl
  | oth w => exact absurd rfl (hf w)
  | bl b => rw [show v = V.bl b from r]; rfl
  | int b => rw [show v = V.int b from r]; rfl
  | str b => rw [show v = V.str b from r]; rfl
  | tup ds =>
    obtain ⟨a, xs, e, _⟩ := r
    rw [e]
    rfl
  | lst ds =>
    obtain ⟨a, xs, e, _⟩ := r
    rw [e]
    rfl
  | ins C fs =>
    obtain ⟨a, dx, xs, e, _⟩ := r
    rw [e]
    rfl
  | dK kvs =>
    obtain ⟨a, xs, e, _⟩ := r
    rw [e]
    rfl
  | dT kvs =>
    obtain ⟨a, xs, e, _⟩ := r
    rw [e]
    rfl
theorem rd_isN (hf : forall w, d ≠ .oth w) : RD M rIsN H d .non (.bl (isN d)) := fun x y H1 _ rx ry Q q => ⟨ry, q _ H1 (Same.refl H1) (by rw [rep_isN hf rx] <;> rfl)⟩
theorem rd_notN (hf : forall w, d ≠ .oth w) : RD M rNotN H d .non (.bl (!isN d)) := fun x y H1 _ rx ry Q q => ⟨ry, q _ H1 (Same.refl H1) (by rw [rep_isN hf rx] <;> rfl)⟩
/-! ### max -/
theorem ev_max {ns : List Int} {m : Int} (h : EvDs M tr s H [.lst (ns.map D.int)]) (hm : m ∈ ns) (hle : forall y, y ∈ ns -> y ≤ m) : EvD M (tCB (rMax K) tr) s H (.int m) := ev_cb h fun vs H1 e1 rs Q q => by
  obtain ⟨x, xs, ev, rx, r0⟩ := rs
  have e4 : xs = [] := r0
  obtain ⟨a, ys, ea, ha, rs⟩ := rx
  subst e4 ev ea
  have ex := ints_is rs
  subst ex
  refine ⟨a, ns, rfl, SqL.of (msk_same _ _ ha), List.length_pos_of_mem hm, fun m' hm' hle' => ?_⟩
  have e : m' = m := Int.le_antisymm (hle m' hm') (hle' m hm)
  rw [e]
  exact q _ H1 (Same.refl H1) rfl
/-! ### dict(pairs), list(dict) -/
def rDictP (K : PySem.W.Frag) : List V -> Hp -> VK -> Prop := fun xs H Q => exists (a : Addr) (ps : List Addr) (kvs : List (Key × V)), xs = [.ref a] ∧ SqL K H a (ps.map V.ref) ∧ Paired (fun p kv => SqT K H p [kV kv.1, kv.2]) ps kvs ∧ forall p, H p = none -> Q (.ref p) (upd H p (.dK (mergeK [] kvs)))
def pairD (p : Key × D) : D := .tup [kD p.1, p.2]
theorem reps_pairs {G : Hp} : forall {kvs : List (Key × D)} {vs : List V}, Reps G (kvs.map pairD) vs -> exists (ps : List Addr) (ws : List (Key × V)), vs = ps.map V.ref ∧ Paired (fun p (kv : Key × V) => G p = some (.tup [kV kv.1, kv.2])) ps ws ∧ RepP G kvs ws
  | [], _, h => ⟨[], [], h, .nil, .nil⟩
  | p :: kvs, _, ⟨x, xs, e, ⟨a, ys, ea, ha, ry⟩, rs⟩ => by
    obtain ⟨ps, ws, e2, h2, h3⟩ := reps_pairs rs
    obtain ⟨y1, y2, ey, r1, r2⟩ := ry.two_of
    have e1 := kD_val r1
    subst ey e1
    exact ⟨a :: ps, (p.1, y2) :: ws, by rw [e, ea, e2, List.map_cons], .cons ha h2, .cons ⟨rfl, r2⟩ h3⟩
theorem RepP.merge {G : Hp} {kvs more : List (Key × D)} {ws ys : List (Key × V)} (r : RepP G kvs ws) (h : RepP G more ys) : RepP G (more.foldl (fun kvs p => pD kvs p.1 p.2) kvs) (mergeK ws ys) := by
  induction h generalizing kvs ws with
  | nil => exact r
  | @cons p q ps qs hpq t ih =>
    have z := ih (RepP.put r p.1 hpq.2)
    unfold mergeK at z ⊢
    rw [List.foldl_cons, List.foldl_cons, ← hpq.1]
    exact z
theorem ev_dictP {kvs : List (Key × D)} (m : Mok M H) (h : EvDs M tr s H [.lst (kvs.map pairD)]) : EvD M (tCB (rDictP K) tr) s H (.dK (foldP kvs)) := ev_cb h fun vs H1 e1 rs Q q => by
  obtain ⟨x, xs, ev, rx, r0⟩ := rs
  have e4 : xs = [] := r0
  obtain ⟨a, ys, ea, ha, rs⟩ := rx
  subst e4 ev ea
  obtain ⟨ps, ws, e2, h2, h3⟩ := reps_pairs rs
  subst e2
  refine ⟨a, ps, ws, rfl, SqL.of (msk_same _ _ ha), Paired.mapP h2 fun p kv z => SqT.of (msk_same _ _ z), fun p hp => q _ _ (same_new hp) ⟨p, _, rfl, .inl (msk_new (m.up e1) hp), ?_⟩⟩
  have z := RepP.merge (kvs := []) (ws := []) .nil h3
  exact repK_iff.mpr (z.fx (Fx.of (msk_mono (same_new hp))))
def rListD : List V -> Hp -> VK -> Prop := fun xs H Q => exists (a : Addr) (kvs : List (Key × V)), xs = [.ref a] ∧ Rd H a (.dK kvs) ∧ forall p, H p = none -> Q (.ref p) (upd H p (.lst (kvs.map fun kv => kV kv.1)))
def rListA (K : PySem.W.Frag) : List V -> Hp -> VK -> Prop := fun xs H Q => (exists p ys, xs = [V.ref p] ∧ (SqL K H p ys ∨ SqT K H p ys) ∧ forall l, H l = none -> Q (.ref l) (upd H l (.lst ys))) ∨ rListD xs H Q
theorem call_listA {X : Cx} (hcalm : X.calm = true) : CallR X (.type "list") (rListA X.K) := call_list_of.or (call_listD hcalm)
theorem keys_reps {G : Hp} : forall {kvs : List (Key × D)} {ws : List (Key × V)}, RepK G kvs ws -> forall G' : Hp, Reps G' (kvs.map fun p => kD p.1) (ws.map fun kv => kV kv.1)
  | [], _, h, _ => by
    rw [show _ = [] from h]
    exact rfl
  | p :: kvs, _, ⟨x, xs, e, _, r⟩, G' => by
    rw [e]
    exact ⟨_, _, rfl, kD_rep p.1, keys_reps r G'⟩
theorem ev_listD {kvs : List (Key × D)} (m : Mok M H) (h : EvDs M tr s H [.dK kvs]) : EvD M (tCB (rListA K) tr) s H (.lst (kvs.map fun p => kD p.1)) := ev_cb h fun vs H1 e1 rs Q q => by
  obtain ⟨x, xs, ev, rx, r0⟩ := rs
  have e4 : xs = [] := r0
  obtain ⟨a, ws, ea, ha, rk⟩ := rx
  subst e4 ev ea
  have ha2 : Rd H1 a (.dK ws) := (rd_msk ha).2
  refine .inr ⟨a, ws, rfl, ha2, fun p hp => q _ _ (same_new hp) ⟨p, _, rfl, msk_new (m.up e1) hp, keys_reps rk _⟩⟩
theorem ev_listL (m : Mok M H) (h : EvDs M tr s H [d]) (hi : d = .lst ds ∨ d = .tup ds) : EvD M (tCB (rListA K) tr) s H (.lst ds) := ev_cb h fun vs H1 e1 rs Q q => by
  obtain ⟨x, xs, ev, rx, r0⟩ := rs
  have e4 : xs = [] := r0
  subst e4 ev
  rcases hi with hi | hi
  · subst hi
    obtain ⟨a, ys, ea, ha, rs⟩ := rx
    exact .inl ⟨a, ys, by rw [ea], .inl (SqL.of (msk_same _ _ ha)), fun l hl => q _ _ (same_new hl) ⟨l, ys, rfl, msk_new (m.up e1) hl, rs.up (msk_mono (same_new hl))⟩⟩
  · subst hi
    obtain ⟨a, ys, ea, ha, rs⟩ := rx
    exact .inl ⟨a, ys, by rw [ea], .inr (SqT.of (msk_same _ _ ha)), fun l hl => q _ _ (same_new hl) ⟨l, ys, rfl, msk_new (m.up e1) hl, rs.up (msk_mono (same_new hl))⟩⟩
/-! ### made with defaults -/
theorem Reps.app1 {G : Hp} : forall {ds es : List D} {vs ws : List V}, Reps G ds vs -> Reps G es ws -> Reps G (ds ++ es) (vs ++ ws) := Reps.app
theorem ev_makeD {C : Addr} {R : List D -> List (Str × D) -> Prop} {X : List D -> Addr -> List (Str × D) -> Prop} {fs : List (Str × D)} {E : XK} {dvs : List V} {dds : List D} (m : Mok M H) (hd : forall G, Reps G dds dvs) (h : EvDs M tr s H ds) (hR : R (ds ++ dds) fs) : EvD M (tMake C (SpI C R X) dvs E tr) s H (.ins C fs) := fun H1 e1 Q q =>
  h H1 e1 _ fun vs H2 e2 rs x dx hx hdx hne => make_ok ((m.up e1).up e2) (Reps.app rs (hd _)) hR (fun v H' e3 r => q v H' (e2.trans e3) r) hx hdx hne
/-! ### a dict that is made: d[k] = v -/
theorem st_dputM {p : Addr} {td tk tv : TE} {E : Ends} {kvs : List (Key × D)} {ws : List (Key × V)} {k : Key} (hp : M p) (hd : forall H1, Same H H1 -> forall Q : VK, Q (.ref p) H1 -> td s H1 Q) (hv : EvD M tv s H d) (hk : EvD M tk s H (kD k)) (h0 : H p = some (.dK ws)) (r0 : RepP (msk M H) kvs ws) (hz : kvs.length < 1000000)
    (nx : forall H2 ws2, SameX p H H2 -> H2 p = some (.dK ws2) -> RepP (msk M H2) (pD kvs k d) ws2 -> E.nx s H2) : sDPut td tk tv E s H :=
  hv H (Same.refl H) _ fun v H1 e1 rv => hd H1 e1 _ (hk H1 e1 _ fun y H3 e3 ry => by
    have h3 := e3 _ _ (e1 _ _ h0)
    have ey : y = kV k := kD_val ry
    subst ey
    refine ⟨p, _, rfl, DPut.k h3 (by rw [← Paired.length r0, sizeLine_eq]; omega), nx _ (putK ws k v) (fun b o hb h => ?_) upd_same ?_⟩
    · rw [upd_ne hb]
      exact e3 _ _ (e1 _ _ h)
    · rw [msk_upd hp]
      exact RepP.put (r0.fx (Fx.of (msk_mono (e1.trans e3)))) k (rv.up (msk_mono e3)))
end
end Ak
/-! Ak 34: items, values; locks about statements; comprehensions with two for. -/
namespace Ak
open PySem PySem.Spec PyProof.Rows L2
/-- all but what is masked stays -/
def SameE (M : MK) (H H' : Hp) : Prop := forall a o, ¬ M a -> H a = some o -> H' a = some o
theorem SameE.of {M : MK} {H H' : Hp} (e : Same H H') : SameE M H H' := fun a o _ h => e a o h
theorem SameE.refl {M : MK} (H : Hp) : SameE M H H := fun _ _ _ h => h
theorem SameE.trans {M : MK} {H H1 H2 : Hp} (a : SameE M H H1) (b : SameE M H1 H2) : SameE M H H2 := fun c o n h => b c o n (a c o n h)
theorem SameE.msk {M : MK} {H H' : Hp} (e : SameE M H H') : Same (Ak.msk M H) (Ak.msk M H') := fun a o h => by
  obtain ⟨n, h⟩ := msk_of h
  rw [msk_at n]
  exact e a o n h
theorem SameE.upd {M : MK} {H H' : Hp} {p : Addr} {o : HO} (e : SameE M H H') (hp : M p) : SameE M H (L2.upd H' p o) := fun a u n h => by
  rw [upd_ne (fun z => n (by rw [z]; exact hp))]
  exact e a u n h
theorem SameE.x {M : MK} {p : Addr} {H H' : Hp} (e : SameX p H H') (hp : M p) : SameE M H H' := fun a o n h => e a o (fun z => n (by rw [z]; exact hp)) h
theorem SameE.kp {M : MK} {H H' : Hp} (e : SameE M H H') (nf : forall a o u, M a -> H a ≠ some (.frz o u)) : Kp M H H' := ⟨Fx.of e.msk, fun {a od u} h => e a _ (fun z => nf a od u z h) h⟩
section
variable {K : PySem.W.Frag} {M : MK} {s : L2.St} {H : Hp} {te ta : TE} {tr : TA} {ds es : List D} {d e z : D}
/-! ### items, values of a locked dict -/
theorem pairD_at {kvs : List (Key × D)} {ws : List (Key × V)} {G : Hp} (r : RepP G kvs ws) {i : Nat} {k : Key} {v : V} (h : ws[i]? = some (k, v)) : exists d, kvs[i]? = some (k, d) ∧ Rep G d v := by
  obtain ⟨p, h1, h2⟩ := paired_at r h
  obtain ⟨k', d⟩ := p
  have e : k' = k := h2.1
  subst e
  exact ⟨d, h1, h2.2⟩
theorem ia_items {a : Addr} {od : Obj} {kvs : List (Key × D)} {ws : List (Key × V)} (h : Ev M te s H fun v _ => v = .ref a) (hz : H a = some (.frz od (.dK ws))) (r : RepP (msk M H) kvs ws) : EvI M (iItems te) s H (kvs.map pairD) := fun H1 e R k => h H1 e _ fun v H2 e2 ev => by
  have h2 := e2 _ _ (e _ _ hz)
  have r2 := r.fx (Fx.of (msk_mono (e.trans e2)))
  have hl : kvs.length = ws.length := Paired.length r
  refine ⟨a, od, ws, ev, h2, k _ H2 e2 ⟨fun i H f hi => ⟨f.fz h2, by rw [List.length_map] at hi; omega⟩, fun H f => ⟨f.fz h2, by rw [List.length_map]; omega⟩, fun i H x H' N f mN hn hi y => ?_⟩⟩
  obtain ⟨T, k1, v1, g1, ex, hT, eH⟩ := y
  subst ex eH
  obtain ⟨d, g2, rd⟩ := pairD_at r2 g1
  refine ⟨same_new hT, pairD (k1, d), by rw [List.getElem?_map, g2] <;> rfl, rep_new2 mN hT (kD_rep k1) (Rep.fx (f.msk hn) _ rd)⟩
theorem ia_vals {a : Addr} {od : Obj} {kvs : List (Key × D)} {ws : List (Key × V)} (h : Ev M te s H fun v _ => v = .ref a) (hz : H a = some (.frz od (.dK ws))) (r : RepP (msk M H) kvs ws) : EvI M (iVals te) s H (kvs.map fun p => p.2) := fun H1 e R k => h H1 e _ fun v H2 e2 ev => by
  have h2 := e2 _ _ (e _ _ hz)
  have r2 := r.fx (Fx.of (msk_mono (e.trans e2)))
  have hl : kvs.length = ws.length := Paired.length r
  refine ⟨a, od, ws, ev, h2, k _ H2 e2 ⟨fun i H f hi => ⟨f.fz h2, by rw [List.length_map] at hi; omega⟩, fun H f => ⟨f.fz h2, by rw [List.length_map]; omega⟩, fun i H x H' N f mN hn hi y => ?_⟩⟩
  obtain ⟨eH, k1, g1⟩ := y
  subst eH
  obtain ⟨d, g2, rd⟩ := pairD_at r2 g1
  exact ⟨Same.refl _, d, by rw [List.getElem?_map, g2] <;> rfl, Rep.fx (f.msk hn) _ rd⟩
/-! ### what leaves under a lock -/
def Lk (H H' : Hp) : Prop := forall b o, H b = some o -> H' b = some o ∨ (isDict o ∧ exists od, H' b = some (.frz od o))
theorem Lk.of {H H' : Hp} (e : Same H H') : Lk H H' := fun b o h => .inl (e b o h)
theorem Lk.trans {H H1 H2 : Hp} (a : Lk H H1) (b : Lk H1 H2) : Lk H H2 := fun c o h => by
  rcases a c o h with h1 | ⟨hd, od, h1⟩
  · exact b c o h1
  · rcases b c _ h1 with h2 | ⟨hd2, _⟩
    · exact .inr ⟨hd, od, h2⟩
    · rcases hd2 with ⟨k, e⟩ | ⟨k, e⟩ <;> cases e
theorem Lk.stay {H H' : Hp} (a : Lk H H') {b : Addr} {o : HO} (h : H b = some o) (n : ¬ isDict o) : H' b = some o := (a b o h).elim id fun ⟨hd, _⟩ => absurd hd n
theorem Lk.fx {H H' : Hp} (a : Lk H H') : Fx H H' := by
  have rd : forall {b o}, isDict o -> Rd H b o -> Rd H' b o := fun {b o} hd h => by
    rcases h with h | ⟨ob, h⟩
    · rcases a b o h with h1 | ⟨_, od, h1⟩
      · exact .inl h1
      · exact .inr ⟨od, h1⟩
    · exact .inr ⟨ob, a.stay h fun z => by rcases z with ⟨k, e⟩ | ⟨k, e⟩ <;> cases e⟩
  refine ⟨fun h => a.stay h fun z => ?_, fun h => a.stay h fun z => ?_, fun h => a.stay h fun z => ?_, fun h => rd (.inl ⟨_, rfl⟩) h, fun h => rd (.inr ⟨_, rfl⟩) h⟩ <;> rcases z with ⟨k, e⟩ | ⟨k, e⟩ <;> cases e
theorem Lk.lock {H : Hp} {d : Addr} {u : HO} {od : Obj} (h : H d = some u) (hu : isDict u) : Lk H (upd H d (.frz od u)) := fun b o hb => by
  by_cases e : b = d
  · rw [e] at hb ⊢
    rw [h] at hb
    cases hb
    exact .inr ⟨hu, od, upd_same⟩
  · rw [upd_ne e]
    exact .inl hb
theorem Lk.free {H H' : Hp} (a : Lk H H') {p : Addr} (h : H' p = none) : H p = none := by
  cases q : H p with
  | none => rfl
  | some o =>
    rcases a p o q with z | ⟨_, od, z⟩ <;> rw [h] at z <;> cases z
/-! ### a lock about a statement -/
def tLockS (t : TS) : TS := fun D σ H => tLock t D σ H ∨ t D σ H
theorem ps_lockS {X : Cx} {st : Stmt} {t : TS} (h : PS X st t) : PS X st (tLockS t) := by
  have h2 := ps_lock h
  exact ⟨fun pins s σ H D I w => w.elim (h2.run pins s σ H D I) (h.run pins s σ H D I)⟩
/-- back: what the lock is taken off -/
structure Unl (M : MK) (H Hl : Hp) (back : Hp -> Hp) : Prop where
  same : forall H', SameE M Hl H' -> SameE M H (back H')
  fx : forall H', SameE M Hl H' -> Fx (msk M H') (msk M (back H'))
  off : forall H' b, M b -> back H' b = H' b
structure EndsL (M : MK) (Hl : Hp) (back : Hp -> Hp) (E E' : Ends) : Prop where
  nx : forall σ' H', SameE M Hl H' -> E.nx σ' (back H') -> E'.nx σ' H'
  rt : forall v H', SameE M Hl H' -> E.rt v (back H') -> E'.rt v H'
  bk : forall σ' H', SameE M Hl H' -> E.bk σ' (back H') -> E'.bk σ' H'
  ct : forall σ' H', SameE M Hl H' -> E.ct σ' (back H') -> E'.ct σ' H'
theorem st_lockS {t : TS} {kvs : List (Key × D)} {v : V} {E : Ends} (m : Mok M H) (hd : Rep (msk M H) (.dK kvs) v)
    (h : forall Hl a od ws back E', Mok M Hl -> Fx (msk M H) (msk M Hl) -> SameE (fun b => M b ∨ b = a) H Hl -> v = .ref a -> ¬ M a -> Hl a = some (.frz od (.dK ws)) -> RepP (msk M Hl) kvs ws -> Unl M H Hl back -> EndsL M Hl back E E' -> (forall b, M b -> Hl b = H b) -> Lk H Hl -> t E' s Hl) : tLockS t E s H := by
  obtain ⟨a, ws, e, ha, rk⟩ := hd
  have r := repK_iff.mp rk
  obtain ⟨nm, ha'⟩ := rd_msk ha
  rcases ha' with h0 | ⟨od, h0⟩
  · refine .inl ⟨a, .dK ws, h0, trivial, fun od => ?_⟩
    have f : Fx (msk M H) (msk M (L2.upd H a (.frz od (.dK ws)))) := Fx.msk (fx_lock (od := od) h0 (.inl ⟨ws, rfl⟩)) fun b z => .inl z
    have ne : forall b, M b -> b ≠ a := fun b z eb => nm (by rw [← eb]; exact z)
    have ml : Mok M (L2.upd H a (.frz od (.dK ws))) := m.upd (by intro xs e; cases e)
    have key : forall H', SameE M (L2.upd H a (.frz od (.dK ws))) H' -> H' a = some (.frz od (.dK ws)) := fun H' e' => e' a _ nm upd_same
    refine h _ a od ws (fun H' => L2.upd H' a (.dK ws)) _ ml f (fun b o n hb => ?_) e nm upd_same (r.fx f) ⟨fun H' e' b o n hb => ?_, fun H' e' => ?_, fun H' b z => upd_ne (ne b z)⟩ ⟨fun σ' H' e' q => ⟨key H' e', q⟩, fun v H' e' q => ⟨key H' e', q⟩, fun σ' H' e' q => ⟨key H' e', q⟩, fun σ' H' e' q => ⟨key H' e', q⟩⟩ (fun b z => upd_ne (ne b z)) (Lk.lock h0 (.inl ⟨ws, rfl⟩))
    · rw [upd_ne (fun z => n (.inr z))]
      exact hb
    · by_cases eb : b = a
      · rw [eb] at hb ⊢
        rw [h0] at hb
        rw [upd_same]
        exact hb
      · rw [upd_ne eb]
        exact e' b o n (by rw [upd_ne eb]; exact hb)
    · exact Fx.msk (fx_unlock (key H' e') (.inl ⟨ws, rfl⟩)) fun b z => .inl z
  · exact .inr (h H a od ws (fun H' => H') E m (Fx.refl _) (SameE.refl H) e nm h0 r ⟨fun H' e' => e', fun H' e' => Fx.refl _, fun H' b z => rfl⟩ ⟨fun σ' H' e' q => q, fun v H' e' q => q, fun σ' H' e' q => q, fun σ' H' e' q => q⟩ (fun b z => rfl) (Lk.of (Same.refl H)))
/-! ### [.. for x in xs for y in ys] -/
theorem len_flat {F : D -> List D} : forall {l : List D}, (forall d, d ∈ l -> (F d).length ≤ 1000) -> (l.map F).flatten.length ≤ l.length * 1000
  | [], _ => Nat.zero_le _
  | d :: l, h => by
    have h1 := h d List.mem_cons_self
    have h2 := len_flat (l := l) fun e m => h e (List.mem_cons_of_mem _ m)
    rw [List.map_cons, List.flatten_cons, List.length_append, List.length_cons]
    omega
theorem ev_lc2 {wi wi1 : TI} {g g1 : TG} {vs vs1 : List Nat} (F : D -> List D) (m : Mok M H) (hi : EvI M wi s H ds) (hz : ds.length ≤ 1000) (hF : forall d, d ∈ ds -> (F d).length ≤ 1000)
    (hs : forall (N : MK) H3 d x, Mok N H3 -> Same (msk M H) (msk N H3) -> d ∈ ds -> Rep (msk N H3) d x -> exists (s2 : L2.St) (es : List D) (f1 : D -> D), (forall Q : L2.St -> Hp -> Prop, Q s2 H3 -> g x (wipe s vs) H3 Q) ∧ wipe s2 vs = wipe s vs ∧ EvI N wi1 s2 H3 es ∧ es.map f1 = F d ∧
      forall H5 e y, Mok N H5 -> Same (msk N H3) (msk N H5) -> e ∈ es -> Rep (msk N H5) e y -> Elt N g1 tYes te vs1 s2 H5 y (some (f1 e))) : EvD M (tLc2 wi g tYes wi1 g1 tYes te vs vs1) s H (.lst (ds.map F).flatten) := fun H1 e1 Q q =>
  hi H1 e1 _ fun J H2 e2 it Da hD => by
    have m2 : Mok M H2 := (m.up e1).up e2
    have hM : ¬ M Da := m2.new hD
    let N : MK := fun a => M a ∨ a = Da
    have i2 : forall a, N a -> M a ∨ H2 a = none := fun a z => by
      rcases z with z | z
      · exact .inl z
      · exact .inr (by rw [z]; exact hD)
    have hlow : forall {H3 : Hp}, Same H2 H3 -> Same (msk M H2) (msk N H3) := fun {H3} e a o h => by
      obtain ⟨n, h⟩ := msk_of h
      rw [msk_at]
      · exact e _ _ h
      · rintro (z | z)
        · exact n z
        · rw [z, hD] at h
          cases h
    refine ⟨fun i k H3 => k = ds.length - i ∧ i ≤ ds.length ∧ Same H2 H3 ∧ exists acc, H3 Da = some (.lst acc) ∧ Reps (msk N H3) ((ds.take i).map F).flatten acc,
      ⟨ds.length, by simp, Nat.zero_le _, same_new hD, [], upd_same, rfl⟩, ?_⟩
    rintro i k H3 ⟨rfl, hil, e3, acc, ha, rs⟩
    have m3 : Mok N H3 := Mok.add (m2.up e3) ha
    by_cases hlt : i < ds.length
    · refine .inr ⟨it.go i H3 (Kp.of e3) hlt, fun H4 => Same H2 H4 ∧ exists acc, H4 Da = some (.lst acc) ∧ Reps (msk N H4) ((ds.take (i + 1)).map F).flatten acc, fun H4 w => ⟨ds.length - (i + 1), by omega, rfl, hlt, w⟩, fun x H4 y => ?_⟩
      obtain ⟨e4, d, hd, rd⟩ := it.yld i H3 x H4 N (Kp.of e3) m3 i2 hlt y
      have hmem := List.mem_of_getElem? hd
      have tk : ((ds.take (i + 1)).map F).flatten = ((ds.take i).map F).flatten ++ F d := by
        rw [List.take_succ, hd, List.map_append, List.flatten_append]
        simp
      have ha4 := e4 _ _ ha
      have rs4 := rs.up (msk_mono e4)
      have e24 := e3.trans e4
      have m4 : Mok N H4 := m3.up e4
      have l0 : ((ds.take i).map F).flatten.length ≤ i * 1000 := Nat.le_trans (len_flat fun d m => hF d (List.mem_of_mem_take m)) (Nat.mul_le_mul_right _ (by rw [List.length_take]; omega))
      obtain ⟨s2, es, f1, hg, hw, hi1, hes, hel⟩ := hs N H4 d x m4 (fun a o h => hlow e24 _ _ (msk_mono (e1.trans e2) _ _ h)) hmem rd
      have les : es.length ≤ 1000 := by
        have z := hF d hmem
        rw [← hes, List.length_map] at z
        exact z
      refine hg _ ⟨hw, ?_⟩
      dsimp only [tYes]
      rw [if_pos rfl]
      refine hi1 H4 (Same.refl H4) _ fun J1 H5 e5 it1 => ?_
      have ha5 := e5 _ _ ha4
      have off0 : forall a o, a ≠ Da -> H5 a = some o -> H5 a = some o := fun _ _ _ h => h
      refine ⟨fun j k H6 => k = es.length - j ∧ j ≤ es.length ∧ (forall a o, a ≠ Da -> H5 a = some o -> H6 a = some o) ∧ exists acc, H6 Da = some (.lst acc) ∧ Reps (msk N H6) (((ds.take i).map F).flatten ++ (es.take j).map f1) acc,
        ⟨es.length, by simp, Nat.zero_le _, off0, acc, ha5, by rw [List.take_zero, List.map_nil, List.append_nil]; exact rs4.up (msk_mono e5)⟩, ?_⟩
      rintro j k H6 ⟨rfl, hj, off, acc6, ha6, rs6⟩
      have m56 : Same (msk N H5) (msk N H6) := fun a o h => by
        obtain ⟨n, h⟩ := msk_of h
        rw [msk_at n]
        exact off a o (fun z => n (.inr z)) h
      have kp6 : Kp N H5 H6 := ⟨Fx.of m56, fun {b od u} h => off b _ (fun z => by
        rw [z, ha5] at h
        cases h) h⟩
      have e26 : Same H2 H6 := fun a o h => off a o (ne_of_none h hD) (e5 _ _ (e24 _ _ h))
      have m6 : Mok N H6 := Mok.add (m2.up e26) ha6
      by_cases hlj : j < es.length
      · refine .inr ⟨it1.go j H6 kp6 hlj, fun H7 => (forall a o, a ≠ Da -> H5 a = some o -> H7 a = some o) ∧ exists acc, H7 Da = some (.lst acc) ∧ Reps (msk N H7) (((ds.take i).map F).flatten ++ (es.take (j + 1)).map f1) acc, fun H7 w => ⟨es.length - (j + 1), by omega, rfl, hlj, w⟩, fun x1 H7 y1 => ?_⟩
        obtain ⟨e7, d1, hd1, rd1⟩ := it1.yld j H6 x1 H7 N kp6 m6 (fun a z => .inl z) hlj y1
        have tk1 : (es.take (j + 1)).map f1 = (es.take j).map f1 ++ [f1 d1] := by
          rw [List.take_succ, hd1, List.map_append] <;> rfl
        have ha7 := e7 _ _ ha6
        have rs7 := rs6.up (msk_mono e7)
        have z := hel H7 d1 x1 (m6.up e7) ((msk_mono e5).trans (m56.trans (msk_mono e7))) (List.mem_of_getElem? hd1) rd1
        refine z (fun y' H8 => exists acc, H8 Da = some (.lst acc) ∧ acc.length < sizeLine ∧ (forall a o, a ≠ Da -> H5 a = some o -> (L2.upd H8 Da (.lst (acc ++ [y']))) a = some o) ∧ exists acc2, (L2.upd H8 Da (.lst (acc ++ [y']))) Da = some (.lst acc2) ∧ Reps (msk N (L2.upd H8 Da (.lst (acc ++ [y'])))) (((ds.take i).map F).flatten ++ (es.take (j + 1)).map f1) acc2) (fun H7 => (forall a o, a ≠ Da -> H5 a = some o -> H7 a = some o) ∧ exists acc, H7 Da = some (.lst acc) ∧ Reps (msk N H7) (((ds.take i).map F).flatten ++ (es.take (j + 1)).map f1) acc) (fun d' ho y' H8 e8 r8 => ?_) fun ho => absurd ho (by simp)
        cases ho
        refine ⟨acc6, e8 _ _ ha7, ?_, fun a o n h => ?_, acc6 ++ [y'], upd_same, ?_⟩
        · rw [rs6.len, List.length_append, List.length_map, List.length_take, sizeLine_eq]
          have : i * 1000 ≤ 1000 * 1000 := Nat.mul_le_mul_right _ (by omega)
          omega
        · rw [upd_ne n]
          exact e8 _ _ (e7 _ _ (off a o n h))
        · rw [msk_upd (M := N) (.inr rfl), tk1, ← List.append_assoc]
          exact Reps.app (rs7.up (msk_mono e8)) (Reps.one r8)
      · have ej : j = es.length := by omega
        subst ej
        rw [List.take_length, hes, ← tk] at rs6
        exact .inl ⟨it1.stop H6 kp6, e26, acc6, ha6, rs6⟩
    · have e : i = ds.length := by omega
      subst e
      rw [List.take_length] at rs
      refine .inl ⟨it.stop H3 (Kp.of e3), q _ H3 (e2.trans e3) ⟨Da, acc, rfl, ?_, rs.up (msk_less fun a z => .inl z)⟩⟩
      rw [msk_at hM]
      exact ha
end
end Ak
/-! Ak 35: facts of the head: written empty tuples. -/
namespace Ak
open PySem PySem.Spec PyProof.Rows L2
open He (ba eqO eqO_ok relAll relAll_ok)
def etB (K : PySem.W.Frag) (a : Addr) : Bool := match K.lookup a with
  | some ⟨.type c, _, .seq its _, _⟩ => decide (c = "tuple") && its.isEmpty
  | _ => false
theorem etB_ok {K : PySem.W.Frag} {a : Addr} (h : etB K a = true) : ET K a := fun G => by
  unfold etB at h
  split at h
  · rename_i c dd its n sl q
    obtain ⟨h4, h⟩ := ba h
    have e : its = #[] := Array.isEmpty_iff.mp h
    subst e
    exact .inr ⟨_, #[], n, q, congrArg Value.type (of_decide_eq_true h4), rfl, by decide, .nil⟩
  · cases h
end Ak
/-! Ak 36: isinstance of a written empty tuple; texts in order. -/
namespace Ak
open PySem PySem.Spec PyProof.Rows L2
section
variable {K : PySem.W.Frag} {M : MK} {s : L2.St} {H : Hp} {te ta : TE} {tr : TA} {ds es : List D} {d e z : D}
theorem et_k {a : Addr} (h : ET K a) : exists o : Obj, K.lookup a = some o ∧ o.cls = .type "tuple" := by
  rcases h (fun _ => none) with (z | ⟨o, z⟩) | ⟨o, its, n, h1, h2, _⟩
  · cases z
  · cases z
  · exact ⟨o, h1, h2⟩
theorem ev_isi2E {a : Addr} (he : ET K a) (h : EvDs M tr s H [.oth (.ref a), .tup [.oth (.ty "list"), .oth (.ty "tuple")]]) : EvD M (tCB (rIsiT K) tr) s H (.bl true) := ev_cb h fun vs H1 e1 rs Q q => by
  obtain ⟨x, xs, ev, rx, y, ys, ew, ry, r0⟩ := rs
  have e4 : ys = [] := r0
  have e0 : x = V.ref a := rx
  obtain ⟨tp, cs, e6, ht, c1, c2, ec, rc1, c3, c4, ed, rc3, rc4⟩ := ry
  have e7 : c1 = V.ty "list" := rc1
  have e8 : c3 = V.ty "tuple" := rc3
  have e9 : c4 = [] := rc4
  subst e4 ew e6 ed ec e7 e8 e9 ev e0
  obtain ⟨o, h1, h2⟩ := et_k he
  have k1 : (D.tup []).tn ≠ "" := by decide
  refine ⟨.ref a, tp, _, _, [.type "list", .type "tuple"], _, rfl, msk_same _ _ ht, .cons (.ty "list") (.cons (.ty "tuple") .nil), .kTuple h1 h2, kitAny_cons (kit_ty (kitB_ok (d := .tup []) (m := "list") k1 (by decide))) (fun z => kitAny_cons (kit_ty (kitB_ok (d := .tup []) (m := "tuple") k1 (by decide))) (fun z2 => ?_) fun z2 => rfl) fun z => ?_, q _ H1 (Same.refl H1) rfl⟩
  · cases (show isB (.tup []) "tuple" = true from by decide).symm.trans z2
  · cases (show isB (.tup []) "list" = false from by decide).symm.trans z
/-- isinstance(x, C), x data, C a class of the program -/
theorem ev_isiT {C : Addr} {b : Bool} (h : EvDs M tr s H [d, .oth (.ref C)]) (hd : d.tn ≠ "") (hT : forall kvs, d ≠ .dT kvs) (hk : PySem.W.kitOne K (.type d.tn) (.ref C) = some b) : EvD M (tCB (rIsi K) tr) s H (.bl b) := ev_cb h fun vs H1 e1 rs Q q => by
  obtain ⟨x, xs, ev, rx, y, ys, ew, ry, r0⟩ := rs
  have e4 : ys = [] := r0
  have e5 : y = V.ref C := ry
  subst e4 ew e5 ev
  exact ⟨x, .ref C, _, _, _, rfl, .own C, Rep.ty msk_same rx hd hT, hk, q _ H1 (Same.refl H1) rfl⟩
/-- texts in order -/
def leS (a b : Str) : Bool := leD (.str a) (.str b)
def sortS (l : List Str) : List Str := l.mergeSort leS
theorem sortD_strs (l : List Str) : sortD (l.map .str) = (sortS l).map .str := (List.map_mergeSort (r := leS) (s := leD) (f := D.str) fun a _ b _ => rfl).symm
theorem sortS_perm (l : List Str) : (sortS l).Perm l := List.mergeSort_perm l _
end
end Ak
/-! Ak 37: plain lemmas about lists. -/
namespace Ak
open PySem PySem.Spec PyProof.Rows L2
def uniq {α : Type} [DecidableEq α] (l : List α) : List α := l.foldl (fun acc x => if x ∈ acc then acc else acc ++ [x]) []
theorem findIdx_first {α : Type} {p : α -> Bool} : forall {l : List α} {i : Nat} {x : α}, l[i]? = some x -> p x = true -> (forall j y, j < i -> l[j]? = some y -> p y = false) -> l.findIdx? p = some i
  | [], _, _, h, _, _ => by simp at h
  | y :: l, 0, x, h, hp, _ => by
    simp at h
    subst h
    rw [List.findIdx?_cons, hp] <;> rfl
  | y :: l, i + 1, x, h, hp, hb => by
    rw [List.findIdx?_cons, hb 0 y (Nat.succ_pos _) rfl, findIdx_first (i := i) (x := x) (by simpa using h) hp fun j z hj hz => hb (j + 1) z (Nat.succ_lt_succ hj) (by simpa using hz)] <;> rfl
theorem keys_pD {κ : Type} [DecidableEq κ] (kvs : List (κ × D)) (k : κ) (d : D) : (pD kvs k d).map (·.1) = if k ∈ kvs.map (·.1) then kvs.map (·.1) else kvs.map (·.1) ++ [k] := by
  have hany : (kvs.any fun kv => decide (kv.1 = k)) = true <-> k ∈ kvs.map (·.1) := by
    rw [List.any_eq_true]
    constructor
    · rintro ⟨p, hp, e⟩
      exact List.mem_map.mpr ⟨p, hp, of_decide_eq_true e⟩
    · intro h
      obtain ⟨p, hp, e⟩ := List.mem_map.mp h
      exact ⟨p, hp, decide_eq_true e⟩
  unfold pD
  by_cases h : k ∈ kvs.map (·.1)
  · rw [if_pos (hany.mpr h), if_pos h, List.map_map]
    refine List.map_congr_left fun p _ => ?_
    show (if p.1 = k then (p.1, d) else p).1 = p.1
    split <;> rfl
  · rw [if_neg fun z => h (hany.mp z), if_neg h, List.map_append] <;> rfl
theorem keys_foldP {κ : Type} [DecidableEq κ] (l : List (κ × D)) : (foldP l).map (·.1) = uniq (l.map (·.1)) := by
  have go : forall (l : List (κ × D)) (acc : List (κ × D)), (l.foldl (fun kvs p => pD kvs p.1 p.2) acc).map (·.1) = (l.map (·.1)).foldl (fun acc x => if x ∈ acc then acc else acc ++ [x]) (acc.map (·.1)) := by
    intro l
    induction l with
    | nil => intro acc; rfl
    | cons p l ih =>
      intro acc
      rw [List.foldl_cons, ih, List.map_cons, List.foldl_cons, keys_pD]
  exact go l []
theorem uniq_map {α β : Type} [DecidableEq α] [DecidableEq β] {f : α -> β} (hf : forall a b, f a = f b -> a = b) (l : List α) : uniq (l.map f) = (uniq l).map f := by
  have go : forall (l acc : List α), (l.map f).foldl (fun acc x => if x ∈ acc then acc else acc ++ [x]) (acc.map f) = (l.foldl (fun acc x => if x ∈ acc then acc else acc ++ [x]) acc).map f := by
    intro l
    induction l with
    | nil => intro acc; rfl
    | cons p l ih =>
      intro acc
      rw [List.map_cons, List.foldl_cons, List.foldl_cons, ← ih]
      congr 1
      by_cases h : p ∈ acc
      · rw [if_pos h, if_pos (List.mem_map.mpr ⟨p, h, rfl⟩)]
      · rw [if_neg h, if_neg, List.map_append] <;> try rfl
        intro z
        obtain ⟨q, hq, e⟩ := List.mem_map.mp z
        rw [hf _ _ e] at hq
        exact h hq
  exact go l []
theorem uniq_len {α : Type} [DecidableEq α] (l : List α) : (uniq l).length ≤ l.length := by
  have go : forall (l acc : List α), (l.foldl (fun acc x => if x ∈ acc then acc else acc ++ [x]) acc).length ≤ acc.length + l.length := by
    intro l
    induction l with
    | nil => intro acc; exact Nat.le_refl _
    | cons a l ih =>
      intro acc
      rw [List.foldl_cons, List.length_cons]
      have h := ih (if a ∈ acc then acc else acc ++ [a])
      split at h
      · rename_i h0
        rw [if_pos h0]
        omega
      · rename_i h0
        rw [if_neg h0]
        rw [List.length_append, List.length_singleton] at h
        omega
  have h := go l []
  rw [List.length_nil, Nat.zero_add] at h
  exact h
theorem nodup_len {α : Type} [DecidableEq α] : forall {l m : List α}, l.Nodup -> (forall x, x ∈ l -> x ∈ m) -> l.length ≤ m.length
  | [], _, _, _ => Nat.zero_le _
  | x :: l, m, h, k => by
    rw [List.nodup_cons] at h
    obtain ⟨a, b, rfl⟩ := List.append_of_mem (k x List.mem_cons_self)
    have := nodup_len (l := l) (m := a ++ b) h.2 fun y hy => by
      rcases List.mem_append.mp (k y (List.mem_cons_of_mem _ hy)) with z | z
      · exact List.mem_append_left _ z
      · rcases List.mem_cons.mp z with e | z
        · exact absurd (e ▸ hy) h.1
        · exact List.mem_append_right _ z
    rw [List.length_append] at this
    rw [List.length_append, List.length_cons, List.length_cons]
    omega
theorem uniq_mem {α : Type} [DecidableEq α] (l : List α) (x : α) : x ∈ uniq l <-> x ∈ l := by
  have go : forall (l acc : List α), (x ∈ l.foldl (fun acc x => if x ∈ acc then acc else acc ++ [x]) acc) <-> x ∈ acc ∨ x ∈ l := by
    intro l
    induction l with
    | nil => intro acc; simp
    | cons y l ih =>
      intro acc
      rw [List.foldl_cons, ih]
      by_cases h : y ∈ acc
      · rw [if_pos h, List.mem_cons]
        constructor
        · rintro (z | z)
          · exact .inl z
          · exact .inr (.inr z)
        · rintro (z | rfl | z)
          · exact .inl z
          · exact .inl h
          · exact .inr z
      · rw [if_neg h, List.mem_append, List.mem_singleton, List.mem_cons, or_assoc]
  have h := go l []
  have e : x ∈ ([] : List α) ∨ x ∈ l <-> x ∈ l := by simp
  exact h.trans e
theorem uniq_nodup {α : Type} [DecidableEq α] (l : List α) : (uniq l).Nodup := by
  have go : forall (l acc : List α), acc.Nodup -> (l.foldl (fun acc x => if x ∈ acc then acc else acc ++ [x]) acc).Nodup := by
    intro l
    induction l with
    | nil => intro acc h; exact h
    | cons y l ih =>
      intro acc h
      rw [List.foldl_cons]
      refine ih _ ?_
      by_cases hy : y ∈ acc
      · rw [if_pos hy]
        exact h
      · rw [if_neg hy]
        exact nd_snoc h hy
  exact go l [] List.nodup_nil
theorem foldP_nodup {κ : Type} [DecidableEq κ] {l : List (κ × D)} (h : (l.map (·.1)).Nodup) : foldP l = l := by
  have go : forall (l acc : List (κ × D)), (l.map (·.1)).Nodup -> (forall p, p ∈ l -> p.1 ∉ acc.map (·.1)) -> l.foldl (fun kvs p => pD kvs p.1 p.2) acc = acc ++ l := by
    intro l
    induction l with
    | nil => intro acc _ _; rw [List.append_nil] <;> rfl
    | cons p l ih =>
      intro acc hn hd
      rw [List.map_cons, List.nodup_cons] at hn
      have hp : pD acc p.1 p.2 = acc ++ [p] := by
        unfold pD
        rw [if_neg]
        intro z
        obtain ⟨q, hq, e⟩ := List.any_eq_true.mp z
        exact hd p List.mem_cons_self (List.mem_map.mpr ⟨q, hq, of_decide_eq_true e⟩)
      rw [List.foldl_cons, hp, ih _ hn.2 fun q hq => ?_, List.append_assoc] <;> try rfl
      rw [List.map_append]
      intro z
      rcases List.mem_append.mp z with z | z
      · exact hd q (List.mem_cons_of_mem _ hq) z
      · have e : q.1 = p.1 := List.mem_singleton.mp z
        exact hn.1 (List.mem_map.mpr ⟨q, hq, e⟩)
  have h2 := go l [] h fun p _ => by simp
  exact h2
theorem all_of {α : Type} {f : α -> D} {C : α -> Prop} : forall {es : List D}, (forall e, e ∈ es -> exists x, e = f x ∧ C x) -> exists l : List α, es = l.map f ∧ forall x, x ∈ l -> C x
  | [], _ => ⟨[], rfl, by simp⟩
  | e :: es, h => by
    obtain ⟨x, ex, cx⟩ := h e List.mem_cons_self
    obtain ⟨l, el, cl⟩ := all_of fun d m => h d (List.mem_cons_of_mem _ m)
    refine ⟨x :: l, by rw [ex, el, List.map_cons], fun y m => ?_⟩
    rcases List.mem_cons.mp m with m | m
    · rw [m]
      exact cx
    · exact cl y m
theorem find_none {α : Type} {f : α -> D} {p : D -> Bool} {l : List α} (h : forall x, x ∈ l -> p (f x) = false) : (l.map f).findIdx? p = none := List.findIdx?_eq_none_iff.mpr fun d hd => by
  obtain ⟨x, hx, rfl⟩ := List.mem_map.mp hd
  exact h x hx
theorem find_at {p : D -> Bool} {l r : List D} {d : D} (h1 : forall x, x ∈ l -> p x = false) (h2 : p d = true) : (l ++ d :: r).findIdx? p = some l.length := by
  refine findIdx_first (i := l.length) (x := d) (by rw [List.getElem?_append_right (Nat.le_refl _), Nat.sub_self] <;> rfl) h2 fun j y hj hy => ?_
  rw [List.getElem?_append_left hj] at hy
  exact h1 y (List.mem_of_getElem? hy)
theorem uniq_self {α : Type} [DecidableEq α] {l : List α} (h : l.Nodup) : uniq l = l := by
  have go : forall (l acc : List α), (acc ++ l).Nodup -> l.foldl (fun acc x => if x ∈ acc then acc else acc ++ [x]) acc = acc ++ l := by
    intro l
    induction l with
    | nil => intro acc _; simp
    | cons x l ih =>
      intro acc h
      have hx : x ∉ acc := fun z => (List.nodup_append.mp h).2.2 x z x List.mem_cons_self rfl
      rw [List.foldl_cons, if_neg hx, ih _ (by rw [List.append_assoc]; exact h), List.append_assoc] <;> rfl
  exact go l [] h
theorem its_row {d : D} (hf : d.fi = true) : (isB d "list" || isB d "tuple") = d.its.isSome := by
  cases d with
  | oth v => cases (show false = true from hf)
  | ins C fs => cases (show false = true from hf)
  | dK k => cases (show false = true from hf)
  | dT k => cases (show false = true from hf)
  | _ => simp [isB, D.tn, D.its]
theorem its_cases {d : D} {ds : List D} (hf : d.fi = true) (h : d.its = some ds) : (d = .lst ds ∨ d = .tup ds) ∧ ds.length ≤ 100000 ∧ forall e, e ∈ ds -> e.fi = true := by
  cases d with
  | lst es => cases h; exact ⟨.inl rfl, (fi_lst hf).1, fis_all.mp (fi_lst hf).2⟩
  | tup es => cases h; exact ⟨.inr rfl, (fi_tup hf).1, fis_all.mp (fi_tup hf).2⟩
  | oth v => cases (show false = true from hf)
  | ins C fs => cases (show false = true from hf)
  | dK k => cases (show false = true from hf)
  | dT k => cases (show false = true from hf)
  | _ => cases h
theorem its_len {d : D} {ds : List D} (h : d = .lst ds ∨ d = .tup ds) : d.len = some ds.length := by
  rcases h with rfl | rfl <;> rfl
theorem its_str {d : D} {ds : List D} (h : d = .lst ds ∨ d = .tup ds) : forall x, d = .str x -> x.length ≤ sizeLine := by
  rintro x rfl
  rcases h with h | h <;> cases h
end Ak
/-! Ak 38: dicts that are new; exceptions under locks. -/
namespace Ak
open PySem PySem.Spec PyProof.Rows L2
/-- a new dict -/
def NewD {κ : Type} [DecidableEq κ] (c : KC κ) (H : Hp) (kvs : List (κ × D)) : V -> Hp -> Prop := fun y G => exists p ws, y = .ref p ∧ G p = some (c.hk ws) ∧ RepP G kvs ws ∧ H p = none
section
variable {κ : Type} [DecidableEq κ] {c : KC κ} {K : PySem.W.Frag} {M : MK} {s : L2.St} {H : Hp} {te ta tb : TE} {ds : List D} {d z : D}
theorem ev_dcN {wi : TI} {g : TG} {tt : TT} {tk tv : TE} {vs : List Nat} (f : D -> Option (κ × D)) (m : Mok M H) (hi : EvI M wi s H ds) (hz : ds.length ≤ 1000000)
    (hs : forall (N : MK) H3 d x, Mok N H3 -> Same (msk M H) (msk N H3) -> d ∈ ds -> Rep (msk N H3) d x -> EltP c N g tt tk tv vs s H3 x (f d)) : Ev M (tDcU (c.hk []) wi g tt tk tv vs) s H (NewD c H (foldP (ds.filterMap f))) := fun H1 e1 Q q =>
  hi H1 e1 _ fun J H2 e2 it Da hD => by
    have m2 : Mok M H2 := (m.up e1).up e2
    have hM : ¬ M Da := m2.new hD
    let N : MK := fun a => M a ∨ a = Da
    have i2 : forall a, N a -> M a ∨ H2 a = none := fun a z => by
      rcases z with z | z
      · exact .inl z
      · exact .inr (by rw [z]; exact hD)
    have hlow : forall {H3 : Hp}, Same H2 H3 -> Same (msk M H2) (msk N H3) := fun {H3} e a o h => by
      obtain ⟨n, h⟩ := msk_of h
      rw [msk_at]
      · exact e _ _ h
      · rintro (z | z)
        · exact n z
        · rw [z, hD] at h
          cases h
    refine ⟨fun i k H3 => k = ds.length - i ∧ i ≤ ds.length ∧ Same H2 H3 ∧ exists acc, H3 Da = some (c.hk acc) ∧ RepP (msk N H3) (foldP ((ds.take i).filterMap f)) acc,
      ⟨ds.length, by simp, Nat.zero_le _, same_new hD, [], upd_same, .nil⟩, ?_⟩
    rintro i k H3 ⟨rfl, hi, e3, acc, ha, rs⟩
    have m3 : Mok N H3 := Mok.add (m2.up e3) ha (c.dict acc).nt
    have hlen : acc.length ≤ i := by
      rw [← Paired.length rs]
      have h1 := foldP_len ((ds.take i).filterMap f)
      have h2 := List.length_filterMap_le f (ds.take i)
      have h3 : (ds.take i).length ≤ i := by rw [List.length_take]; omega
      omega
    by_cases hlt : i < ds.length
    · refine .inr ⟨it.go i H3 (Kp.of e3) hlt, fun H4 => Same H2 H4 ∧ exists acc, H4 Da = some (c.hk acc) ∧ RepP (msk N H4) (foldP ((ds.take (i + 1)).filterMap f)) acc, fun H4 w => ⟨ds.length - (i + 1), by omega, rfl, hlt, w⟩, fun x H4 y => ?_⟩
      obtain ⟨e4, d, hd, rd⟩ := it.yld i H3 x H4 N (Kp.of e3) m3 i2 hlt y
      have tk : ds.take (i + 1) = ds.take i ++ [d] := by rw [List.take_succ, hd] <;> rfl
      have ha4 := e4 _ _ ha
      have rs4 := rs.fx (Fx.of (msk_mono e4))
      refine hs N H4 d x (m3.up e4) (fun a o h => hlow (e3.trans e4) _ _ (msk_mono (e1.trans e2) _ _ h)) (List.mem_of_getElem? hd) rd _ _ (fun k d' ho y z H5 e5 ry rz => ?_) (fun ho H5 e5 => ?_)
      · refine ⟨upd H5 Da (c.hk (putK acc k z)), c.put (e5 _ _ ha4) (ry.up msk_same) (by rw [sizeLine_eq]; omega), fun a o h => ?_, putK acc k z, upd_same, ?_⟩
        · rw [upd_ne (ne_of_none h hD)]
          exact e5 _ _ (e4 _ _ (e3 _ _ h))
        · rw [tk, List.filterMap_append, List.filterMap_cons_some ho, List.filterMap_nil, msk_upd (M := N) (.inr rfl), foldP_snoc]
          exact RepP.put (rs4.fx (Fx.of (msk_mono e5))) k rz
      · refine ⟨(e3.trans e4).trans e5, acc, e5 _ _ ha4, ?_⟩
        rw [tk, List.filterMap_append, List.filterMap_cons_none ho, List.filterMap_nil, List.append_nil]
        exact rs4.fx (Fx.of (msk_mono e5))
    · have e : i = ds.length := by omega
      subst e
      rw [List.take_length] at rs
      refine .inl ⟨it.stop H3 (Kp.of e3), q _ H3 (e2.trans e3) ⟨Da, acc, rfl, ?_, rs.fx (Fx.of (msk_less fun a z => .inl z)), (e1.trans e2).free hD⟩⟩
      rw [msk_at hM]
      exact ha

/-- .. made under a lock -/
theorem ev_lockN {kvs kvs' : List (κ × D)} {v : V} (m : Mok M H) (hd : Rep (msk M H) (c.md kvs) v)
    (h : forall Hl a od ws, Mok M Hl -> Fx (msk M H) (msk M Hl) -> v = .ref a -> ¬ M a -> Hl a = some (.frz od (c.hk ws)) -> RepP (msk M Hl) kvs ws -> Ev M te s Hl (NewD c Hl kvs')) : Ev M (tLockU te) s H (NewD c H kvs') := fun H1 e1 Q q => by
  obtain ⟨a, ws, e, ha, r⟩ := c.rep.mp hd
  obtain ⟨nm, ha'⟩ := rd_msk ha
  have m1 := m.up e1
  rcases ha' with h0 | ⟨od, h0⟩
  · have h1 := e1 _ _ h0
    refine .inl ⟨a, c.hk ws, h1, (c.dict ws).mut, fun od => ?_⟩
    have f : Fx (msk M H1) (msk M (L2.upd H1 a (.frz od (c.hk ws)))) := Fx.msk (fx_lock (od := od) h1 (c.dict ws)) fun b z => .inl z
    have fl := (Fx.of (msk_mono (M := M) e1)).trans f
    have ml : Mok M (L2.upd H1 a (.frz od (c.hk ws))) := m1.upd (by intro xs e; cases e)
    refine h _ a od ws ml fl e nm upd_same (r.fx fl) _ (Same.refl _) _ fun y H2 e2 ry => ?_
    have h2 : H2 a = some (.frz od (c.hk ws)) := e2 _ _ upd_same
    obtain ⟨p, ws', ey, hp, rp, hn⟩ := ry
    obtain ⟨np, hp2⟩ := msk_of hp
    have pa : p ≠ a := fun z => by
      rw [z, h2] at hp2
      rcases c.dict ws' with ⟨k, e'⟩ | ⟨k, e'⟩ <;> rw [e'] at hp2 <;> cases hp2
    have fu : Fx (msk M H2) (msk M (L2.upd H2 a (c.hk ws))) := Fx.msk (fx_unlock h2 (c.dict ws)) fun b z => .inl z
    refine ⟨h2, q y _ (fun b o hb => ?_) ⟨p, ws', ey, ?_, rp.fx fu, ?_⟩⟩
    · by_cases hba : b = a
      · rw [hba] at hb ⊢
        rw [h1] at hb
        rw [upd_same]
        exact hb
      · rw [upd_ne hba]
        exact e2 _ _ (by rw [upd_ne hba]; exact hb)
    · rw [msk_at np, upd_ne pa]
      exact hp2
    · rw [upd_ne pa] at hn
      exact e1.free hn
  · have h1 := e1 _ _ h0
    exact .inr (h H1 a od ws m1 (Fx.of (msk_mono e1)) e nm h1 (r.fx (Fx.of (msk_mono e1))) _ (Same.refl _) _ fun y H2 e2 ⟨p, ws', ey, hp, rp, hn⟩ => q y H2 e2 ⟨p, ws', ey, hp, rp, e1.free hn⟩)
end
/-! ### exceptions that leave under a lock -/
/-- as SpE, but what raises may leave dicts locked -/
def SpEL (R : List D -> D -> Prop) (X : List D -> Addr -> List (Str × D) -> Prop) : Sp := fun vs H Q E => exists (M : MK) (ds : List D), Mok M H ∧ Reps (msk M H) ds vs ∧
  ((exists d, R ds d ∧ forall v H', Same H H' -> Rep (msk M H') d v -> Q v H') ∨
   (exists C fs, X ds C fs ∧ forall dx ws H', Lk H H' -> H dx = none -> H' dx = some (.xd ws) -> RepF (msk M H') fs ws -> E (.ref C) (some dx) H'))
def LkX (x : Addr) (H H' : Hp) : Prop := forall b o, b ≠ x -> H b = some o -> H' b = some o ∨ (isDict o ∧ exists od, H' b = some (.frz od o))
def SpIL (C : Addr) (R : List D -> List (Str × D) -> Prop) (X : List D -> Addr -> List (Str × D) -> Prop) : Sp := fun vs H Q E => exists (M : MK) (ds : List D) (x dx : Addr) (ws : List V), Mok M H ∧ M x ∧ vs = .ref x :: ws ∧ Reps (msk M H) ds ws ∧ H x = some (.ins C dx []) ∧
  ((exists fs, R ds fs ∧ forall vs' H', (forall a o, a ≠ x -> H a = some o -> H' a = some o) -> H' x = some (.ins C dx vs') -> RepF (msk M H') fs vs' -> Q .non H') ∨
   (exists C' fs, X ds C' fs ∧ forall dy ys H', LkX x H H' -> H dy = none -> H' dy = some (.xd ys) -> RepF (msk M H') fs ys -> E (.ref C') (some dy) H'))
theorem SpEL.len {R : List D -> D -> Prop} {X : List D -> Addr -> List (Str × D) -> Prop} {n : Nat} (hR : forall ds d, R ds d -> ds.length = n) (hX : forall ds C fs, X ds C fs -> ds.length = n) {vs : List V} {H : Hp} {Q : VK} {E : XK} (h : SpEL R X vs H Q E) : vs.length = n := by
  obtain ⟨M, ds, _, rs, ⟨d, r, _⟩ | ⟨C, fs, r, _⟩⟩ := h
  · rw [rs.len, hR ds d r]
  · rw [rs.len, hX ds C fs r]
theorem SpIL.len {C : Addr} {R : List D -> List (Str × D) -> Prop} {X : List D -> Addr -> List (Str × D) -> Prop} {n : Nat} (hR : forall ds d, R ds d -> ds.length = n) (hX : forall ds C fs, X ds C fs -> ds.length = n) {vs : List V} {H : Hp} {Q : VK} {E : XK} (h : SpIL C R X vs H Q E) : vs.length = n + 1 := by
  obtain ⟨M, ds, x, dx, ws, _, _, ev, rs, _, ⟨d, r, _⟩ | ⟨C', fs, r, _⟩⟩ := h
  · rw [ev, List.length_cons, rs.len, hR ds d r]
  · rw [ev, List.length_cons, rs.len, hX ds C' fs r]
section
variable {K : PySem.W.Frag} {M : MK} {s : L2.St} {H : Hp} {ta te to : TE} {tr : TA} {ds : List D} {d e z : D} {E : XK}
theorem ev_inTD {α : Type} [DecidableEq α] (m : Dat α) {x : α} {l : List α} (ed : d = m.d x) (ee : e = .tup (l.map m.d)) (ha : EvD M ta s H d) (hb : EvD M te s H e) (h : m.dp ≤ 40 := by decide) : EvD M (tOp (rInU false) ta te) s H (.bl (decide (x ∈ l))) := by
  subst ed ee
  rw [← inP_dat m x l]
  exact ev_op ha hb (rd_inTU (neg := false) (m.ok h x) (oks_dat m h l))
/-- a field that is an object: what is seen of it wherever only locks came -/
theorem fld_sees {C : Addr} {f : Str} {fs : List (Str × D)} {i : Nat} {v : V} (c : Cls K C) (n : NoAttr K C f) (hv : s[i]? = some (some v)) (r : Rep (msk M H) (.ins C fs) v) (l : fs.lookup f = some d) :
    exists vr, Rep (msk M H) d vr ∧ forall Hl, Fx (msk M H) (msk M Hl) -> forall b, vr = .ref b -> Ev M (tFld K (tVar i) f) s Hl (fun y _ => y = .ref b) := by
  obtain ⟨a, dx, vs, ev, ha, rf⟩ := id r
  obtain ⟨vr, hvr, rr⟩ := rf.look l
  refine ⟨vr, rr, fun Hl fl b eb H1 e1 Q q => ⟨v, hv, ?_⟩⟩
  obtain ⟨a2, dx2, vs2, ev2, ha2, rf2⟩ := (Rep.fx fl _ r).up (msk_mono (M := M) e1)
  have h0 := fl.ins ha
  have ea : a2 = a := by
    rw [ev] at ev2
    cases ev2
    rfl
  subst ea
  have h3 := msk_mono (M := M) e1 _ _ h0
  rw [ha2] at h3
  cases h3
  exact ⟨a2, C, _, _, vr, ev2, msk_same _ _ ha2, c, n, hvr, q vr H1 (Same.refl _) eb⟩
theorem ev_methEL {C : Addr} {nm : Str} {R : List D -> D -> Prop} {X : List D -> Addr -> List (Str × D) -> Prop} {fs : List (Str × D)} (m : Mok M H) (ho : EvD M to s H (.ins C fs)) (hl : fs.lookup nm = none) (h : EvDs M tr s H ds) (hR : R (.ins C fs :: ds) d) : EvD M (tMeth C nm (SpEL R X) [] E to tr) s H d := fun H1 e1 Q q =>
  ho H1 e1 _ fun v H2 e2 r => by
    obtain ⟨a, dx, vs, ev, ha, rf⟩ := id r
    refine ⟨a, dx, vs, ev, msk_same _ _ ha, rf.none hl, h H2 (e1.trans e2) _ fun ws H3 e3 rs => ?_⟩
    exact ⟨M, .ins C fs :: ds, ((m.up e1).up e2).up e3, ⟨v, ws, by rw [List.append_nil], r.up (msk_mono e3), rs⟩, .inl ⟨d, hR, fun v' H' e4 r' => q v' H' ((e2.trans e3).trans e4) r'⟩⟩
theorem tm_raiseL {C : Addr} {nm : Str} {R : List D -> D -> Prop} {X : List D -> Addr -> List (Str × D) -> Prop} {fs : List (Str × D)} {EX : XK} {Q : VK} {C' : Addr} {gs : List (Str × D)} (m : Mok M H) (ho : EvD M to s H (.ins C fs)) (hl : fs.lookup nm = none) (h : EvDs M tr s H ds) (hX : X (.ins C fs :: ds) C' gs)
    (k : forall dy ws H', Lk H H' -> H dy = none -> H' dy = some (.xd ws) -> RepF (msk M H') gs ws -> EX (.ref C') (some dy) H') : tMeth C nm (SpEL R X) [] EX to tr s H Q :=
  ho H (Same.refl H) _ fun v H2 e2 r => by
    obtain ⟨a, dx, vs, ev, ha, rf⟩ := id r
    refine ⟨a, dx, vs, ev, msk_same _ _ ha, rf.none hl, h H2 e2 _ fun ws H3 e3 rs => ?_⟩
    exact ⟨M, .ins C fs :: ds, (m.up e2).up e3, ⟨v, ws, by rw [List.append_nil], r.up (msk_mono e3), rs⟩, .inr ⟨C', gs, hX, fun dy ws' H' e4 hn hy rf' => k dy ws' H' ((Lk.of (e2.trans e3)).trans e4) ((e2.trans e3).free hn) hy rf'⟩⟩
end
end Ak
/-! Ak 39: slices of tuples; drawn values put into dicts. -/
namespace Ak
open PySem PySem.Spec PyProof.Rows L2
theorem SameE.sub {M N : MK} {H H' : Hp} (e : SameE N H H') (i : forall b, N b -> M b) : SameE M H H' := fun a o n h => e a o (fun z => n (i a z)) h
/-- what is new is no change -/
theorem SameE.drop {M N : MK} {H H' : Hp} (e : SameE M H H') (i : forall b, M b -> N b ∨ H b = none) : SameE N H H' := fun a o n h => e a o (fun z => (i a z).elim n fun q => by rw [q] at h; cases h) h
theorem SameE.same {M : MK} {H H1 H2 : Hp} (e : SameE M H H1) (f : Same H1 H2) : SameE M H H2 := e.trans (SameE.of f)
theorem SameE.mok {M N : MK} {H H' : Hp} (e : SameE N H H') (m : Mok M H) (k : forall b, N b -> exists o, H' b = some o ∧ forall xs, o ≠ .tup xs) : Mok M H' := fun b z => by
  rcases Classical.em (N b) with n | n
  · exact k b n
  · obtain ⟨o, g, nt⟩ := m b z
    exact ⟨o, e b o n g, nt⟩
theorem pD_new {κ : Type} [DecidableEq κ] {kvs : List (κ × D)} {k : κ} (v : D) (h : k ∉ kvs.map (·.1)) : pD kvs k v = kvs ++ [(k, v)] := by
  unfold pD
  rw [if_neg]
  intro z
  obtain ⟨p, hp, e⟩ := List.any_eq_true.mp z
  exact h (List.mem_map.mpr ⟨p, hp, of_decide_eq_true e⟩)
section
variable {K : PySem.W.Frag} {M : MK} {s : L2.St} {H : Hp} {te ta tv : TE} {ds : List D} {d z : D}
theorem cutD_whole {ds : List D} {lo hi : Option Int} (h : HT.sIx ds.length 0 lo = 0 ∧ HT.sIx ds.length ds.length hi = ds.length) : cutD ds lo hi = ds := by
  unfold cutD
  rw [h.1, h.2, List.drop_zero, Nat.sub_zero, List.take_length]
theorem ev_slT {tl th : TO} {lo hi : Option Int} (m : Mok M H) (h : EvD M te s H (.tup ds)) (hl : forall H1, Same H H1 -> forall Q : Option Int -> Hp -> Prop, (forall H2, Same H1 H2 -> Q lo H2) -> tl s H1 Q) (hh : forall H1, Same H H1 -> forall Q : Option Int -> Hp -> Prop, (forall H2, Same H1 H2 -> Q hi H2) -> th s H1 Q) :
    EvD M (tSl (rSlA K) te tl th) s H (.tup (cutD ds lo hi)) := fun H1 e1 Q q => h H1 e1 _ fun x H2 e2 rx => hl H2 (e1.trans e2) _ fun H3 e3 => hh H3 ((e1.trans e2).trans e3) _ fun H4 e4 => by
  obtain ⟨a, xs, ea, ha, rs⟩ := id rx
  have e24 := e3.trans e4
  have el := rs.len
  refine ⟨a, xs, ea, SqT.of (e24 _ _ (msk_same _ _ ha)), fun hw => ?_, fun _ p hp => q _ _ ((e2.trans e24).trans (same_new hp)) ⟨p, _, rfl, msk_new (m.up (((e1.trans e2).trans e3).trans e4)) hp, ?_⟩⟩
  · rw [el] at hw
    rw [cutD_whole hw] at q
    rw [← ea]
    exact q _ _ (e2.trans e24) (rx.up (msk_mono e24))
  · exact Reps.cutV (rs.up (msk_mono (e24.trans (same_new hp)))) lo hi
/-! ### d[k] = a drawn value -/
variable {p a : Addr} {E : Ends} {C : D -> Prop}
theorem st_dputC {q : Addr} {i j : Nat} {kvs : List (Key × D)} {ws : List (Key × V)} {k : Key} (hp : M p) (hq : M q) (hqp : q ≠ p) (hi : s[i]? = some (some (.ref q))) (hj : s[j]? = some (some (kV k))) (d0 : Drw p a H) (hv : EvC M p a tv s H C) (h0 : H q = some (.dK ws)) (r0 : RepP (msk M H) kvs ws) (hz : kvs.length < 1000000)
    (nx : forall d H2 ws2, C d -> SameE (fun b => b = p ∨ b = q) H H2 -> Drw p a H2 -> H2 q = some (.dK ws2) -> RepP (msk M H2) (pD kvs k d) ws2 -> E.nx s H2) : sDPut (tVar i) (tVar j) tv E s H :=
  hv H (SameX.refl H) d0 _ fun d v H1 c e1 d1 rv => ⟨_, hi, _, hj, by
    have h3 := e1 _ _ hqp h0
    refine ⟨q, _, rfl, DPut.k h3 (by rw [← Paired.length r0, sizeLine_eq]; omega), nx d _ (putK ws k v) c (fun b o hb h => ?_) ?_ upd_same ?_⟩
    · rw [upd_ne fun z => hb (.inr z)]
      exact e1 _ _ (fun z => hb (.inl z)) h
    · obtain ⟨n, hn, g⟩ := d1
      exact ⟨n, hn, by rw [upd_ne hqp.symm]; exact g⟩
    · rw [msk_upd hq]
      exact RepP.put (r0.fx (Fx.of (e1.msk hp))) k rv⟩
theorem yields_sub {Ce : D -> Option D -> Prop} {C : D -> Prop} {ds es : List D} (hc : forall d o, Ce d o -> o = none ∨ (o = some d ∧ C d)) (h : Yields Ce ds es) : es.Sublist ds ∧ forall e, e ∈ es -> C e := by
  induction h with
  | nil => exact ⟨List.Sublist.refl _, by simp⟩
  | some h c ih =>
    rcases hc _ _ c with z | ⟨z, cz⟩
    · cases z
    · cases z
      refine ⟨ih.1.append (List.Sublist.refl _), fun e he => ?_⟩
      rcases List.mem_append.mp he with m | m
      · exact ih.2 e m
      · rw [List.mem_singleton.mp m]
        exact cz
  | none h c ih => exact ⟨ih.1.trans (List.sublist_append_left _ _), ih.2⟩
theorem sublist_map {α β : Type} {f : α -> β} {es : List β} {l : List α} (h : es.Sublist (l.map f)) : exists l2 : List α, es = l2.map f ∧ l2.Sublist l := by
  obtain ⟨l2, h1, h2⟩ := List.sublist_map_iff.mp h
  exact ⟨l2, h2, h1⟩
end
end Ak
/-! Ak 40: objects whose making may raise under locks. -/
namespace Ak
open PySem PySem.Spec PyProof.Rows L2
section
variable {K : PySem.W.Frag} {M : MK} {s : L2.St} {H : Hp} {tr : TA} {ds : List D} {E : XK}
theorem make_okL {C : Addr} {R : List D -> List (Str × D) -> Prop} {X : List D -> Addr -> List (Str × D) -> Prop} {fs : List (Str × D)} {vs : List V} {Q : VK} (m : Mok M H) (rs : Reps (msk M H) ds vs) (hR : R ds fs) (q : forall v H', Same H H' -> Rep (msk M H') (.ins C fs) v -> Q v H') {x dx : Addr} (hx : H x = none) (hdx : H dx = none) (hne : dx ≠ x) :
    SpIL C R X (.ref x :: vs) (upd (upd H dx (.own x)) x (.ins C dx [])) (fun v H2 => v = .non ∧ Q (.ref x) H2) E := by
  have sm : Same H (upd (upd H dx (.own x)) x (.ins C dx [])) := fun a o h => by
    rw [upd_ne (ne_of_none h hx), upd_ne (ne_of_none h hdx)]
    exact h
  have low : forall {H' : Hp}, (forall a o, a ≠ x -> H a = some o -> H' a = some o) -> Same (msk M H) (msk (fun a => M a ∨ a = x) H') := fun {H'} k a o h => by
    obtain ⟨n, h⟩ := msk_of h
    have hne : a ≠ x := ne_of_none h hx
    rw [msk_at fun z => z.elim n hne]
    exact k a o hne h
  refine ⟨fun a => M a ∨ a = x, ds, x, dx, vs, fun a z => ?_, .inr rfl, rfl, rs.up (low fun a o _ h => sm a o h), upd_same, .inl ⟨fs, hR, fun vs' H' k hx' rf => ⟨rfl, q _ H' (fun a o h => k a o (ne_of_none h hx) (sm a o h)) ?_⟩⟩⟩
  · rcases z with z | z
    · exact (m.up sm) a z
    · rw [z]
      exact ⟨_, upd_same, fun _ e => nomatch e⟩
  · refine ⟨x, dx, vs', rfl, ?_, RepF.fx (Fx.of (msk_less fun a z => .inl z)) fs rf⟩
    rw [msk_at (m.new hx)]
    exact hx'
theorem ev_makeL {C : Addr} {R : List D -> List (Str × D) -> Prop} {X : List D -> Addr -> List (Str × D) -> Prop} {fs : List (Str × D)} (m : Mok M H) (h : EvDs M tr s H ds) (hR : R ds fs) : EvD M (tMake C (SpIL C R X) [] E tr) s H (.ins C fs) := fun H1 e1 Q q =>
  h H1 e1 _ fun vs H2 e2 rs x dx hx hdx hne => by
    rw [List.append_nil]
    exact make_okL ((m.up e1).up e2) rs hR (fun v H' e3 r => q v H' (e2.trans e3) r) hx hdx hne
/-- .. that raises: dicts may be left locked -/
theorem make_errL {C C' : Addr} {R : List D -> List (Str × D) -> Prop} {X : List D -> Addr -> List (Str × D) -> Prop} {fs : List (Str × D)} {vs : List V} {Q : VK} (m : Mok M H) (rs : Reps (msk M H) ds vs) (hX : X ds C' fs)
    (q : forall dy ys H', Lk H H' -> H dy = none -> H' dy = some (.xd ys) -> RepF (msk M H') fs ys -> E (.ref C') (some dy) H') {x dx : Addr} (hx : H x = none) (hdx : H dx = none) (hne : dx ≠ x) :
    SpIL C R X (.ref x :: vs) (upd (upd H dx (.own x)) x (.ins C dx [])) Q E := by
  have sm : Same H (upd (upd H dx (.own x)) x (.ins C dx [])) := fun a o h => by
    rw [upd_ne (ne_of_none h hx), upd_ne (ne_of_none h hdx)]
    exact h
  have low : forall {H' : Hp}, (forall a o, a ≠ x -> H a = some o -> H' a = some o) -> Same (msk M H) (msk (fun a => M a ∨ a = x) H') := fun {H'} k a o h => by
    obtain ⟨n, h⟩ := msk_of h
    have hne : a ≠ x := ne_of_none h hx
    rw [msk_at fun z => z.elim n hne]
    exact k a o hne h
  refine ⟨fun a => M a ∨ a = x, ds, x, dx, vs, fun a z => ?_, .inr rfl, rfl, rs.up (low fun a o _ h => sm a o h), upd_same, .inr ⟨C', fs, hX, fun dy ys H' k hn hy rf => q dy ys H' (fun a o h => k a o (ne_of_none h hx) (sm a o h)) (sm.free hn) hy (RepF.fx (Fx.of (msk_less fun a z => .inl z)) fs rf)⟩⟩
  rcases z with z | z
  · exact (m.up sm) a z
  · rw [z]
    exact ⟨_, upd_same, fun _ e => nomatch e⟩
end
end Ak
/-! Ak 41: dicts, locked or not: list(d.items()), d != e; lists that grow; what is refused under locks. -/
namespace Ak
open PySem PySem.Spec PyProof.Rows L2
section
variable {X : Cx} {pins : List (Addr × Obj)} {σ : L2.St} {H : Hp} {s : Shared}
theorem dict_rd {a : Addr} {ks : List (Key × V)} (I : Inv X pins σ H s) (h : Rd H a (.dK ks)) : exists vs, (a == sysModules) = false ∧ KV ks vs ∧ s.heap.DictOf (mixKind X.prog X.w) a vs ∧ ks.length ≤ sizeLine := by
  rcases h with h | ⟨od, h⟩
  · obtain ⟨hz, hs, vs, kv, hd⟩ := (show ObjOk X.prog X.w H s.heap a (.dK ks) from I.hok a _ h)
    exact ⟨vs, hs, kv, hd, hz⟩
  · obtain ⟨na, ga, xa, es, n1, us, f1, sz1, kv1, _, _, ga', _, f1', k1, p1, nd1⟩ := I.frzK h
    rw [ga] at ga'
    cases ga'
    rw [f1] at f1'
    cases f1'
    obtain ⟨_, z, _⟩ := I.hok a _ h
    exact ⟨us, na, kv1, ⟨_, es, n1, ga, xa, f1, k1, p1, nd1⟩, z⟩
/-! ### list(d.items()) -/
def rItemsF : V -> Hp -> VK -> Prop := fun x H Q => exists (d : Addr) (kvs : List (Key × V)), x = .ref d ∧ Rd H d (.dK kvs) ∧
  forall (H' : Hp) (p : Addr) (ts : List Addr), (forall b o, H b = some o -> H' b = some o) -> H p = none -> (forall t, t ∈ ts -> H t = none) -> p ∉ ts -> H' p = some (.lst (ts.map V.ref)) -> Paired (fun (t : Addr) (q : Key × V) => H' t = some (.tup [kV q.1, q.2])) ts kvs -> Q (.ref p) H'
def tListItemsF (te : TE) : TE := fun σ H Q => te σ H fun x H1 => rItemsF x H1 Q
theorem pe_listItemsF {e : Expr} {te : TE} {p apos cpos pos : Pos} (hc : X.calm = true) (he : PE X e te) (hg : Gl X "list") (hm : X.mg "list" = none) (hv : bootBuiltins "list" = some (.type "list")) (hbase : attributeBase e "items" X.env (eval e X.env) = eval e X.env := by rfl) (hline : (apos.endLine == cpos.line) = true := by rfl)
    (hs : starEach [.Call (.Attribute e "items" apos) [] [] cpos] X.env = (false, eval (.Call (.Attribute e "items" apos) [] [] cpos) X.env) :: starEach [] X.env := by rfl) :
    PE X (.Call (.Name "list" p) [.Call (.Attribute e "items" apos) [] [] cpos] [] pos) (tListItemsF te) := by
  refine ⟨fun pins s σ H Q I hq => ?_⟩
  refine wpAny_Call_Name_kw (ld_blt I hg hm hv ?_)
  refine PyProof.Rows.callWith_type1 ?_ hs rfl
  rw [hs]
  show wpAny _ _ (spliced ((false, eval (.Call (.Attribute e "items" apos) [] [] cpos) X.env) :: backTo pos (starEach [] X.env))) _ _ s
  refine Calls.spliced_cons ?_
  refine wpAny_Call_method (T := "dict") (id := "dict.items") hbase rfl hline F.plainAttrs_dict F.slot_dict_items F.type_dict_items (thn (he.run pins s σ H _ I hq) fun u s1 ⟨x, H1, I1, rx, d, kvs, ex, hd, q⟩ => ?_)
  subst ex
  obtain rfl : u = Value.ref d := rx
  obtain ⟨vs, hs0, kv, hdo, hz⟩ := dict_rd I1 hd
  obtain ⟨ep, hat⟩ := hdo.dictAt
  have lk : kvs.length = vs.length := Paired.length kv
  have I2 : Inv X pins σ H1 { s1 with heap := s1.heap.push { cls := .type "dict_items", data := .fields #[.ref d] } } := I1.kept (t' := s1.toks) fun b ob q => Heap.get?_push_of_some _ q
  refine ⟨hdo.typeIs, hdo.mapOf.noDict, ?_⟩
  show wpAny _ _ (callWith cpos (.builtin "dict.items") [.ref d] [] []) _ X.xe s1
  refine method_meetsIn F.slot_dict_items F.entry_dict_items rfl (PySem.evalArgs_none ⟨rfl, hdo.typeIs, F.args_dict_items_1 _, _, meets_dict_items (mixKind X.prog X.w) d hs0, ⟨vs, hdo⟩, ?_⟩)
  refine Calls.spliced_nil ?_
  refine PySem.W.kdx_call (knd := mixKind X.prog X.w) (kvs := vs) (ep := ep) (I1.ok.hd hc) ⟨_, Heap.get?_push_size _ rfl, rfl, rfl⟩ (hat.push _) (by omega) fun h' tk acc c as hk hS hl hG hacc => ?_
  obtain ⟨H', k1, k2, k3, k4, k5, k6, J⟩ := LiI.items_laid (tk := tk) I2 hz kv hk hS hl hG hacc
  exact ⟨.ref _, H', J, rfl, q H' _ as k1 k2 k3 k4 k5 k6⟩
def rStr : List V -> Hp -> VK -> Prop := fun xs H Q => ∃ i, xs = [.int i] ∧ i.natAbs.log2 < 1920 ∧ Q (.str (toString i)) H
theorem call_strI : CallR X (.type "str") rStr := call_str_int
/-! ### d != e, equal ones of flat values -/
def rNeDF : R2 := fun x y H Q => exists a b ks ls, x = .ref a ∧ y = .ref b ∧ Rd H a (.dK ks) ∧ Rd H b (.dK ls) ∧ ks.length = ls.length ∧ (forall p, p ∈ ks -> valV ls p.1 = some p.2 ∧ flatB p.2 = true) ∧ Q (.bl false) H
theorem op_neDF (hu : X.A.units < cLine) : OpR X (compareOp .NotEq) rNeDF := by
  intro pins s σ H x y v u Q I rx ry h
  obtain ⟨a, b, ks, ls, rfl, rfl, ea, eb, hlen, hp, q⟩ := h
  obtain rfl : v = Value.ref a := rx
  obtain rfl : u = Value.ref b := ry
  obtain ⟨va, ya, ra, da, _⟩ := dict_rd I ea
  obtain ⟨vb, yb, rb, db, _⟩ := dict_rd I eb
  have hl : va.length = vb.length := by rw [← ra.length, ← rb.length]; exact hlen
  exact PySem.W.keq_ne (knd := mixKind X.prog X.w) (r := true) ya yb da db hu (fun _ => hits_all rb ra hp) (fin_bl I q (by simp [hl]))
end
section
variable {K : PySem.W.Frag} {M : MK} {s : L2.St} {H : Hp} {te : TE} {tr : TA} {E : Ends} {ds es : List D} {d : D}
theorem pairs_reps {G : Hp} : forall {ts : List Addr} {ws : List (Key × V)} {kvs : List (Key × D)}, Paired (fun (t : Addr) (q : Key × V) => G t = some (.tup [kV q.1, q.2])) ts ws -> RepP G kvs ws -> Reps G (kvs.map pairD) (ts.map V.ref)
  | _, _, _, .nil, r => by
    cases r
    exact rfl
  | _, _, _, .cons h t, r => by
    cases r with
    | cons hp r =>
      exact ⟨_, _, rfl, ⟨_, _, rfl, h, _, _, rfl, by rw [hp.1]; exact kD_rep _, _, _, rfl, hp.2, rfl⟩, pairs_reps t r⟩
theorem ev_listItems {kvs : List (Key × D)} (m : Mok M H) (h : EvD M te s H (.dK kvs)) : EvD M (tListItemsF te) s H (.lst (kvs.map pairD)) := fun H1 e1 Q q => h H1 e1 _ fun x H2 e2 rx => by
  obtain ⟨a, ws, ev, ha, rk⟩ := rx
  have r := repK_iff.mp rk
  have m2 := (m.up e1).up e2
  have rd2 : Rd H2 a (.dK ws) := (rd_msk ha).2
  refine ⟨a, ws, ev, rd2, fun H' p ts hk hp ht hpt h5 h6 => q _ H' (e2.trans hk) ?_⟩
  have nM : forall {b : Addr}, H2 b = none -> ¬ M b := fun {b} hb => m2.new hb
  refine ⟨p, _, rfl, by rw [msk_at (nM hp)]; exact h5, ?_⟩
  have r' := r.fx (Fx.of (msk_mono (M := M) hk))
  have go : forall {ts : List Addr} {ws : List (Key × V)}, (forall t, t ∈ ts -> H2 t = none) -> Paired (fun (t : Addr) (q : Key × V) => H' t = some (.tup [kV q.1, q.2])) ts ws -> Paired (fun (t : Addr) (q : Key × V) => msk M H' t = some (.tup [kV q.1, q.2])) ts ws := by
    intro ts ws ht h
    induction h with
    | nil => exact .nil
    | cons h t ih => exact .cons (by rw [msk_at (nM (ht _ List.mem_cons_self))]; exact h) (ih (fun t' m' => ht t' (List.mem_cons_of_mem _ m')))
  have h7 := go ht h6
  exact pairs_reps h7 r'
/-- a new dict; what it holds does not lead back to it -/
def NewO {κ : Type} [DecidableEq κ] (c : KC κ) (H : Hp) (kvs : List (κ × D)) : V -> Hp -> Prop := fun y G => exists p ws, y = .ref p ∧ G p = some (c.hk ws) ∧ RepP (msk (fun b => b = p) G) kvs ws ∧ H p = none
theorem msk_msk {M N : MK} {H : Hp} : msk N (msk M H) = msk (fun b => M b ∨ N b) H := by
  funext b
  by_cases h1 : N b
  · cases z : msk (fun b => M b ∨ N b) H b with
    | none =>
      cases y : msk N (msk M H) b with
      | none => rfl
      | some o => exact absurd h1 (msk_of y).1
    | some o => exact absurd (Or.inr h1) (msk_of z).1
  · rw [msk_at h1]
    by_cases h2 : M b
    · cases z : msk (fun b => M b ∨ N b) H b with
      | none =>
        cases y : msk M H b with
        | none => rfl
        | some o => exact absurd h2 (msk_of y).1
      | some o => exact absurd (Or.inl h2) (msk_of z).1
    · rw [msk_at h2, msk_at fun z => z.elim h2 h1]
theorem ev_dictPN {kvs : List (Key × D)} (m : Mok M H) (h : EvDs M tr s H [.lst (kvs.map pairD)]) : Ev M (tCB (rDictP K) tr) s H (NewO kcK H (foldP kvs)) := ev_cb h fun vs H1 e1 rs Q q => by
  obtain ⟨x, xs, ev, rx, r0⟩ := rs
  have e4 : xs = [] := r0
  obtain ⟨a, ys, ea, ha, rs⟩ := rx
  subst e4 ev ea
  obtain ⟨ps, ws, e2, h2, h3⟩ := reps_pairs rs
  subst e2
  refine ⟨a, ps, ws, rfl, SqL.of (msk_same _ _ ha), Paired.mapP h2 fun p kv z => SqT.of (msk_same _ _ z), fun p hp => q _ _ (same_new hp) ⟨p, _, rfl, msk_new (m.up e1) hp, ?_, e1.free hp⟩⟩
  have z := RepP.merge (kvs := []) (ws := []) .nil h3
  refine z.fx (Fx.of fun b o hb => ?_)
  obtain ⟨n, hb⟩ := msk_of hb
  have nb : b ≠ p := ne_of_none hb hp
  rw [msk_at (M := fun b => b = p) (a := b) nb, msk_at n, upd_ne nb]
  exact hb
theorem ev_str_int {i : Int} (hz : i.natAbs.log2 < 1920) (h : EvDs M tr s H [.int i]) : EvD M (tCB rStr tr) s H (.str (toString i)) := ev_cb h fun vs H1 e1 rs Q q => by
  obtain ⟨x, xs, ev, rx, r0⟩ := rs
  have e4 : xs = [] := r0
  have e5 : x = V.int i := rx
  subst e4 e5 ev
  exact ⟨i, rfl, hz, q _ H1 (Same.refl H1) rfl⟩
theorem rd_neDF {ka kb : List (Key × D)} (hl : ka.length = kb.length) (h : forall p, p ∈ ka -> exists i : Int, p.2 = .int i ∧ vD kb p.1 = some (.int i)) : RD M rNeDF H (.dK ka) (.dK kb) (.bl false) := fun x y H1 _ rx ry Q q => by
  obtain ⟨a, wa, ex, ha, ra0⟩ := rx
  obtain ⟨b, wb, ey, hb, rb⟩ := ry
  have ra := repK_iff.mp ra0
  have rb := repK_iff.mp rb
  refine ⟨a, b, wa, wb, ex, ey, (rd_msk ha).2, (rd_msk hb).2, by rw [← Paired.length ra, ← Paired.length rb]; exact hl, fun p hp => ?_, q _ H1 (Same.refl H1) rfl⟩
  clear hl ha ex ra0
  induction ra with
  | nil => cases hp
  | @cons u v us vs huv t ih =>
    rcases List.mem_cons.mp hp with e | hp
    · obtain ⟨i, e1, e2⟩ := h u List.mem_cons_self
      rw [e]
      have hk : u.1 = v.1 := huv.1
      have hv : Rep (msk M H1) u.2 v.2 := huv.2
      rw [e1] at hv
      have ev : v.2 = V.int i := hv
      rw [ev, ← hk]
      rcases rb.val u.1 with ⟨z, _⟩ | ⟨d', w, z, z2, rw_⟩
      · rw [e2] at z
        cases z
      · rw [e2] at z
        cases z
        have ew : w = V.int i := rw_
        rw [z2, ew]
        exact ⟨rfl, rfl⟩
    · exact ih (fun p hp => h p (List.mem_cons_of_mem _ hp)) hp
/-! ### lists that grow -/
theorem st_extM {l : Addr} {i : Nat} {xs : List V} (hl : M l) (hi : s[i]? = some (some (.ref l))) (h0 : H l = some (.lst xs)) (he : EvD M te s H (.lst es)) (hz : xs.length + es.length ≤ 1000000)
    (nx : forall H2 ys, SameX l H H2 -> H2 l = some (.lst (xs ++ ys)) -> Reps (msk M H2) es ys -> E.nx (s.set i (some (.ref l))) H2) : tAug i te rExt2 E s H := ⟨_, hi, he H (Same.refl H) _ fun y H2 e2 ry => by
  obtain ⟨b, ys, ey, hb, rs⟩ := ry
  subst ey
  have h2 := e2 _ _ h0
  have len := rs.len
  refine ⟨l, b, xs, ys, rfl, rfl, h2, msk_same _ _ hb, by rw [sizeLine_eq]; omega, nx _ ys (fun c o n h => ?_) upd_same ?_⟩
  · rw [upd_ne n]
    exact e2 _ _ h
  · rw [msk_upd hl]
    exact rs⟩
/-! ### under locks -/
theorem LkX.refl {x : Addr} (H : Hp) : LkX x H H := fun b o n h => .inl h
theorem LkX.of {x : Addr} {H H' : Hp} (e : SameX x H H') : LkX x H H' := fun b o n h => .inl (e b o n h)
theorem LkX.ofL {x : Addr} {H H' : Hp} (e : Lk H H') : LkX x H H' := fun b o n h => e b o h
theorem LkX.trans {x : Addr} {H H1 H2 : Hp} (a : LkX x H H1) (b : LkX x H1 H2) : LkX x H H2 := fun c o n h => by
  rcases a c o n h with h1 | ⟨hd, od, h1⟩
  · exact b c o n h1
  · rcases b c _ n h1 with h2 | ⟨hd2, _⟩
    · exact .inr ⟨hd, od, h2⟩
    · rcases hd2 with ⟨k, e⟩ | ⟨k, e⟩ <;> cases e
theorem LkX.stay {x : Addr} {H H' : Hp} (a : LkX x H H') {b : Addr} {o : HO} (h : H b = some o) (nx : b ≠ x) (n : ¬ isDict o) : H' b = some o := (a b o nx h).elim id fun ⟨hd, _⟩ => absurd hd n
theorem LkX.fx {x : Addr} {H H' : Hp} (a : LkX x H H') (hx : M x) : Fx (msk M H) (msk M H') := by
  have rd : forall {b o}, isDict o -> Rd (msk M H) b o -> Rd (msk M H') b o := fun {b o} hd h => by
    obtain ⟨nm, h⟩ := rd_msk h
    have nx : b ≠ x := fun z => nm (by rw [z]; exact hx)
    have go : Rd H' b o := by
      rcases h with h | ⟨ob, h⟩
      · rcases a b o nx h with h1 | ⟨_, od, h1⟩
        · exact .inl h1
        · exact .inr ⟨od, h1⟩
      · exact .inr ⟨ob, (a b _ nx h).elim id fun ⟨hd2, _⟩ => by rcases hd2 with ⟨k, e⟩ | ⟨k, e⟩ <;> cases e⟩
    rcases go with h | ⟨ob, h⟩
    · exact .inl (by rw [msk_at nm]; exact h)
    · exact .inr ⟨ob, by rw [msk_at nm]; exact h⟩
  have keep : forall {b : Addr} {o : HO}, msk M H b = some o -> ¬ isDict o -> msk M H' b = some o := fun {b o} h n => by
    obtain ⟨nm, h⟩ := msk_of h
    rw [msk_at nm]
    exact LkX.stay a h (fun z => nm (by rw [z]; exact hx)) n
  refine ⟨fun h => keep h fun z => ?_, fun h => keep h fun z => ?_, fun h => keep h fun z => ?_, fun h => rd (.inl ⟨_, rfl⟩) h, fun h => rd (.inr ⟨_, rfl⟩) h⟩ <;> rcases z with ⟨k, e⟩ | ⟨k, e⟩ <;> cases e
theorem LkX.kp {x : Addr} {H H' : Hp} (a : LkX x H H') (hx : M x) (nf : forall o u, H x ≠ some (.frz o u)) : Kp M H H' := ⟨LkX.fx a hx, fun {b od u} h => LkX.stay a h (fun z => nf _ _ (by rw [← z]; exact h)) fun z => by rcases z with ⟨k, e⟩ | ⟨k, e⟩ <;> cases e⟩
variable {p a P0 : Addr} {q : Str} {ns : List Int} {H' : Hp} {ta tb : TE} {e : D}
open LamX (CodeO TabS Tabs)
theorem Lw.upL (l : Lw K p a P0 q ns H) (e : Lk H H') : Lw K p a P0 q ns H' := by
  have nd : forall {o : HO}, (forall k, o ≠ .dK k) -> (forall k, o ≠ .dT k) -> ¬ isDict o := fun h1 h2 z => by
    rcases z with ⟨k, e⟩ | ⟨k, e⟩
    · exact h1 k e
    · exact h2 k e
  obtain ⟨⟨k, hk, g⟩, scr, ps, g1, g2, g3⟩ := l
  refine ⟨⟨k, hk, Lk.stay e g (nd (fun k z => nomatch z) fun k z => nomatch z)⟩, ?_, ps, Lk.stay e g1 (nd (fun k z => nomatch z) fun k z => nomatch z), g2, fun pos cv hc => ?_⟩
  · rcases scr with (h | ⟨ob, h⟩) | h
    · exact .inl (.inl (Lk.stay e h (nd (fun k z => nomatch z) fun k z => nomatch z)))
    · exact .inl (.inr ⟨ob, Lk.stay e h (nd (fun k z => nomatch z) fun k z => nomatch z)⟩)
    · exact .inr h
  · obtain ⟨c, e1, e2⟩ := g3 pos cv hc
    exact ⟨c, e1, Lk.stay e e2 (nd (fun k z => nomatch z) fun k z => nomatch z)⟩
/-- a value that is made while lambdas are made, and dicts may be left locked -/
def EvF (K : PySem.W.Frag) (p a P0 : Addr) (q : Str) (ns : List Int) (te : TE) (s : L2.St) (H : Hp) (d : D) : Prop :=
  forall H1, LkX P0 H H1 -> Lw K p a P0 q ns H1 -> forall Q : VK, (forall v H2, LkX P0 H1 H2 -> Lw K p a P0 q ns H2 -> Rep (msk (LM p P0) H2) d v -> Q v H2) -> te s H1 Q
theorem ef_if {neg b : Bool} {ts us : TS} {E : Ends} (l : Lw K p a P0 q ns H) (h : EvF K p a P0 q ns ta s H d) (hb : forall H1, LkX P0 H H1 -> Lw K p a P0 q ns H1 -> EvD (LM p P0) tb s H1 e) (hr : forall H1, RD (LM p P0) (rEqU neg) H1 d e (.bl b))
    (k1 : b = true -> forall H2, LkX P0 H H2 -> Lw K p a P0 q ns H2 -> ts E s H2) (k2 : b = false -> forall H2, LkX P0 H H2 -> Lw K p a P0 q ns H2 -> us E s H2) : tIfS (tTest (tOp (rEqU neg) ta tb)) ts us E s H :=
  h H (LkX.refl H) l _ fun x H1 e1 l1 rx => hb H1 e1 l1 H1 (Same.refl H1) _ fun y H2 e2 ry => hr H2 x y H2 (Same.refl H2) (rx.up (msk_mono e2)) ry _ fun v H3 e3 rv => ⟨b, rv, by
    have e4 : LkX P0 H H3 := LkX.trans e1 (LkX.ofL (Lk.of (e2.trans e3)))
    have l4 := (l1.up e2).up e3
    cases b with
    | true => exact iteT (k1 rfl H3 e4 l4)
    | false => exact iteF (k2 rfl H3 e4 l4)⟩
theorem ef_ret {neg b : Bool} {E : Ends} (l : Lw K p a P0 q ns H) (h : EvF K p a P0 q ns ta s H d) (hb : forall H1, LkX P0 H H1 -> Lw K p a P0 q ns H1 -> EvD (LM p P0) tb s H1 e) (hr : forall H1, RD (LM p P0) (rEqU neg) H1 d e (.bl b))
    (k : forall H2, E.rt (.bl b) H2) : tRet (tOp (rEqU neg) ta tb) E s H :=
  h H (LkX.refl H) l _ fun x H1 e1 l1 rx => hb H1 e1 l1 H1 (Same.refl H1) _ fun y H2 e2 ry => hr H2 x y H2 (Same.refl H2) (rx.up (msk_mono e2)) ry _ fun v H3 e3 rv => by
    have ev : v = V.bl b := rv
    rw [ev]
    exact k H3
end
end Ak
/-! Ak 42: dicts that are written; drawn ones. -/
namespace Ak
open PySem PySem.Spec PyProof.Rows L2
section
variable {K : PySem.W.Frag} {M : MK} {s : L2.St} {H : Hp} {tr : TA}
theorem ev_dnew (m : Mok M H) : EvD M tDNewK s H (.dK []) := fun H1 e1 Q q p hp => q _ _ (same_new hp) ⟨p, [], rfl, .inl (msk_new (m.up e1) hp), repK_iff.mpr .nil⟩
def EvPs (N : MK) : List (TE × TE) -> L2.St -> Hp -> List (Key × D) -> Prop
  | [], _, _, kvs => kvs = []
  | (tk, tv) :: r, s, H, kvs => exists k d kvs', kvs = (k, d) :: kvs' ∧ EvD N tk s H (kD k) ∧ EvD N tv s H d ∧ EvPs N r s H kvs'
theorem evps_nil {N : MK} : EvPs N [] s H [] := rfl
theorem evps_cons {N : MK} {tk tv : TE} {r : List (TE × TE)} {k : Key} {d : D} {kvs : List (Key × D)} (hk : EvD N tk s H (kD k)) (hv : EvD N tv s H d) (hr : EvPs N r s H kvs) : EvPs N ((tk, tv) :: r) s H ((k, d) :: kvs) := ⟨k, d, kvs, rfl, hk, hv, hr⟩
theorem evps_run {N : MK} : forall {trs : List (TE × TE)} {kvs : List (Key × D)} {H3 : Hp}, EvPs N trs s H kvs -> Same H H3 -> forall Q : List (V × V) -> Hp -> Prop, (forall ws H4, Same H3 H4 -> RepP (msk N H4) kvs ws -> Q (ws.map fun kv => (kV kv.1, kv.2)) H4) -> tPairs trs s H3 Q
  | [], _, H3, h, _, Q, q => by
    rw [show _ = [] from h] at q
    exact q [] H3 (Same.refl H3) .nil
  | (tk, tv) :: r, _, H3, ⟨k, d, kvs', e, hk, hv, hr⟩, e3, Q, q => by
    subst e
    exact hk H3 e3 _ fun x H4 e4 rx => hv H4 (e3.trans e4) _ fun y H5 e5 ry => evps_run hr (e3.trans (e4.trans e5)) _ fun ws H6 e6 rp => by
      have ex : x = kV k := kD_val rx
      subst ex
      exact q ((k, y) :: ws) H6 (e4.trans (e5.trans e6)) (.cons ⟨rfl, ry.up (msk_mono e6)⟩ rp)
theorem ev_disp {trs : List (TE × TE)} {kvs : List (Key × D)} (m : Mok M H) (hz : kvs.length ≤ 15) (h : forall (N : MK) H', Mok N H' -> Same (msk M H) (msk N H') -> EvPs N trs s H' kvs) : EvD M (tDisp trs) s H (.dK (foldP kvs)) := fun H1 e1 Q q p hp => by
  have m1 := m.up e1
  have nM := m1.new hp
  let N : MK := fun b => M b ∨ b = p
  have e2 : Same H1 (upd H1 p (.dK [])) := same_new hp
  have h0 : upd H1 p (.dK []) p = some (.dK []) := upd_same
  generalize upd H1 p (.dK []) = H2 at e2 h0
  have m2 : Mok N H2 := (m1.up e2).add h0
  have low : Same (msk M H1) (msk N H2) := fun b o hb => by
    obtain ⟨n, hb⟩ := msk_of hb
    rw [msk_at fun z => z.elim n fun z => by rw [z, hp] at hb; cases hb]
    exact e2 b o hb
  refine evps_run (h N H2 m2 ((msk_mono e1).trans low)) (Same.refl H2) _ fun ws H4 e4 rp => ⟨e4 _ _ h0, ws, rfl, by rw [← Paired.length rp]; exact hz, ?_⟩
  refine q _ _ (fun b o hb => ?_) ⟨p, _, rfl, .inl (by rw [msk_at nM]; exact upd_same), repK_iff.mpr ?_⟩
  · rw [upd_ne (ne_of_none hb hp)]
    exact e4 _ _ (e2 _ _ hb)
  · have z := RepP.merge (kvs := []) (ws := []) .nil rp
    refine z.fx (Fx.of fun b o hb => ?_)
    obtain ⟨n, hb⟩ := msk_of hb
    rw [msk_at fun z => n (.inl z), upd_ne fun z => n (.inr z)]
    exact hb
theorem st_lstM {E : Ends} {i : Nat} {ds : List D} (h : EvDs M tr s H ds) (hz : ds.length ≤ 1000) (k : forall xs H2 lo, Same H H2 -> Reps (msk M H2) ds xs -> H2 lo = none -> E.nx (s.set i (some (.ref lo))) (upd H2 lo (.lst xs))) : tAsg (tLst tr) (gName i) E s H :=
  h H (Same.refl H) _ fun xs H2 e r => ⟨by rw [r.len, sizeLine_eq]; omega, fun lo hlo => k xs H2 lo e r hlo⟩
/-! ### drawn -/
variable {p a : Addr}
def EvCP (N : MK) (p a : Addr) (trs : List (TE × TE)) (s : L2.St) (H : Hp) (C : List (Key × D) -> Prop) : Prop :=
  forall H1, SameX p H H1 -> Drw p a H1 -> forall Q : List (V × V) -> Hp -> Prop, (forall kvs ws H2, C kvs -> SameX p H1 H2 -> Drw p a H2 -> RepP (msk N H2) kvs ws -> Q (ws.map fun kv => (kV kv.1, kv.2)) H2) -> tPairs trs s H1 Q
theorem ecp_nil {N : MK} : EvCP N p a [] s H (fun kvs => kvs = []) := fun H1 _ d1 Q q => q [] [] H1 rfl (SameX.refl H1) d1 .nil
theorem ecp_cons {N : MK} {tk tv : TE} {r : List (TE × TE)} {k : Key} {C1 : D -> Prop} {Cs : List (Key × D) -> Prop} (hN : N p) (hk : EvC N p a tk s H (fun d => d = kD k)) (hv : EvC N p a tv s H C1) (hr : EvCP N p a r s H Cs) : EvCP N p a ((tk, tv) :: r) s H (fun kvs => exists d kvs', kvs = (k, d) :: kvs' ∧ C1 d ∧ Cs kvs') := fun H1 e1 d1 Q q =>
  hk H1 e1 d1 _ fun dk x H2 ck e2 d2 rx => hv H2 (e1.trans e2) d2 _ fun d y H3 cd e3 d3 ry => hr H3 ((e1.trans e2).trans e3) d3 _ fun kvs ws H4 cs e4 d4 rp => by
    subst ck
    have ex : x = kV k := kD_val rx
    subst ex
    exact q ((k, d) :: kvs) ((k, y) :: ws) H4 ⟨d, kvs, rfl, cd, cs⟩ ((e2.trans e3).trans e4) d4 (.cons ⟨rfl, ry.up (e4.msk hN)⟩ rp)
theorem ec_disp {trs : List (TE × TE)} {C : List (Key × D) -> Prop} (m : Mok M H) (hp : M p) (hz : forall kvs, C kvs -> kvs.length ≤ 15) (h : forall (N : MK) H', Mok N H' -> N p -> SameX p H H' -> Drw p a H' -> Same (msk M H) (msk N H') -> EvCP N p a trs s H' C) : EvC M p a (tDisp trs) s H (fun d => exists kvs, C kvs ∧ d = .dK (foldP kvs)) := fun H1 e1 d1 Q q l hl => by
  have m1 := e1.mok d1 m
  have nM := m1.new hl
  have lp : l ≠ p := fun z => d1.ne (by rw [← z]; exact hl)
  let N : MK := fun b => M b ∨ b = l
  have e2 : Same H1 (upd H1 l (.dK [])) := same_new hl
  have h0 : upd H1 l (.dK []) l = some (.dK []) := upd_same
  generalize upd H1 l (.dK []) = H2 at e2 h0
  have m2 : Mok N H2 := (m1.up e2).add h0
  have low : Same (msk M H1) (msk N H2) := fun b o hb => by
    obtain ⟨n, hb⟩ := msk_of hb
    rw [msk_at fun z => z.elim n fun z => by rw [z, hl] at hb; cases hb]
    exact e2 b o hb
  refine h N H2 m2 (.inl hp) (e1.trans (SameX.of e2)) (d1.up e2) ((e1.msk hp).trans low) H2 (SameX.refl H2) (d1.up e2) _ fun kvs ws H4 c e4 d4 rp => ⟨e4 _ _ lp h0, ws, rfl, by rw [← Paired.length rp]; exact hz kvs c, ?_⟩
  refine q _ _ _ ⟨kvs, c, rfl⟩ (fun b o n hb => ?_) ?_ ⟨l, _, rfl, .inl (by rw [msk_at nM]; exact upd_same), repK_iff.mpr ?_⟩
  · rw [upd_ne (ne_of_none hb hl)]
    exact e4 _ _ n (e2 _ _ hb)
  · obtain ⟨k, hk, g⟩ := d4
    exact ⟨k, hk, by rw [upd_ne lp.symm]; exact g⟩
  · have z := RepP.merge (kvs := []) (ws := []) .nil rp
    refine z.fx (Fx.of fun b o hb => ?_)
    obtain ⟨n, hb⟩ := msk_of hb
    rw [msk_at fun z => n (.inl z), upd_ne fun z => n (.inr z)]
    exact hb
theorem st_asgC {te : TE} {g : TG} {E : Ends} {C : D -> Prop} (d0 : Drw p a H) (h : EvC M p a te s H C) (k : forall d v H2, C d -> SameX p H H2 -> Drw p a H2 -> Rep (msk M H2) d v -> g v s H2 E.nx) : tAsg te g E s H := h H (SameX.refl H) d0 _ k
theorem ec_makeD {C : Addr} {R : List D -> List (Str × D) -> Prop} {X : List D -> Addr -> List (Str × D) -> Prop} {E : XK} {dvs : List V} {dds : List D} {Cs : List D -> Prop} {F : List D -> List (Str × D)} (m : Mok M H) (hp : M p) (hd : forall G, Reps G dds dvs) (h : EvCs M p a tr s H Cs) (hR : forall ds, Cs ds -> R (ds ++ dds) (F ds)) :
    EvC M p a (tMake C (SpI C R X) dvs E tr) s H (fun d => exists ds, Cs ds ∧ d = .ins C (F ds)) := fun H1 e1 d1 Q q =>
  h H1 e1 d1 _ fun ds vs H2 c e2 d2 rs x dx hx hdx hne => make_ok ((e1.trans e2).mok d2 m) (Reps.app rs (hd _)) (hR ds c) (fun v H' e3 r => q _ v H' ⟨ds, c, rfl⟩ (e2.trans (SameX.of e3)) (d2.up e3) r) hx hdx hne
end
end Ak
/-! Ak 43: more data that are equal just when what they stand for is. -/
namespace Ak
open PySem PySem.Spec PyProof.Rows L2
def optD : Option Int -> D
  | none => .non
  | some j => .int j
def dHi : Dat (Option Int) := ⟨optD, 0, fun o => by cases o <;> rfl, fun o => by
  cases o with
  | none => exact Nat.le_refl 0
  | some j => exact dInt.dep j, fun x y => by
  cases x with
  | none =>
    cases y with
    | none => exact (decide_eq_true rfl).symm
    | some j =>
      rw [decide_eq_false (fun e => by cases e)]
      show PyData.eqv .none (.int j) = false
      simp [PyData.eqv]
  | some i =>
    cases y with
    | none =>
      rw [decide_eq_false (fun e => by cases e)]
      show PyData.eqv (.int i) .none = false
      simp [PyData.eqv]
    | some j =>
      refine (dInt.eqv i j).trans (decide_eq_decide.mpr ⟨fun e => by rw [e], fun e => by cases e; rfl⟩)⟩
section
variable {α β γ δ : Type} [DecidableEq α] [DecidableEq β] [DecidableEq γ] [DecidableEq δ]
def d4 (m : Dat α) (n : Dat β) (o : Dat γ) (q : Dat δ) : Dat (α × β × γ × δ) := ⟨fun x => .tup [m.d x.1, n.d x.2.1, o.d x.2.2.1, q.d x.2.2.2], max m.dp (max n.dp (max o.dp q.dp)) + 1, fun x => by
  show ((m.d x.1).pl && ((n.d x.2.1).pl && ((o.d x.2.2.1).pl && ((q.d x.2.2.2).pl && true)))) = true
  rw [m.pl, n.pl, o.pl, q.pl] <;> rfl, fun x => by
  show PyData.depth (.tuple [(m.d x.1).py, (n.d x.2.1).py, (o.d x.2.2.1).py, (q.d x.2.2.2).py]) ≤ _
  have h1 := m.dep x.1
  have h2 := n.dep x.2.1
  have h3 := o.dep x.2.2.1
  have h4 := q.dep x.2.2.2
  simp only [PyData.depth, PyData.depthAll]
  omega, fun x y => by
  show PyData.eqv (.tuple [(m.d x.1).py, (n.d x.2.1).py, (o.d x.2.2.1).py, (q.d x.2.2.2).py]) (.tuple [(m.d y.1).py, (n.d y.2.1).py, (o.d y.2.2.1).py, (q.d y.2.2.2).py]) = _
  simp only [PyData.eqv, PyData.eqvAll, m.eqv, n.eqv, o.eqv, q.eqv, Bool.and_true]
  rw [← Bool.decide_and, ← Bool.decide_and, ← Bool.decide_and]
  exact decide_eq_decide.mpr ⟨fun h => Prod.ext h.1 (Prod.ext h.2.1 (Prod.ext h.2.2.1 h.2.2.2)), fun h => by rw [h]; exact ⟨rfl, rfl, rfl, rfl⟩⟩⟩
end
end Ak
namespace K02
open PySem PySem.Spec PyProof.Rows L2 Ak
def top (i : Nat) : Stmt := (PySem.Challenge.pw_arrowkinds_k02_schemas).main.body.getD i (.Pass ⟨0, 0, 0, 0⟩)
abbrev s_BadSchema_init : Stmt := inClass (top 2) 0
theorem sc_BadSchema_init : FnScope ["self", "kind", "part"] ["self", "kind", "part"] (defScope s_BadSchema_init) := ⟨rfl, rfl, rfl, by decide +kernel, rfl, by decide +kernel, by decide +kernel⟩
abbrev s_BadName_init : Stmt := inClass (top 3) 0
theorem sc_BadName_init : FnScope ["self", "name"] ["self", "name"] (defScope s_BadName_init) := ⟨rfl, rfl, rfl, by decide +kernel, rfl, by decide +kernel, by decide +kernel⟩
abbrev s_is_name : Stmt := top 8
theorem sc_is_name : FnScope ["value", "sign"] ["value"] (defScope s_is_name) := ⟨rfl, rfl, rfl, by decide +kernel, rfl, by decide +kernel, by decide +kernel⟩
abbrev s_is_row : Stmt := top 9
theorem sc_is_row : FnScope ["value"] ["value"] (defScope s_is_row) := ⟨rfl, rfl, rfl, by decide +kernel, rfl, by decide +kernel, by decide +kernel⟩
abbrev s_is_number : Stmt := top 10
theorem sc_is_number : FnScope ["value", "least"] ["value", "least"] (defScope s_is_number) := ⟨rfl, rfl, rfl, by decide +kernel, rfl, by decide +kernel, by decide +kernel⟩
abbrev s_are_names : Stmt := top 15
theorem sc_are_names : FnScope ["value", "most", "one"] ["value", "most"] (defScope s_are_names) := ⟨rfl, rfl, rfl, by decide +kernel, rfl, by decide +kernel, by decide +kernel⟩
abbrev s_Row_init : Stmt := inClass (top 16) 0
theorem sc_Row_init : FnScope ["self", "low", "high", "musts", "nots"] ["self", "low", "high", "musts", "nots"] (defScope s_Row_init) := ⟨rfl, rfl, rfl, by decide +kernel, rfl, by decide +kernel, by decide +kernel⟩
abbrev s_Row_eq : Stmt := inClass (top 16) 1
theorem sc_Row_eq : FnScope ["self", "other"] ["self", "other"] (defScope s_Row_eq) := ⟨rfl, rfl, rfl, by decide +kernel, rfl, by decide +kernel, by decide +kernel⟩
abbrev s_Row_has : Stmt := inClass (top 16) 2
theorem sc_Row_has : FnScope ["self", "number"] ["self", "number"] (defScope s_Row_has) := ⟨rfl, rfl, rfl, by decide +kernel, rfl, by decide +kernel, by decide +kernel⟩
abbrev s_Kind_init : Stmt := inClass (top 17) 0
theorem sc_Kind_init : FnScope ["self", "colours", "rows", "label"] ["self", "colours", "rows"] (defScope s_Kind_init) := ⟨rfl, rfl, rfl, by decide +kernel, rfl, by decide +kernel, by decide +kernel⟩
abbrev s_Kind_eq : Stmt := inClass (top 17) 1
theorem sc_Kind_eq : FnScope ["self", "other"] ["self", "other"] (defScope s_Kind_eq) := ⟨rfl, rfl, rfl, by decide +kernel, rfl, by decide +kernel, by decide +kernel⟩
abbrev s_Kind_row : Stmt := inClass (top 17) 2
theorem sc_Kind_row : FnScope ["self", "label"] ["self", "label"] (defScope s_Kind_row) := ⟨rfl, rfl, rfl, by decide +kernel, rfl, by decide +kernel, by decide +kernel⟩
abbrev s_are_labels : Stmt := top 18
theorem sc_are_labels : FnScope ["rows", "label"] ["rows"] (defScope s_are_labels) := ⟨rfl, rfl, rfl, by decide +kernel, rfl, by decide +kernel, by decide +kernel⟩
abbrev s_is_told_row : Stmt := top 19
theorem sc_is_told_row : FnScope ["row", "kinds", "highest", "name"] ["row", "kinds", "highest"] (defScope s_is_told_row) := ⟨rfl, rfl, rfl, by decide +kernel, rfl, by decide +kernel, by decide +kernel⟩
abbrev s_Schema_init : Stmt := inClass (top 20) 2
theorem sc_Schema_init : FnScope ["self", "colours", "labels", "kinds", "name", "kind"] ["self", "colours", "labels", "kinds"] (defScope s_Schema_init) := ⟨rfl, rfl, rfl, by decide +kernel, rfl, by decide +kernel, by decide +kernel⟩
abbrev s_Schema_check_kind : Stmt := inClass (top 20) 3
theorem sc_Schema_check_kind : FnScope ["self", "name", "kind", "colour", "label", "row"] ["self", "name", "kind"] (defScope s_Schema_check_kind) := ⟨rfl, rfl, rfl, by decide +kernel, rfl, by decide +kernel, by decide +kernel⟩
abbrev s_Schema_eq : Stmt := inClass (top 20) 4
theorem sc_Schema_eq : FnScope ["self", "other"] ["self", "other"] (defScope s_Schema_eq) := ⟨rfl, rfl, rfl, by decide +kernel, rfl, by decide +kernel, by decide +kernel⟩
abbrev s_Schema_check : Stmt := inClass (top 20) 5
theorem sc_Schema_check : FnScope ["self", "names", "name"] ["self", "names"] (defScope s_Schema_check) := ⟨rfl, rfl, rfl, by decide +kernel, rfl, by decide +kernel, by decide +kernel⟩
abbrev s_strata_of : Stmt := top 21
theorem sc_strata_of : FnScope ["kinds", "found", "name", "is_done", "kind", "least", "row", "one"] ["kinds"] (defScope s_strata_of) := ⟨rfl, rfl, rfl, by decide +kernel, rfl, by decide +kernel, by decide +kernel⟩
abbrev s__law_number : Stmt := top 23
theorem sc__law_number : FnScope ["script", "index", "cell", "turn", "rest", "step", "blend"] ["script", "index"] (defScope s__law_number) := ⟨rfl, rfl, rfl, by decide +kernel, rfl, by decide +kernel, by decide +kernel⟩
abbrev s__law_take : Stmt := top 24
theorem sc__law_take : FnScope ["draw", "many"] ["draw", "many"] (defScope s__law_take) := ⟨rfl, rfl, rfl, by decide +kernel, rfl, by decide +kernel, by decide +kernel⟩
abbrev s__law_pick : Stmt := top 25
theorem sc__law_pick : FnScope ["draw", "items"] ["draw", "items"] (defScope s__law_pick) := ⟨rfl, rfl, rfl, by decide +kernel, rfl, by decide +kernel, by decide +kernel⟩
abbrev s__law_schema : Stmt := top 26
theorem sc__law_schema : FnScope ["draw", "many", "colours", "labels", "names", "strata", "kinds", "name", "rows", "label", "kind", "low", "high", "musts", "one", "nots"] ["draw", "many"] (defScope s__law_schema) := ⟨rfl, rfl, rfl, by decide +kernel, rfl, by decide +kernel, by decide +kernel⟩
abbrev s__law_make : Stmt := top 27
theorem sc__law_make : FnScope ["kinds", "made", "name", "colours", "rows", "label", "low", "high", "musts", "nots"] ["kinds"] (defScope s__law_make) := ⟨rfl, rfl, rfl, by decide +kernel, rfl, by decide +kernel, by decide +kernel⟩
abbrev s__law_fault : Stmt := top 28
theorem sc__law_fault : FnScope ["deed", "fault"] ["deed"] (defScope s__law_fault) := ⟨rfl, rfl, rfl, by decide +kernel, rfl, by decide +kernel, by decide +kernel⟩
abbrev s_law : Stmt := top 29
theorem sc_law : FnScope ["script", "draw", "kinds", "strata", "schema", "names", "name", "colours", "rows", "mine", "label", "low", "high", "musts", "nots", "row", "number", "again", "told", "parts", "one", "odd", "wrong", "part", "ring", "straight", "labels", "some", "due"] ["script"] (defScope s_law) := ⟨rfl, rfl, rfl, by decide +kernel, rfl, by decide +kernel, by decide +kernel⟩
/-- what the walk needs of the top -/
structure Tx (K : PySem.W.Frag) (mg : Str -> Option Value) where
  n_len : mg "len" = none
  n_isinstance : mg "isinstance" = none
  n_all : mg "all" = none
  n_any : mg "any" = none
  n_max : mg "max" = none
  n_sorted : mg "sorted" = none
  n_tuple : mg "tuple" = none
  n_list : mg "list" = none
  n_int : mg "int" = none
  n_str : mg "str" = none
  n_bool : mg "bool" = none
  n_dict : mg "dict" = none
  n_range : mg "range" = none
  c_SMALL : exists t, mg "SMALL" = some (.str "abcdefghijklmnopqrstuvwxyz" t)
  c_FIGURES : exists t, mg "FIGURES" = some (.str "0123456789" t)
  c_MOST_NAME : exists t, mg "MOST_NAME" = some (.int 8 t)
  c_MOST_COLOURS : exists t, mg "MOST_COLOURS" = some (.int 6 t)
  c_MOST_LABELS : exists t, mg "MOST_LABELS" = some (.int 4 t)
  c_MOST_KINDS : exists t, mg "MOST_KINDS" = some (.int 16 t)
  f_BadSchema_init : Addr
  d_BadSchema_init : FuncData
  F_BadSchema_init : FunD K "__init__" "BadSchema.__init__" (defArgs s_BadSchema_init) (defBody s_BadSchema_init) (defScope s_BadSchema_init) [] [] f_BadSchema_init d_BadSchema_init
  f_BadName_init : Addr
  d_BadName_init : FuncData
  F_BadName_init : FunD K "__init__" "BadName.__init__" (defArgs s_BadName_init) (defBody s_BadName_init) (defScope s_BadName_init) [] [] f_BadName_init d_BadName_init
  f_is_name : Addr
  d_is_name : FuncData
  F_is_name : FunD K "is_name" "is_name" (defArgs s_is_name) (defBody s_is_name) (defScope s_is_name) [] [] f_is_name d_is_name
  g_is_name : mg "is_name" = some (.ref f_is_name)
  f_is_row : Addr
  d_is_row : FuncData
  F_is_row : FunD K "is_row" "is_row" (defArgs s_is_row) (defBody s_is_row) (defScope s_is_row) [] [] f_is_row d_is_row
  g_is_row : mg "is_row" = some (.ref f_is_row)
  f_is_number : Addr
  d_is_number : FuncData
  F_is_number : FunD K "is_number" "is_number" (defArgs s_is_number) (defBody s_is_number) (defScope s_is_number) [] [] f_is_number d_is_number
  g_is_number : mg "is_number" = some (.ref f_is_number)
  f_are_names : Addr
  d_are_names : FuncData
  F_are_names : FunD K "are_names" "are_names" (defArgs s_are_names) (defBody s_are_names) (defScope s_are_names) [] [] f_are_names d_are_names
  g_are_names : mg "are_names" = some (.ref f_are_names)
  f_Row_init : Addr
  d_Row_init : FuncData
  e_Row_init_0 : Addr
  e_Row_init_1 : Addr
  F_Row_init : FunD K "__init__" "Row.__init__" (defArgs s_Row_init) (defBody s_Row_init) (defScope s_Row_init) [.ref e_Row_init_0, .ref e_Row_init_1] [] f_Row_init d_Row_init
  f_Row_eq : Addr
  d_Row_eq : FuncData
  F_Row_eq : FunD K "__eq__" "Row.__eq__" (defArgs s_Row_eq) (defBody s_Row_eq) (defScope s_Row_eq) [] [] f_Row_eq d_Row_eq
  f_Row_has : Addr
  d_Row_has : FuncData
  F_Row_has : FunD K "has" "Row.has" (defArgs s_Row_has) (defBody s_Row_has) (defScope s_Row_has) [] [] f_Row_has d_Row_has
  f_Kind_init : Addr
  d_Kind_init : FuncData
  F_Kind_init : FunD K "__init__" "Kind.__init__" (defArgs s_Kind_init) (defBody s_Kind_init) (defScope s_Kind_init) [] [] f_Kind_init d_Kind_init
  f_Kind_eq : Addr
  d_Kind_eq : FuncData
  F_Kind_eq : FunD K "__eq__" "Kind.__eq__" (defArgs s_Kind_eq) (defBody s_Kind_eq) (defScope s_Kind_eq) [] [] f_Kind_eq d_Kind_eq
  f_Kind_row : Addr
  d_Kind_row : FuncData
  F_Kind_row : FunD K "row" "Kind.row" (defArgs s_Kind_row) (defBody s_Kind_row) (defScope s_Kind_row) [] [] f_Kind_row d_Kind_row
  f_are_labels : Addr
  d_are_labels : FuncData
  F_are_labels : FunD K "are_labels" "are_labels" (defArgs s_are_labels) (defBody s_are_labels) (defScope s_are_labels) [] [] f_are_labels d_are_labels
  g_are_labels : mg "are_labels" = some (.ref f_are_labels)
  f_is_told_row : Addr
  d_is_told_row : FuncData
  F_is_told_row : FunD K "is_told_row" "is_told_row" (defArgs s_is_told_row) (defBody s_is_told_row) (defScope s_is_told_row) [] [] f_is_told_row d_is_told_row
  g_is_told_row : mg "is_told_row" = some (.ref f_is_told_row)
  f_Schema_init : Addr
  d_Schema_init : FuncData
  F_Schema_init : FunD K "__init__" "Schema.__init__" (defArgs s_Schema_init) (defBody s_Schema_init) (defScope s_Schema_init) [] [] f_Schema_init d_Schema_init
  f_Schema_check_kind : Addr
  d_Schema_check_kind : FuncData
  F_Schema_check_kind : FunD K "check_kind" "Schema.check_kind" (defArgs s_Schema_check_kind) (defBody s_Schema_check_kind) (defScope s_Schema_check_kind) [] [] f_Schema_check_kind d_Schema_check_kind
  f_Schema_eq : Addr
  d_Schema_eq : FuncData
  F_Schema_eq : FunD K "__eq__" "Schema.__eq__" (defArgs s_Schema_eq) (defBody s_Schema_eq) (defScope s_Schema_eq) [] [] f_Schema_eq d_Schema_eq
  f_Schema_check : Addr
  d_Schema_check : FuncData
  F_Schema_check : FunD K "check" "Schema.check" (defArgs s_Schema_check) (defBody s_Schema_check) (defScope s_Schema_check) [] [] f_Schema_check d_Schema_check
  f_strata_of : Addr
  d_strata_of : FuncData
  F_strata_of : FunD K "strata_of" "strata_of" (defArgs s_strata_of) (defBody s_strata_of) (defScope s_strata_of) [] [] f_strata_of d_strata_of
  g_strata_of : mg "strata_of" = some (.ref f_strata_of)
  f__law_number : Addr
  d__law_number : FuncData
  F__law_number : FunD K "_law_number" "_law_number" (defArgs s__law_number) (defBody s__law_number) (defScope s__law_number) [] [] f__law_number d__law_number
  g__law_number : mg "_law_number" = some (.ref f__law_number)
  f__law_take : Addr
  d__law_take : FuncData
  F__law_take : FunD K "_law_take" "_law_take" (defArgs s__law_take) (defBody s__law_take) (defScope s__law_take) [] [] f__law_take d__law_take
  g__law_take : mg "_law_take" = some (.ref f__law_take)
  f__law_pick : Addr
  d__law_pick : FuncData
  F__law_pick : FunD K "_law_pick" "_law_pick" (defArgs s__law_pick) (defBody s__law_pick) (defScope s__law_pick) [] [] f__law_pick d__law_pick
  g__law_pick : mg "_law_pick" = some (.ref f__law_pick)
  f__law_schema : Addr
  d__law_schema : FuncData
  F__law_schema : FunD K "_law_schema" "_law_schema" (defArgs s__law_schema) (defBody s__law_schema) (defScope s__law_schema) [] [] f__law_schema d__law_schema
  g__law_schema : mg "_law_schema" = some (.ref f__law_schema)
  f__law_make : Addr
  d__law_make : FuncData
  F__law_make : FunD K "_law_make" "_law_make" (defArgs s__law_make) (defBody s__law_make) (defScope s__law_make) [] [] f__law_make d__law_make
  g__law_make : mg "_law_make" = some (.ref f__law_make)
  f__law_fault : Addr
  d__law_fault : FuncData
  F__law_fault : FunD K "_law_fault" "_law_fault" (defArgs s__law_fault) (defBody s__law_fault) (defScope s__law_fault) [] [] f__law_fault d__law_fault
  g__law_fault : mg "_law_fault" = some (.ref f__law_fault)
  f_law : Addr
  d_law : FuncData
  F_law : FunD K "law" "law" (defArgs s_law) (defBody s_law) (defScope s_law) [] [] f_law d_law
  g_law : mg "law" = some (.ref f_law)
  C_StoreError : Addr
  g_StoreError : mg "StoreError" = some (.ref C_StoreError)
  C_BadSchema : Addr
  g_BadSchema : mg "BadSchema" = some (.ref C_BadSchema)
  ox_BadSchema : OexC K C_BadSchema
  i_BadSchema : PySem.W.findIn K (.ref C_BadSchema) "__init__" = some (some (.ref f_BadSchema_init))
  t_BadSchema : PySem.W.typeIn K (.ref f_BadSchema_init) = some (.type "function")
  na_BadSchema_kind : NoAttr K C_BadSchema "kind"
  na_BadSchema_part : NoAttr K C_BadSchema "part"
  C_BadName : Addr
  g_BadName : mg "BadName" = some (.ref C_BadName)
  ox_BadName : OexC K C_BadName
  i_BadName : PySem.W.findIn K (.ref C_BadName) "__init__" = some (some (.ref f_BadName_init))
  t_BadName : PySem.W.typeIn K (.ref f_BadName_init) = some (.type "function")
  na_BadName_name : NoAttr K C_BadName "name"
  C_Row : Addr
  g_Row : mg "Row" = some (.ref C_Row)
  cls_Row : Cls K C_Row
  mk_Row : Mk K C_Row f_Row_init
  eq_Row : EqC K C_Row f_Row_eq
  is_Row : IsC K C_Row
  m_Row_has : Meth K C_Row "has" f_Row_has
  na_Row_low : NoAttr K C_Row "low"
  na_Row_high : NoAttr K C_Row "high"
  na_Row_musts : NoAttr K C_Row "musts"
  na_Row_nots : NoAttr K C_Row "nots"
  C_Kind : Addr
  g_Kind : mg "Kind" = some (.ref C_Kind)
  cls_Kind : Cls K C_Kind
  mk_Kind : Mk K C_Kind f_Kind_init
  eq_Kind : EqC K C_Kind f_Kind_eq
  is_Kind : IsC K C_Kind
  m_Kind_row : Meth K C_Kind "row" f_Kind_row
  na_Kind_colours : NoAttr K C_Kind "colours"
  na_Kind_rows : NoAttr K C_Kind "rows"
  C_Schema : Addr
  g_Schema : mg "Schema" = some (.ref C_Schema)
  cls_Schema : Cls K C_Schema
  mk_Schema : Mk K C_Schema f_Schema_init
  eq_Schema : EqC K C_Schema f_Schema_eq
  is_Schema : IsC K C_Schema
  m_Schema_check_kind : Meth K C_Schema "check_kind" f_Schema_check_kind
  m_Schema_check : Meth K C_Schema "check" f_Schema_check
  na_Schema_colours : NoAttr K C_Schema "colours"
  na_Schema_labels : NoAttr K C_Schema "labels"
  na_Schema_kinds : NoAttr K C_Schema "kinds"
  na_Schema_strata : NoAttr K C_Schema "strata"
  con_Schema_most : exists u, Con K C_Schema "most" (.int 16) u
  con_Schema_highest : exists u, Con K C_Schema "highest" (.int 9) u
  c_law : Addr
  L_law : exists (oc : Value) (od : Option Addr) (dV kV doc pm : Value) (an : Option Addr) (ct : Value) (osl : Array (Option Value)), d_law = PySem.W.fnOf "law" "law" (defArgs s_law) (defBody s_law) (defScope s_law) dV kV doc pm an (.ref c_law) ct ∧ K.lookup f_law = some ⟨oc, od, .func d_law, osl⟩ ∧ PySem.W.codeIn K (.ref c_law) "law" = true
  xf_BadName : XfC K C_BadName
  ec_BadName : ExcC K C_BadName
  exm_BadName_BadSchema : PySem.W.exmOne K (.ref C_BadName) (.ref C_BadSchema) = some false
  exm_BadName_BadName : PySem.W.exmOne K (.ref C_BadName) (.ref C_BadName) = some true
  xf_BadSchema : XfC K C_BadSchema
  ec_BadSchema : ExcC K C_BadSchema
  exm_BadSchema_BadSchema : PySem.W.exmOne K (.ref C_BadSchema) (.ref C_BadSchema) = some true
  exm_BadSchema_BadName : PySem.W.exmOne K (.ref C_BadSchema) (.ref C_BadName) = some false
  kt_tuple_Row : PySem.W.kitOne K (.type "tuple") (.ref C_Row) = some false
  kt_NoneType_Kind : PySem.W.kitOne K (.type "NoneType") (.ref C_Kind) = some false
  E_Row_init_0 : ET K e_Row_init_0
  E_Row_init_1 : ET K e_Row_init_1
  q_Row : Meth K C_Row "__eq__" f_Row_eq
  q_Kind : Meth K C_Kind "__eq__" f_Kind_eq
  q_Schema : Meth K C_Schema "__eq__" f_Schema_eq
section
variable {K : PySem.W.Frag} {mg : Str -> Option Value}
theorem Tx.B_BadSchema_init (T : Tx K mg) : Binds K T.d_BadSchema_init ["self", "kind", "part"] [] := T.F_BadSchema_init.bindsN fun _ _ _ _ _ _ us hl => match us, hl with | [_, _, _], _ => rfl
theorem Tx.B_BadName_init (T : Tx K mg) : Binds K T.d_BadName_init ["self", "name"] [] := T.F_BadName_init.bindsN fun _ _ _ _ _ _ us hl => match us, hl with | [_, _], _ => rfl
theorem Tx.B_is_name (T : Tx K mg) : Binds K T.d_is_name ["value"] [] := T.F_is_name.bindsN fun _ _ _ _ _ _ us hl => match us, hl with | [_], _ => rfl
theorem Tx.B_is_row (T : Tx K mg) : Binds K T.d_is_row ["value"] [] := T.F_is_row.bindsN fun _ _ _ _ _ _ us hl => match us, hl with | [_], _ => rfl
theorem Tx.B_is_number (T : Tx K mg) : Binds K T.d_is_number ["value", "least"] [] := T.F_is_number.bindsN fun _ _ _ _ _ _ us hl => match us, hl with | [_, _], _ => rfl
theorem Tx.B_are_names (T : Tx K mg) : Binds K T.d_are_names ["value", "most"] [] := T.F_are_names.bindsN fun _ _ _ _ _ _ us hl => match us, hl with | [_, _], _ => rfl
theorem Tx.B_Row_init_3 (T : Tx K mg) : exists ds, Vals ([.ref T.e_Row_init_0, .ref T.e_Row_init_1] : List V) ds ∧ Binds K T.d_Row_init ["self", "low", "high", "musts", "nots"] ds := T.F_Row_init.binds1 3 0 (by simp) rfl fun _ _ _ _ _ _ _ us its hl hi => match us, its, hl, hi with | [_, _, _], [_, _], _, _ => ⟨_, rfl, rfl⟩
theorem Tx.B_Row_init_4 (T : Tx K mg) : exists ds, Vals ([.ref T.e_Row_init_1] : List V) ds ∧ Binds K T.d_Row_init ["self", "low", "high", "musts", "nots"] ds := T.F_Row_init.binds1 4 1 (by simp) rfl fun _ _ _ _ _ _ _ us its hl hi => match us, its, hl, hi with | [_, _, _, _], [_, _], _, _ => ⟨_, rfl, rfl⟩
theorem Tx.B_Row_init_5 (T : Tx K mg) : exists ds, Vals ([] : List V) ds ∧ Binds K T.d_Row_init ["self", "low", "high", "musts", "nots"] ds := T.F_Row_init.binds1 5 2 (by simp) rfl fun _ _ _ _ _ _ _ us its hl hi => match us, its, hl, hi with | [_, _, _, _, _], [_, _], _, _ => ⟨_, rfl, rfl⟩
theorem Tx.B_Row_eq (T : Tx K mg) : Binds K T.d_Row_eq ["self", "other"] [] := T.F_Row_eq.bindsN fun _ _ _ _ _ _ us hl => match us, hl with | [_, _], _ => rfl
theorem Tx.B_Row_has (T : Tx K mg) : Binds K T.d_Row_has ["self", "number"] [] := T.F_Row_has.bindsN fun _ _ _ _ _ _ us hl => match us, hl with | [_, _], _ => rfl
theorem Tx.B_Kind_init (T : Tx K mg) : Binds K T.d_Kind_init ["self", "colours", "rows"] [] := T.F_Kind_init.bindsN fun _ _ _ _ _ _ us hl => match us, hl with | [_, _, _], _ => rfl
theorem Tx.B_Kind_eq (T : Tx K mg) : Binds K T.d_Kind_eq ["self", "other"] [] := T.F_Kind_eq.bindsN fun _ _ _ _ _ _ us hl => match us, hl with | [_, _], _ => rfl
theorem Tx.B_Kind_row (T : Tx K mg) : Binds K T.d_Kind_row ["self", "label"] [] := T.F_Kind_row.bindsN fun _ _ _ _ _ _ us hl => match us, hl with | [_, _], _ => rfl
theorem Tx.B_are_labels (T : Tx K mg) : Binds K T.d_are_labels ["rows"] [] := T.F_are_labels.bindsN fun _ _ _ _ _ _ us hl => match us, hl with | [_], _ => rfl
theorem Tx.B_is_told_row (T : Tx K mg) : Binds K T.d_is_told_row ["row", "kinds", "highest"] [] := T.F_is_told_row.bindsN fun _ _ _ _ _ _ us hl => match us, hl with | [_, _, _], _ => rfl
theorem Tx.B_Schema_init (T : Tx K mg) : Binds K T.d_Schema_init ["self", "colours", "labels", "kinds"] [] := T.F_Schema_init.bindsN fun _ _ _ _ _ _ us hl => match us, hl with | [_, _, _, _], _ => rfl
theorem Tx.B_Schema_check_kind (T : Tx K mg) : Binds K T.d_Schema_check_kind ["self", "name", "kind"] [] := T.F_Schema_check_kind.bindsN fun _ _ _ _ _ _ us hl => match us, hl with | [_, _, _], _ => rfl
theorem Tx.B_Schema_eq (T : Tx K mg) : Binds K T.d_Schema_eq ["self", "other"] [] := T.F_Schema_eq.bindsN fun _ _ _ _ _ _ us hl => match us, hl with | [_, _], _ => rfl
theorem Tx.B_Schema_check (T : Tx K mg) : Binds K T.d_Schema_check ["self", "names"] [] := T.F_Schema_check.bindsN fun _ _ _ _ _ _ us hl => match us, hl with | [_, _], _ => rfl
theorem Tx.B_strata_of (T : Tx K mg) : Binds K T.d_strata_of ["kinds"] [] := T.F_strata_of.bindsN fun _ _ _ _ _ _ us hl => match us, hl with | [_], _ => rfl
theorem Tx.B__law_number (T : Tx K mg) : Binds K T.d__law_number ["script", "index"] [] := T.F__law_number.bindsN fun _ _ _ _ _ _ us hl => match us, hl with | [_, _], _ => rfl
theorem Tx.B__law_take (T : Tx K mg) : Binds K T.d__law_take ["draw", "many"] [] := T.F__law_take.bindsN fun _ _ _ _ _ _ us hl => match us, hl with | [_, _], _ => rfl
theorem Tx.B__law_pick (T : Tx K mg) : Binds K T.d__law_pick ["draw", "items"] [] := T.F__law_pick.bindsN fun _ _ _ _ _ _ us hl => match us, hl with | [_, _], _ => rfl
theorem Tx.B__law_schema (T : Tx K mg) : Binds K T.d__law_schema ["draw", "many"] [] := T.F__law_schema.bindsN fun _ _ _ _ _ _ us hl => match us, hl with | [_, _], _ => rfl
theorem Tx.B__law_make (T : Tx K mg) : Binds K T.d__law_make ["kinds"] [] := T.F__law_make.bindsN fun _ _ _ _ _ _ us hl => match us, hl with | [_], _ => rfl
theorem Tx.B__law_fault (T : Tx K mg) : Binds K T.d__law_fault ["deed"] [] := T.F__law_fault.bindsN fun _ _ _ _ _ _ us hl => match us, hl with | [_], _ => rfl
theorem Tx.B_law (T : Tx K mg) : Binds K T.d_law ["script"] [] := T.F_law.bindsN fun _ _ _ _ _ _ us hl => match us, hl with | [_], _ => rfl
end
end K02
namespace K02
open PySem PySem.Spec PyProof.Rows L2 Ak
section
variable {P : Program} {w : World} {K : PySem.W.Frag} {mg : Str -> Option Value} {base : Heap}
/-! ### names -/
def smallL : List Nat := ("abcdefghijklmnopqrstuvwxyz" : Str).cps.toList
def figL : List Nat := ("0123456789" : Str).cps.toList
def nameS (x : Str) : Bool := decide (1 ≤ x.length) && (decide (x.length ≤ 8) && (match x.cps.toList with
  | [] => false
  | c :: cs => decide (c ∈ smallL) && (c :: cs).all fun c => decide (c ∈ smallL) || decide (c ∈ figL)))
def isNm : D -> Bool
  | .str x => nameS x
  | _ => false
def okSign : D -> Bool
  | .str x => x.cps.toList.all fun c => decide (c ∈ smallL) || decide (c ∈ figL)
  | _ => false
def R_is_name : List D -> D -> Prop := fun ds z => exists d, ds = [d] ∧ d.fi = true ∧ z = .bl (isNm d)
theorem isB_str {d : D} (h : isB d "str" = true) (hf : d.fi = true) : exists x, d = .str x := by
  cases d with
  | str x => exact ⟨x, rfl⟩
  | oth v => cases (show false = true from hf)
  | ins C fs => cases (show false = true from hf)
  | dK k => cases (show false = true from hf)
  | dT k => cases (show false = true from hf)
  | _ => simp [isB, D.tn] at h
theorem ok_is_name (T : Tx K mg) : FnOk P w K mg base (L2.CX P w) 1 T.f_is_name T.d_is_name ["value"] (SpR R_is_name) := by
  refine T.F_is_name.ok sc_is_name (fun _ _ _ _ h => SpR.len (n := 1) (fun ds z ⟨d, e, _⟩ => by rw [e] <;> rfl) h) (fun cdv A outer s H vs Q E hr h => ⟨_, (pss_cons (ps_if (PW.pt (pw_or (pt_not (pt_val (pe_callB call_isi rfl T.n_isinstance PyProof.Rows.boot_isinstance (pa_cons (pv 0) (pa_cons (pe_bltn (v := .ty "str") rfl T.n_str PyProof.Rows.boot_str rfl) pa_nil))))) (pw_or (pt_not (pt_chain op_le op_le pe_int (pe_callB call_lenU rfl T.n_len PySem.boot_len (by exact (pa_cons (pv 0) pa_nil))) (pe_glob (v := .int 8) rfl T.c_MOST_NAME.choose_spec ⟨_, rfl⟩))) (pw_or1 (pt_cmpR (op_notInU hr.units) (pe_ix ix_seq (pv 0) pe_int (fun _ _ => rfl)) (pe_glob (v := .str "abcdefghijklmnopqrstuvwxyz") rfl T.c_SMALL.choose_spec ⟨_, rfl⟩) (by with_unfolding_all rfl)))))) (pss_one (ps_ret pe_bl)) pss_nil)
      (pss_one (ps_ret (pe_callB (cr_all rfl) rfl T.n_all PyProof.Rows.boot_all (by exact (pa_cons (pe_lc (own := [("sign", 1)]) (g := (gName 1)) (tt := tYes) (te := (tOrV (tOp (rInU false) (tVar 1) (tC (.str "abcdefghijklmnopqrstuvwxyz"))) (tOp (rInU false) (tVar 1) (tC (.str "0123456789"))))) rfl sc_is_name.nd (pi_any (pv 0)) (blkOk_by (own := [("sign", 1)]) (N := ["value", "sign"]) (sc := (defScope s_is_name)) (by decide +kernel)) (fun _ _ _ _ _ => by exact (pg_name (i := 1) sc_is_name.nd rfl (.inl rfl))) (fun _ _ _ _ _ => by exact pts_nil) (fun _ _ _ _ _ => by exact (pe_or (pe_cmpR (op_inU hr.units) (pv 1) (pe_glob (v := .str "abcdefghijklmnopqrstuvwxyz") rfl T.c_SMALL.choose_spec ⟨_, rfl⟩) (by with_unfolding_all rfl)) (pe_one (pe_cmpR (op_inU hr.units) (pv 1) (pe_glob (v := .str "0123456789") rfl T.c_FIGURES.choose_spec ⟨_, rfl⟩) (by with_unfolding_all rfl)))))) pa_nil)))))), ?_⟩)
  obtain ⟨M, ds, z, m, rs, ⟨d, rfl, hf, rfl⟩, q⟩ := h
  obtain ⟨v, rfl, r⟩ := rs.one_of
  by_cases hs : exists x, d = .str x
  · obtain ⟨x, rfl⟩ := hs
    have hx := fi_str hf
    have isi : EvT (tNot (tB (tCB (rIsi K) (tCons (tVar 0) (tCons (tC (V.ty "str")) tNil))))) (L2.start ["value", "sign"] [v]) H false := et_not (et_B (ev_isi (M := M) (ea_cons (ev_var rfl r) (ea_one ev_ty)) (fi_tn hf) (fi_dT hf) (by decide)))
    by_cases hl : 1 ≤ x.length ∧ x.length ≤ 8
    · obtain ⟨c, cs, hc⟩ : exists c cs, x.cps.toList = c :: cs := by
        cases q : x.cps.toList with
        | nil =>
          have h0 : x.length = 0 := by
            show x.cps.size = 0
            rw [← Array.length_toList, q] <;> rfl
          omega
        | cons c cs => exact ⟨c, cs, rfl⟩
      have lenT : decide ((1 : Int) ≤ (x.length : Int)) = true := decide_eq_true (by omega)
      have lenT2 : decide ((x.length : Int) ≤ 8) = true := decide_eq_true (by omega)
      refine st_seq (st_if (b := !decide (c ∈ smallL)) (et_orF isi (et_orF (et_not (b := true) (et_test (M := M) (Ev.to (ev_chainLe ev_int (ev_len (ea_one (ev_var rfl r)) rfl (fi_dT hf) fun y e => by cases e; exact fi_strL hf) ev_int) (by rw [lenT, lenT2] <;> rfl)))) (et_test (M := M) (ev_op (ev_op (ev_var rfl r) ev_int (rd_ixS (fi_strL hf) (c := c) (by rw [hc]; exact atI_nat (j := 0) rfl))) ev_str rd_inSU)))) (fun h H2 e2 => ?_) fun h H2 e2 => ?_)
      · refine st_ret (M := M) ev_bl fun y H3 e3 ry => q y H3 (e2.trans e3) (Rep.to ry ?_)
        show D.bl false = .bl (nameS x)
        have h1 : decide (c ∈ smallL) = false := by simpa using h
        unfold nameS
        rw [hc]
        simp [h1]
      · have hr2 := r.up (msk_mono (M := M) e2)
        refine st_ret (M := M) (ev_all (bs := x.cps.toList.map fun c => decide (c ∈ smallL) || decide (c ∈ figL)) (ea_one (Ev.to (ev_lcm (fun d => .bl (okSign d)) (m.up e2) (ia_str (ev_var rfl hr2)) ?_ fun N H3 d y mN eN hd rd => ?_) ?_))) fun y H3 e3 ry => q y H3 (e2.trans e3) (Rep.to ry ?_)
        · unfold Ak.signs
          rw [List.length_map, Array.length_toList]
          exact Nat.le_trans hx (by decide)
        · obtain ⟨c', hc', rfl⟩ := List.mem_map.mp hd
          refine elt_all (s2 := (wipe (L2.start ["value", "sign"] [v]) [1]).set 1 (some y)) (fun Q q => q) rfl ?_
          refine Ev.to (ev_orV (z := .bl (decide (c' ∈ smallL) || decide (c' ∈ figL))) (ev_op (ev_var rfl rd) ev_str rd_inSU) (fun h => Ev.to (ev_op (ev_var rfl rd) ev_str rd_inSU) ?_) fun h => ?_) ?_
          · have h1 : decide (c' ∈ smallL) = false := h
            rw [h1]
            rfl
          · have h1 : decide (c' ∈ smallL) = true := h
            rw [h1]
            rfl
          · simp [okSign]
        · unfold Ak.signs
          rw [List.map_map, List.map_map]
          congr 1
          refine List.map_congr_left fun c' _ => ?_
          simp [okSign]
        · have h1 : decide (c ∈ smallL) = true := by simpa using h
          show D.bl _ = .bl (nameS x)
          unfold nameS
          rw [List.all_map, hc]
          simp [h1, hl.1, hl.2]
    · refine st_seq (st_ifT (et_orF isi (et_orT (et_not (b := false) (et_test (M := M) (Ev.to (ev_chainLe ev_int (ev_len (ea_one (ev_var rfl r)) rfl (fi_dT hf) fun y e => by cases e; exact fi_strL hf) ev_int) ?_))))) fun H2 e2 => st_ret (M := M) ev_bl fun y H3 e3 ry => q y H3 (e2.trans e3) (Rep.to ry ?_))
      · congr 1
        rw [Bool.and_eq_false_iff, decide_eq_false_iff_not, decide_eq_false_iff_not]
        omega
      · show D.bl false = .bl (nameS x)
        unfold nameS
        congr 1
        by_cases h1 : 1 ≤ x.length
        · have h2 : ¬ x.length ≤ 8 := fun z => hl ⟨h1, z⟩
          simp [h2]
        · simp [h1]
  · have hn : isNm d = false := by
      cases d with
      | str x => exact absurd ⟨x, rfl⟩ hs
      | _ => rfl
    have hb : isB d "str" = false := by
      cases z : isB d "str" with
      | false => rfl
      | true => exact absurd (isB_str z hf) hs
    refine st_seq (st_ifT (et_orT (et_not (b := false) (et_B (M := M) (Ev.to (ev_isi (ea_cons (ev_var rfl r) (ea_one ev_ty)) (fi_tn hf) (fi_dT hf) (by decide)) (by rw [hb]))))) fun H2 e2 => st_ret (M := M) ev_bl fun y H3 e3 ry => q y H3 (e2.trans e3) (Rep.to ry ?_))
    rw [hn]
/-! ### rows, numbers, arrows -/
def R_is_row (K : PySem.W.Frag) : List D -> D -> Prop := fun ds z => (exists d, ds = [d] ∧ d.fi = true ∧ z = .bl (isB d "list" || isB d "tuple")) ∨ exists a, ds = [.oth (.ref a)] ∧ ET K a ∧ z = .bl true
theorem ok_is_row (T : Tx K mg) : FnOk P w K mg base (L2.CX P w) 1 T.f_is_row T.d_is_row ["value"] (SpR (R_is_row K)) := by
  refine T.F_is_row.ok sc_is_row (fun _ _ _ _ h => SpR.len (n := 1) (fun ds z h => by rcases h with ⟨d, e, _⟩ | ⟨d, e, _⟩ <;> rw [e] <;> rfl) h) (fun cdv A outer s H vs Q E hr h => ⟨_, (pss_one (ps_ret (pe_callB call_isiT rfl T.n_isinstance PyProof.Rows.boot_isinstance (pa_cons (pv 0) (pa_cons (pe_tup (pa_cons (pe_bltn (v := .ty "list") rfl T.n_list PyProof.Rows.boot_list rfl) (pa_cons (pe_bltn (v := .ty "tuple") rfl T.n_tuple PyProof.Rows.boot_tuple rfl) pa_nil))) pa_nil))))), ?_⟩)
  obtain ⟨M, ds, z, m, rs, ⟨d, rfl, hf, rfl⟩ | ⟨a, rfl, he, rfl⟩, q⟩ := h
  case inr =>
    obtain ⟨v, rfl, r⟩ := rs.one_of
    exact st_ret (M := M) (ev_isi2E he (ea_cons (ev_var rfl r) (ea_one (ev_tup m (ea_cons ev_ty (ea_one ev_ty)))))) fun y H3 e3 ry => q y H3 e3 ry
  obtain ⟨v, rfl, r⟩ := rs.one_of
  exact st_ret (M := M) (ev_isi2 (ea_cons (ev_var rfl r) (ea_one (ev_tup m (ea_cons ev_ty (ea_one ev_ty))))) (fi_tn hf) (fi_dT hf) (by decide) (by decide)) fun y H3 e3 ry => q y H3 e3 ry
def isNum (d : D) (k : Int) : Bool := match d with
  | .int i => decide (k ≤ i)
  | _ => false
def R_is_number : List D -> D -> Prop := fun ds z => exists d k, ds = [d, .int k] ∧ d.fi = true ∧ z = .bl (isNum d k)
theorem ok_is_number (T : Tx K mg) : FnOk P w K mg base (L2.CX P w) 1 T.f_is_number T.d_is_number ["value", "least"] (SpR R_is_number) := by
  refine T.F_is_number.ok sc_is_number (fun _ _ _ _ h => SpR.len (n := 2) (fun ds z ⟨d, k, e, _⟩ => by rw [e] <;> rfl) h) (fun cdv A outer s H vs Q E hr h => ⟨_, (pss_one (ps_ret (pe_and (pe_callB call_isi rfl T.n_isinstance PyProof.Rows.boot_isinstance (pa_cons (pv 0) (pa_cons (pe_bltn (v := .ty "int") rfl T.n_int PyProof.Rows.boot_int rfl) pa_nil))) (pe_and (pe_not (pe_callB call_isi rfl T.n_isinstance PyProof.Rows.boot_isinstance (pa_cons (pv 0) (pa_cons (pe_bltn (v := .ty "bool") rfl T.n_bool PyProof.Rows.boot_bool rfl) pa_nil)))) (pe_one (pe_cmpR op_ge (pv 0) (pv 1) (nomark _))))))), ?_⟩)
  obtain ⟨M, ds, z, m, rs, ⟨d, k, rfl, hf, rfl⟩, q⟩ := h
  obtain ⟨v, w', rfl, r, r2⟩ := rs.two_of
  refine st_ret (M := M) (ev_andV (a := isB d "int") (z := .bl (isNum d k)) (ev_isi (ea_cons (ev_var rfl r) (ea_one ev_ty)) (fi_tn hf) (fi_dT hf) (by decide)) (fun h => ev_andV (a := !isB d "bool") (ev_notV (ev_isi (ea_cons (ev_var rfl r) (ea_one ev_ty)) (fi_tn hf) (fi_dT hf) (by decide))) (fun h2 => ?_) fun h2 => ?_) fun h => ?_) fun y H3 e3 ry => q y H3 e3 ry
  · cases d with
    | int i => exact ev_op (ev_var rfl r) (ev_var rfl r2) rd_ge
    | bl b => simp [isB, D.tn] at h2
    | oth v => cases (show false = true from hf)
    | ins C fs => cases (show false = true from hf)
    | dK k => cases (show false = true from hf)
    | dT k => cases (show false = true from hf)
    | _ => simp [isB, D.tn] at h
  · cases d with
    | int i => simp [isB, D.tn] at h2
    | _ => rfl
  · cases d with
    | int i => simp [isB, D.tn] at h
    | _ => rfl
/-! ### the exceptions keep what they are told -/
theorem ok_BadSchema_init (T : Tx K mg) : FnOk P w K mg base (L2.CX P w) 1 T.f_BadSchema_init T.d_BadSchema_init ["self", "kind", "part"] (SpX T.C_BadSchema ["kind", "part"]) := by
  refine T.F_BadSchema_init.ok sc_BadSchema_init (fun vs _ _ _ ⟨a, ys, e, l, _⟩ => by rw [e, List.length_cons, l] <;> rfl) (fun cdv A outer s H vs Q E hr h => ⟨_, (pss_cons (ps_ost (pv 0) (pv 1))
      (pss_one (ps_ost (pv 0) (pv 2)))), ?_⟩)
  obtain ⟨a, ys, rfl, l, ha, q⟩ := h
  match ys, l with
  | [y1, y2], _ =>
    refine ⟨y1, rfl, _, rfl, a, _, rfl, T.ox_BadSchema, T.na_BadSchema_kind, .inl ⟨ha, fun dx hdx hne => ?_⟩⟩
    refine ⟨y2, rfl, _, rfl, a, _, rfl, T.ox_BadSchema, T.na_BadSchema_part, .inr ⟨dx, _, upd_same, (upd_ne hne).trans upd_same, by simp, ?_⟩⟩
    refine q dx _ hdx hne ((upd_ne (Ne.symm hne)).trans upd_same) upd_same fun b h1 h2 => ?_
    rw [upd_ne h2, upd_ne h1, upd_ne h2]
theorem ok_BadName_init (T : Tx K mg) : FnOk P w K mg base (L2.CX P w) 1 T.f_BadName_init T.d_BadName_init ["self", "name"] (SpX T.C_BadName ["name"]) := by
  refine T.F_BadName_init.ok sc_BadName_init (fun vs _ _ _ ⟨a, ys, e, l, _⟩ => by rw [e, List.length_cons, l] <;> rfl) (fun cdv A outer s H vs Q E hr h => ⟨_, (pss_one (ps_ost (pv 0) (pv 1))), ?_⟩)
  obtain ⟨a, ys, rfl, l, ha, q⟩ := h
  match ys, l with
  | [y1], _ =>
    refine ⟨y1, rfl, _, rfl, a, _, rfl, T.ox_BadName, T.na_BadName_name, .inl ⟨ha, fun dx hdx hne => ?_⟩⟩
    refine q dx _ hdx hne upd_same ((upd_ne hne).trans upd_same) fun b h1 h2 => ?_
    rw [upd_ne h1, upd_ne h2]
end

end K02
namespace K02
open PySem PySem.Spec PyProof.Rows L2 Ak
/-! ### rows of names -/
def strD : D -> Option Str
  | .str x => some x
  | _ => none
def strsOf (ds : List D) : List Str := ds.filterMap strD
theorem strsOf_map (l : List Str) : strsOf (l.map .str) = l := by
  induction l with
  | nil => rfl
  | cons x l ih =>
    unfold strsOf at ih ⊢
    rw [List.map_cons, List.filterMap_cons_some (f := strD) (b := x) rfl, ih]
theorem isNm_strs {ds : List D} (h : ds.all isNm = true) : exists l : List Str, ds = l.map .str ∧ forall x, x ∈ l -> nameS x = true := all_of (f := D.str) (C := fun x => nameS x = true) fun e he => by
  have z := List.all_eq_true.mp h e he
  cases e with
  | str x => exact ⟨x, rfl, z⟩
  | _ => cases z
def namesB (ds : List D) (k : Int) : Bool := decide ((ds.length : Int) ≤ k) && (ds.all isNm && decide (strsOf ds).Nodup)
def areN (d : D) (k : Int) : Bool := match d.its with
  | some ds => namesB ds k
  | none => false
def keyN : D -> Option (Key × D)
  | .str x => some (.inr x, .bl true)
  | _ => none
theorem keyN_all (l : List Str) : (l.map D.str).filterMap keyN = l.map fun x => ((.inr x : Key), D.bl true) := by
  induction l with
  | nil => rfl
  | cons x l ih => rw [List.map_cons, List.filterMap_cons_some (f := keyN) (a := D.str x) (b := (.inr x, .bl true)) rfl, ih] <;> rfl
theorem keyN_len (l : List Str) : (foldP (l.map fun x => ((.inr x : Key), D.bl true))).length = (uniq l).length := by
  have h1 := keys_foldP (l.map fun x => ((.inr x : Key), D.bl true))
  rw [List.map_map, show ((fun x : Key × D => x.1) ∘ fun x => ((.inr x : Key), D.bl true)) = (Sum.inr : Str -> Key) from rfl, uniq_map (fun a b h => Sum.inr.inj h)] at h1
  have h2 := congrArg List.length h1
  rw [List.length_map, List.length_map] at h2
  exact h2
theorem shorter {α : Type} [DecidableEq α] : forall {l : List α}, ¬ l.Nodup -> exists m : List α, m.length < l.length ∧ forall x, x ∈ l -> x ∈ m
  | [], h => absurd List.nodup_nil h
  | y :: l, h => by
    by_cases hy : y ∈ l
    · refine ⟨l, Nat.lt_succ_self _, fun x hx => ?_⟩
      rcases List.mem_cons.mp hx with e | hx
      · rw [e]
        exact hy
      · exact hx
    · obtain ⟨m, h1, h2⟩ := shorter (l := l) fun z => h (List.nodup_cons.mpr ⟨hy, z⟩)
      refine ⟨y :: m, Nat.succ_lt_succ h1, fun x hx => ?_⟩
      rcases List.mem_cons.mp hx with e | hx
      · rw [e]
        exact List.mem_cons_self
      · exact List.mem_cons_of_mem _ (h2 x hx)
theorem uniq_nodup_iff {α : Type} [DecidableEq α] (l : List α) : (uniq l).length = l.length <-> l.Nodup := by
  constructor
  · intro h
    rcases Classical.em l.Nodup with z | z
    · exact z
    · obtain ⟨m, h1, h2⟩ := shorter z
      have h3 := nodup_len (l := uniq l) (m := m) (uniq_nodup l) fun x hx => h2 x ((uniq_mem l x).mp hx)
      omega
  · intro h
    rw [uniq_self h]
section
variable {P : Program} {w : World} {K : PySem.W.Frag} {mg : Str -> Option Value} {base : Heap}
def R_are_names (K : PySem.W.Frag) : List D -> D -> Prop := fun ds z => (exists d k, ds = [d, .int k] ∧ d.fi = true ∧ z = .bl (areN d k)) ∨ exists a k, ds = [.oth (.ref a), .int k] ∧ ET K a ∧ 0 ≤ k ∧ z = .bl true
theorem ok_are_names (T : Tx K mg) : FnOk P w K mg base (L2.CX P w) 2 T.f_are_names T.d_are_names ["value", "most"] (SpR (R_are_names K)) := by
  refine T.F_are_names.ok sc_are_names (fun _ _ _ _ h => SpR.len (n := 2) (fun ds z h => by rcases h with ⟨d, k, e, _⟩ | ⟨d, k, e, _⟩ <;> rw [e] <;> rfl) h) (fun cdv A outer s H vs Q E hr h => ⟨_, (pss_cons (ps_if (PW.pt (pw_or (pt_not (pt_val (pe_call (ok_is_row T) (hr.mono (by decide)) rfl T.g_is_row T.F_is_row.kp T.B_is_row .nil passL (pa_cons (pv 0) pa_nil)))) (pw_or (pt_cmpR op_gt (pe_callB call_lenU rfl T.n_len PySem.boot_len (by exact (pa_cons (pv 0) pa_nil))) (pv 1) (nomark _)) (pw_or1 (pt_not (pt_val (pe_callB (cr_all rfl) rfl T.n_all PyProof.Rows.boot_all (by exact (pa_cons (pe_lc (own := [("one", 2)]) (g := (gName 2)) (tt := tYes) (te := (tCall (SpR R_is_name) [] E0 (tCons (tVar 2) tNil))) rfl sc_are_names.nd (pi_any (pv 0)) (blkOk_by (own := [("one", 2)]) (N := ["value", "most", "one"]) (sc := (defScope s_are_names)) (by decide +kernel)) (fun _ _ _ _ _ => by exact (pg_name (i := 2) sc_are_names.nd rfl (.inl rfl))) (fun _ _ _ _ _ => by exact pts_nil) (fun _ _ _ _ _ => by exact (pe_call (ok_is_name T) (hr.mono (by decide)) rfl T.g_is_name T.F_is_name.kp T.B_is_name .nil passL (pa_cons (pv 2) pa_nil)))) pa_nil))))))))) (pss_one (ps_ret pe_bl)) pss_nil)
      (pss_one (ps_ret (pe_cmpR (op_eqU hr.units) (pe_callB call_lenU rfl T.n_len PySem.boot_len (by exact (pa_cons (pe_dcU (.dK []) (.inl rfl) (hu_of hr) (own := [("one", 2)]) (g := (gName 2)) (tt := tYes) (tk := (tVar 2)) (tv := (tC (.bl true))) rfl sc_are_names.nd (pi_any (pv 0)) (blkOk_by (own := [("one", 2)]) (N := ["value", "most", "one"]) (sc := (defScope s_are_names)) (by decide +kernel)) (fun _ _ _ _ _ => by exact (pg_name (i := 2) sc_are_names.nd rfl (.inl rfl))) (fun _ _ _ _ _ => by exact pts_nil) (fun _ _ _ _ _ => by exact (pv 2)) (fun _ _ _ _ _ => by exact pe_bl)) pa_nil))) (pe_callB call_lenU rfl T.n_len PySem.boot_len (by exact (pa_cons (pv 0) pa_nil))) (nomark _))))), ?_⟩)
  obtain ⟨M, ds, z, m, rs, ⟨d, k, rfl, hf, rfl⟩ | ⟨a, k, rfl, he, hk, rfl⟩, q⟩ := h
  · obtain ⟨v, v2, rfl, r, r2⟩ := rs.two_of
    cases hi : d.its with
    | none =>
      refine st_seq (st_ifT (et_orT (et_not (b := false) (et_B (M := M) (Ev.to (ev_call m (ea_one (ev_var rfl r)) (.inl ⟨d, rfl, hf, rfl⟩)) (by rw [its_row hf, hi] <;> rfl))))) fun H2 e2 => st_ret (M := M) ev_bl fun y H3 e3 ry => q y H3 (e2.trans e3) (Rep.to ry ?_))
      unfold areN
      rw [hi]
    | some es =>
      obtain ⟨kd, le, fes⟩ := its_cases hf hi
      have row : EvT (tNot (tB (tCall (SpR (R_is_row K)) [] E0 (tCons (tVar 0) tNil)))) (L2.start ["value", "most", "one"] [v, v2]) H false := et_not (b := true) (et_B (M := M) (Ev.to (ev_call m (ea_one (ev_var rfl r)) (.inl ⟨d, rfl, hf, rfl⟩)) (by rw [its_row hf, hi] <;> rfl)))
      have res : areN d k = namesB es k := by
        unfold areN
        rw [hi]
      by_cases hl : (es.length : Int) ≤ k
      · have gt0 : decide (k < (es.length : Int)) = false := decide_eq_false (by omega)
        have hm : forall H1, Same H H1 -> Mok M H1 := fun H1 e => m.up e
        refine st_seq (st_if (b := !es.all isNm) (et_orF row (et_orF (et_test (M := M) (Ev.to (ev_op (ev_len (ea_one (ev_var rfl r)) (its_len kd) (fi_dT hf) (its_str kd)) (ev_var (d := .int k) rfl r2) rd_gt) (by rw [gt0]))) (et_not (et_B (M := M) (Ev.to (ev_all (bs := es.map isNm) (ea_one (Ev.to (ev_lcm (ds := es) (fun d => .bl (isNm d)) m (ia_seq (ev_var rfl r) kd) (by omega) fun N H3 e y mN eN he rd => ?_) (by rw [List.map_map] <;> rfl)))) (by rw [List.all_map] <;> rfl)))))) (fun h H2 e2 => ?_) fun h H2 e2 => ?_)
        · exact elt_all (s2 := (wipe (L2.start ["value", "most", "one"] [v, v2]) [2]).set 2 (some y)) (fun Q q => q) rfl (ev_call mN (ea_one (ev_var rfl rd)) ⟨e, rfl, fes e he, rfl⟩)
        · refine st_ret (M := M) ev_bl fun y H3 e3 ry => q y H3 (e2.trans e3) (Rep.to ry ?_)
          have h1 : es.all isNm = false := by simpa using h
          rw [res]
          unfold namesB
          rw [h1, Bool.false_and, Bool.and_false]
        · have h1 : es.all isNm = true := by simpa using h
          obtain ⟨l, rfl, hn⟩ := isNm_strs h1
          have r3 := r.up (msk_mono (M := M) e2)
          rw [List.length_map] at le
          refine st_ret (M := M) (Ev.to (ev_eqD dInt (x := ((uniq l).length : Int)) (y := (l.length : Int)) rfl rfl (Ev.to (ev_len (d := .dK (foldP (l.map fun x => ((.inr x : Key), D.bl true)))) (ea_one (Ev.to (ev_dc (c := kcK) (ds := l.map .str) keyN (m.up e2) (ia_seq (ev_var rfl r3) kd) (by rw [List.length_map]; omega) fun N H5 d y mN eN hd rd => ?_) (by rw [keyN_all] <;> rfl))) rfl (fun _ e => nomatch e) fun _ e => nomatch e) (by rw [keyN_len] <;> rfl)) (Ev.to (ev_len (ea_one (ev_var rfl r3)) (its_len kd) (fi_dT hf) (its_str kd)) (by rw [List.length_map] <;> rfl))) ?_) fun y H3 e3 ry => q y H3 (e2.trans e3) ry
          · obtain ⟨x, _, rfl⟩ := List.mem_map.mp hd
            exact eltp_of (c := kcK) (o := some (.inr x, .bl true)) (s2 := (wipe (L2.start ["value", "most", "one"] [v, v2]) [2]).set 2 (some y)) (fun Q q => q) rfl et_yes (fun _ => ⟨.inr x, .bl true, rfl, ev_var rfl rd, ev_cbl⟩) fun z => nomatch z
          · rw [res]
            unfold namesB
            rw [h1, Bool.true_and, decide_eq_true hl, Bool.true_and, strsOf_map]
            congr 1
            refine decide_eq_decide.mpr ?_
            rw [← uniq_nodup_iff l]
            omega
      · have gt1 : decide (k < (es.length : Int)) = true := decide_eq_true (by omega)
        refine st_seq (st_ifT (et_orF row (et_orT (et_test (M := M) (Ev.to (ev_op (ev_len (ea_one (ev_var rfl r)) (its_len kd) (fi_dT hf) (its_str kd)) (ev_var (d := .int k) rfl r2) rd_gt) (by rw [gt1]))))) fun H2 e2 => st_ret (M := M) ev_bl fun y H3 e3 ry => q y H3 (e2.trans e3) (Rep.to ry ?_))
        rw [res]
        unfold namesB
        rw [decide_eq_false hl, Bool.false_and]
  · obtain ⟨v, v2, rfl, r, r2⟩ := rs.two_of
    have gt0 : decide (k < (0 : Int)) = false := decide_eq_false (by omega)
    refine st_seq (st_ifF (et_orF (et_not (b := true) (et_B (M := M) (ev_call m (ea_one (ev_var rfl r)) (.inr ⟨a, rfl, he, rfl⟩)))) (et_orF (et_test (M := M) (Ev.to (ev_op (ev_lenE he (ea_one (ev_var rfl r))) (ev_var (d := .int k) rfl r2) rd_gt) (by rw [gt0]))) (et_not (b := true) (et_B (M := M) (ev_all (bs := []) (ea_one (ev_lcm (ds := []) (fun d => .bl (isNm d)) m (ia_E he (ev_var rfl r)) (Nat.zero_le _) fun N H3 e y mN eN hm => by cases hm))))))) fun H2 e2 => ?_)
    have r3 := r.up (msk_mono (M := M) e2)
    exact st_ret (M := M) (ev_eqD dInt (x := 0) (y := 0) rfl rfl (ev_len (d := .dK []) (ea_one (ev_dc (c := kcK) (ds := []) keyN (m.up e2) (ia_E he (ev_var rfl r3)) (Nat.zero_le _) fun N H5 d y mN eN hd => by cases hd)) rfl (fun _ e => nomatch e) fun _ e => nomatch e) (ev_lenE he (ea_one (ev_var rfl r3)))) fun y H3 e3 ry => q y H3 (e2.trans e3) ry
end

end K02
namespace K02
open PySem PySem.Spec PyProof.Rows L2 Ak
/-! ### rows -/
section
variable {P : Program} {w : World} {K : PySem.W.Frag} {mg : Str -> Option Value} {base : Heap}
/-- what may be told as a row of names: data, or the written empty tuple -/
def okM (K : PySem.W.Frag) (d : D) : Prop := d.fi = true ∨ exists a, d = .oth (.ref a) ∧ ET K a
/-- .. as it is kept -/
def normN (d : D) (k : Int) : D := match d with
  | .oth _ => .tup []
  | d => if areN d k = true then .tup (sortD (d.its.getD [])) else d
theorem areN_names {d : D} {k : Int} (h : areN d k = true) (hf : d.fi = true) : exists l : List Str, (d = .lst (l.map .str) ∨ d = .tup (l.map .str)) ∧ d.its = some (l.map .str) ∧ (forall x, x ∈ l -> nameS x = true) ∧ l.Nodup ∧ (l.length : Int) ≤ k := by
  unfold areN at h
  cases hi : d.its with
  | none =>
    rw [hi] at h
    cases h
  | some es =>
    rw [hi] at h
    have h' : (decide ((es.length : Int) ≤ k) && (es.all isNm && decide (strsOf es).Nodup)) = true := h
    rw [Bool.and_eq_true, Bool.and_eq_true, decide_eq_true_eq, decide_eq_true_eq] at h'
    obtain ⟨h1, h2, h3⟩ := h'
    obtain ⟨l, rfl, hn⟩ := isNm_strs h2
    rw [strsOf_map] at h3
    rw [List.length_map] at h1
    exact ⟨l, (its_cases hf hi).1, rfl, hn, h3, h1⟩
theorem ev_norm {M : MK} {s : L2.St} {H : Hp} {i : Nat} {v : V} {d : D} {k : Int} (m : Mok M H) (hv : s[i]? = some (some v)) (r : Rep (msk M H) d v) (ok : okM K d) (hk : 0 ≤ k) :
    EvD M (tIf (tB (tCall (SpR (R_are_names K)) [] E0 (tCons (tVar i) (tCons (tC (.int k)) tNil)))) (tCB (fun xs H Q => exists p ys, xs = [V.ref p] ∧ ((SqL K H p ys ∧ forall l, H l = none -> Q (.ref l) (upd H l (.tup ys))) ∨ (SqT K H p ys ∧ Q (.ref p) H))) (tCons (tCB (rSortC K) (tCons (tVar i) tNil)) tNil)) (tVar i)) s H (normN d k) := by
  rcases ok with hf | ⟨a, rfl, he⟩
  · have e : normN d k = if areN d k = true then .tup (sortD (d.its.getD [])) else d := by
      cases d with
      | oth v => cases (show false = true from hf)
      | _ => rfl
    rw [e]
    refine ev_ifE (b := areN d k) (et_B (M := M) (ev_call m (ea_cons (ev_var hv r) (ea_one ev_int)) (.inl ⟨d, k, rfl, hf, rfl⟩))) (fun h => ?_) fun h => ?_
    · obtain ⟨l, _, hi, _, _, _⟩ := areN_names h hf
      rw [if_pos h, hi]
      exact ev_tof m (ea_one (ev_sortC m (ea_one (ev_var hv r)) hi (canSort_strs l))) (.inl rfl)
    · rw [if_neg (by rw [h]; exact Bool.false_ne_true)]
      exact ev_var hv r
  · refine ev_ifE (b := true) (et_B (M := M) (ev_call m (ea_cons (ev_var hv r) (ea_one ev_int)) (.inr ⟨a, k, rfl, he, hk, rfl⟩))) (fun _ => ?_) fun h => (nomatch h)
    exact ev_tof m (ea_one (ev_sortE m he (ea_one (ev_var hv r)))) (.inl rfl)
def rowF (lo hi mu no : D) : List (Str × D) := [("low", lo), ("high", hi), ("musts", mu), ("nots", no)]
def rowD (T : Tx K mg) (lo hi mu no : D) : D := .ins T.C_Row (rowF lo hi mu no)
def R_row (K : PySem.W.Frag) : List D -> List (Str × D) -> Prop := fun ds fs => exists lo hi mu no, ds = [lo, hi, mu, no] ∧ okM K mu ∧ okM K no ∧ fs = rowF lo hi (normN mu 16) (normN no 16)
theorem ok_Row_init (T : Tx K mg) : FnOk P w K mg base (L2.CX P w) 3 T.f_Row_init T.d_Row_init ["self", "low", "high", "musts", "nots"] (SpI T.C_Row (R_row K) nox) := by
  refine T.F_Row_init.ok sc_Row_init (fun _ _ _ _ h => SpI.len (n := 4) (fun ds fs ⟨lo, hi, mu, no, e, _⟩ => by rw [e] <;> rfl) (fun _ _ _ h => h.elim) h) (fun cdv A outer s H vs Q E hr h => ⟨_, (pss_cons (ps_fld (pv 0) (pv 1) rfl)
      (pss_cons (ps_fld (pv 0) (pv 2) rfl)
      (pss_cons (ps_fld (pv 0) (pe_ifExp (pt_val (pe_call (ok_are_names T) (hr.mono (by decide)) rfl T.g_are_names T.F_are_names.kp T.B_are_names .nil passL (pa_cons (pv 3) (pa_cons (pe_glob (v := .int 16) rfl T.c_MOST_KINDS.choose_spec ⟨_, rfl⟩) pa_nil)))) (pe_callTy call_tuple_of rfl T.n_tuple (by decide +kernel) (by exact (pa_cons (pe_callB (call_sortC rfl hr.units) rfl T.n_sorted PyProof.Rows.boot_sorted (by exact (pa_cons (pv 3) pa_nil))) pa_nil))) (pv 3)) rfl)
      (pss_one (ps_fld (pv 0) (pe_ifExp (pt_val (pe_call (ok_are_names T) (hr.mono (by decide)) rfl T.g_are_names T.F_are_names.kp T.B_are_names .nil passL (pa_cons (pv 4) (pa_cons (pe_glob (v := .int 16) rfl T.c_MOST_KINDS.choose_spec ⟨_, rfl⟩) pa_nil)))) (pe_callTy call_tuple_of rfl T.n_tuple (by decide +kernel) (by exact (pa_cons (pe_callB (call_sortC rfl hr.units) rfl T.n_sorted PyProof.Rows.boot_sorted (by exact (pa_cons (pv 4) pa_nil))) pa_nil))) (pv 4)) rfl))))), ?_⟩)
  obtain ⟨M, ds, x, dx, ws, m, mx, rfl, rs, hx, ⟨fs, ⟨lo, hi, mu, no, rfl, om, on, rfl⟩, q⟩ | ⟨C, fs, h, _⟩⟩ := h
  case inr => exact h.elim
  obtain ⟨v1, ws1, rfl, r1, rs⟩ := rs
  obtain ⟨v2, v3, v4, rfl, r2, r3, r4⟩ := Reps.three_of (show Reps (msk M H) [hi, mu, no] ws1 from rs)
  -- low
  refine st_seq (st_fldR (M := M) (i := 0) rfl hx T.cls_Row T.na_Row_low (by simp) (ev_var rfl r1) fun y1 H1 e1 ry1 => ?_)
  have s1 : SameX x H (upd H1 x (.ins T.C_Row dx (putF "low" y1 []))) := (SameX.of e1).upd
  have k1 : Same (msk M H) (msk M (upd H1 x (.ins T.C_Row dx (putF "low" y1 [])))) := by
    rw [msk_upd mx]
    exact msk_mono e1
  have g1 : Rep (msk M (upd H1 x (.ins T.C_Row dx (putF "low" y1 [])))) lo y1 := by
    rw [msk_upd mx]
    exact ry1
  have m1 : Mok M (upd H1 x (.ins T.C_Row dx (putF "low" y1 []))) := (m.up e1).upd
  have hx1 : upd H1 x (.ins T.C_Row dx (putF "low" y1 [])) x = some (.ins T.C_Row dx [("low", y1)]) := upd_same
  generalize upd H1 x (.ins T.C_Row dx (putF "low" y1 [])) = G1 at s1 k1 g1 m1 hx1
  -- high
  refine st_seq (st_fldR (M := M) (i := 0) rfl hx1 T.cls_Row T.na_Row_high (by simp) (ev_var rfl (r2.up k1)) fun y2 H2 e2 ry2 => ?_)
  have s2 : SameX x H (upd H2 x (.ins T.C_Row dx (putF "high" y2 [("low", y1)]))) := (s1.trans (SameX.of e2)).upd
  have k2 : Same (msk M G1) (msk M (upd H2 x (.ins T.C_Row dx (putF "high" y2 [("low", y1)])))) := by
    rw [msk_upd mx]
    exact msk_mono e2
  have g2 : Rep (msk M (upd H2 x (.ins T.C_Row dx (putF "high" y2 [("low", y1)])))) hi y2 := by
    rw [msk_upd mx]
    exact ry2
  have m2 : Mok M (upd H2 x (.ins T.C_Row dx (putF "high" y2 [("low", y1)]))) := (m1.up e2).upd
  have hx2 : upd H2 x (.ins T.C_Row dx (putF "high" y2 [("low", y1)])) x = some (.ins T.C_Row dx [("low", y1), ("high", y2)]) := upd_same
  generalize upd H2 x (.ins T.C_Row dx (putF "high" y2 [("low", y1)])) = G2 at s2 k2 g2 m2 hx2
  -- musts
  refine st_seq (st_fldR (M := M) (i := 0) rfl hx2 T.cls_Row T.na_Row_musts (by simp) (ev_norm m2 rfl (r3.up (k1.trans k2)) om (by decide)) fun y3 H3 e3 ry3 => ?_)
  have s3 : SameX x H (upd H3 x (.ins T.C_Row dx (putF "musts" y3 [("low", y1), ("high", y2)]))) := (s2.trans (SameX.of e3)).upd
  have k3 : Same (msk M G2) (msk M (upd H3 x (.ins T.C_Row dx (putF "musts" y3 [("low", y1), ("high", y2)])))) := by
    rw [msk_upd mx]
    exact msk_mono e3
  have g3 : Rep (msk M (upd H3 x (.ins T.C_Row dx (putF "musts" y3 [("low", y1), ("high", y2)])))) (normN mu 16) y3 := by
    rw [msk_upd mx]
    exact ry3
  have m3 : Mok M (upd H3 x (.ins T.C_Row dx (putF "musts" y3 [("low", y1), ("high", y2)]))) := (m2.up e3).upd
  have hx3 : upd H3 x (.ins T.C_Row dx (putF "musts" y3 [("low", y1), ("high", y2)])) x = some (.ins T.C_Row dx [("low", y1), ("high", y2), ("musts", y3)]) := upd_same
  generalize upd H3 x (.ins T.C_Row dx (putF "musts" y3 [("low", y1), ("high", y2)])) = G3 at s3 k3 g3 m3 hx3
  -- nots
  refine st_fldR (M := M) (i := 0) rfl hx3 T.cls_Row T.na_Row_nots (by simp) (ev_norm m3 rfl (r4.up ((k1.trans k2).trans k3)) on (by decide)) fun y4 H4 e4 ry4 => ?_
  have k4 : Same (msk M G3) (msk M (upd H4 x (.ins T.C_Row dx (putF "nots" y4 [("low", y1), ("high", y2), ("musts", y3)])))) := by
    rw [msk_upd mx]
    exact msk_mono e4
  refine q [("low", y1), ("high", y2), ("musts", y3), ("nots", y4)] _ (s3.trans (SameX.of e4)).upd upd_same ⟨y1, _, rfl, g1.up (k2.trans (k3.trans k4)), y2, _, rfl, g2.up (k3.trans k4), y3, _, rfl, g3.up k4, y4, _, rfl, ?_, rfl⟩
  rw [msk_upd mx]
  exact ry4
/-! ### rows against rows; what a row has -/
def R_Row_eq (T : Tx K mg) : List D -> D -> Prop := fun ds z => exists lo hi mu no lo2 hi2 mu2 no2, ds = [rowD T lo hi mu no, rowD T lo2 hi2 mu2 no2] ∧ (D.tup [lo, hi, mu, no]).ok = true ∧ (D.tup [lo2, hi2, mu2, no2]).ok = true ∧ z = .bl (PyData.eqv (D.tup [lo, hi, mu, no]).py (D.tup [lo2, hi2, mu2, no2]).py)
theorem ok_Row_eq (T : Tx K mg) : FnOk P w K mg base (L2.CX P w) 1 T.f_Row_eq T.d_Row_eq ["self", "other"] (SpR (R_Row_eq T)) := by
  refine T.F_Row_eq.ok sc_Row_eq (fun _ _ _ _ h => SpR.len (n := 2) (fun ds z ⟨_, _, _, _, _, _, _, _, e, _⟩ => by rw [e] <;> rfl) h) (fun cdv A outer s H vs Q E hr h => ⟨_, (pss_cons (ps_if (pt_not (pt_val (pe_callB call_isi rfl T.n_isinstance PyProof.Rows.boot_isinstance (pa_cons (pv 1) (pa_cons (pe_glob (v := .ref T.C_Row) rfl T.g_Row rfl) pa_nil))))) (pss_one (ps_ret pe_bl)) pss_nil)
      (pss_one (ps_ret (pe_cmpR (op_eqU hr.units) (pe_tup (pa_cons (pe_fld (pv 0) rfl) (pa_cons (pe_fld (pv 0) rfl) (pa_cons (pe_fld (pv 0) rfl) (pa_cons (pe_fld (pv 0) rfl) pa_nil))))) (pe_tup (pa_cons (pe_fld (pv 1) rfl) (pa_cons (pe_fld (pv 1) rfl) (pa_cons (pe_fld (pv 1) rfl) (pa_cons (pe_fld (pv 1) rfl) pa_nil))))) (nomark _))))), ?_⟩)
  obtain ⟨M, ds, z, m, rs, ⟨lo, hi, mu, no, lo2, hi2, mu2, no2, rfl, o1, o2, rfl⟩, q⟩ := h
  obtain ⟨v, v2, rfl, r, r2⟩ := rs.two_of
  refine st_seq (st_ifF (et_not (b := true) (et_B (M := M) (ev_isiC (C := T.C_Row) T.cls_Row T.is_Row (ea_cons (ev_var rfl r2) (ea_one (ev_c fun _ => rfl)))))) fun H2 e2 => ?_)
  have ra := r.up (msk_mono (M := M) e2)
  have rb := r2.up (msk_mono (M := M) e2)
  have m2 := m.up e2
  exact st_ret (M := M) (ev_op (ev_tup m2 (ea_cons (ev_fld (ev_var rfl ra) T.cls_Row T.na_Row_low rfl) (ea_cons (ev_fld (ev_var rfl ra) T.cls_Row T.na_Row_high rfl) (ea_cons (ev_fld (ev_var rfl ra) T.cls_Row T.na_Row_musts rfl) (ea_one (ev_fld (ev_var rfl ra) T.cls_Row T.na_Row_nots rfl))))))
    (ev_tup m2 (ea_cons (ev_fld (ev_var rfl rb) T.cls_Row T.na_Row_low rfl) (ea_cons (ev_fld (ev_var rfl rb) T.cls_Row T.na_Row_high rfl) (ea_cons (ev_fld (ev_var rfl rb) T.cls_Row T.na_Row_musts rfl) (ea_one (ev_fld (ev_var rfl rb) T.cls_Row T.na_Row_nots rfl)))))) (rd_eqU (neg := false) o1 o2)) fun y H3 e3 ry => q y H3 (e2.trans e3) ry
def hiD : Option Int -> D
  | none => .non
  | some j => .int j
def hasB (lo : Int) (hi : Option Int) (n : Int) : Bool := decide (lo ≤ n) && (match hi with
  | none => true
  | some j => decide (n ≤ j))
def R_has (T : Tx K mg) : List D -> D -> Prop := fun ds z => exists lo hi mu no n, ds = [rowD T (.int lo) (hiD hi) mu no, .int n] ∧ z = .bl (hasB lo hi n)
theorem ok_Row_has (T : Tx K mg) : FnOk P w K mg base (L2.CX P w) 1 T.f_Row_has T.d_Row_has ["self", "number"] (SpR (R_has T)) := by
  refine T.F_Row_has.ok sc_Row_has (fun _ _ _ _ h => SpR.len (n := 2) (fun ds z ⟨_, _, _, _, _, e, _⟩ => by rw [e] <;> rfl) h) (fun cdv A outer s H vs Q E hr h => ⟨_, (pss_one (ps_ret (pe_and (pe_cmpR op_ge (pv 1) (pe_fld (pv 0) rfl) (nomark _)) (pe_one (pe_or (pe_cmpR op_isN (pe_fld (pv 0) rfl) pe_non (nomark _)) (pe_one (pe_cmpR op_le (pv 1) (pe_fld (pv 0) rfl) (nomark _)))))))), ?_⟩)
  obtain ⟨M, ds, z, m, rs, ⟨lo, hi, mu, no, n, rfl, rfl⟩, q⟩ := h
  obtain ⟨v, v2, rfl, r, r2⟩ := rs.two_of
  refine st_ret (M := M) (ev_andV (a := decide (lo ≤ n)) (z := .bl (hasB lo hi n)) (ev_op (ev_var rfl r2) (ev_fld (ev_var rfl r) T.cls_Row T.na_Row_low rfl) rd_ge) (fun h => ?_) fun h => ?_) fun y H3 e3 ry => q y H3 e3 ry
  · refine ev_orV (a := isN (hiD hi)) (ev_op (ev_fld (ev_var rfl r) T.cls_Row T.na_Row_high rfl) ev_non (rd_isN fun w z => by cases hi <;> cases z)) (fun h2 => ?_) fun h2 => ?_
    · cases hi with
      | none => cases (show true = false from h2)
      | some j =>
        refine Ev.to (ev_op (ev_var rfl r2) (ev_fld (d := .int j) (ev_var rfl r) T.cls_Row T.na_Row_high rfl) rd_le) ?_
        unfold hasB
        rw [h, Bool.true_and]
    · cases hi with
      | none =>
        unfold hasB
        rw [h] <;> rfl
      | some j => cases (show false = true from h2)
  · unfold hasB
    rw [h, Bool.false_and]
end

end K02
namespace K02
open PySem PySem.Spec PyProof.Rows L2 Ak
/-! ### kinds -/
def keyNm : Key -> Bool
  | .inr x => nameS x
  | .inl _ => false
def labsB (kvs : List (Key × D)) : Bool := kvs.all fun p => keyNm p.1
theorem isNm_kD (k : Key) : isNm (kD k) = keyNm k := by
  cases k with
  | inl i => rfl
  | inr x => rfl
def keyS : Key -> Option Str
  | .inr x => some x
  | .inl _ => none
def keysS (kvs : List (Key × D)) : List Str := kvs.filterMap fun p => keyS p.1
theorem keys_strs {kvs : List (Key × D)} (h : labsB kvs = true) : (kvs.map fun p => kD p.1) = (keysS kvs).map .str ∧ (kvs.map (·.1)) = (keysS kvs).map .inr := by
  unfold labsB at h
  induction kvs with
  | nil => exact ⟨rfl, rfl⟩
  | cons p kvs ih =>
    rw [List.all_cons, Bool.and_eq_true] at h
    obtain ⟨k, d⟩ := p
    cases k with
    | inl i => cases (show false = true from h.1)
    | inr x =>
      have e : keysS ((.inr x, d) :: kvs) = x :: keysS kvs := by
        unfold keysS
        rw [List.filterMap_cons_some (f := fun p : Key × D => keyS p.1) (b := x) rfl]
      rw [e, List.map_cons, List.map_cons, List.map_cons, List.map_cons, (ih h.2).1, (ih h.2).2]
      exact ⟨rfl, rfl⟩
/-- a dict, its keys in order -/
def sortKV (kvs : List (Key × D)) : List (Key × D) := (sortS (keysS kvs)).map fun x => (.inr x, (vD kvs (.inr x)).getD .non)
theorem vD_mem {kvs : List (Key × D)} {k : Key} (h : k ∈ kvs.map (·.1)) : exists d, vD kvs k = some d := by
  obtain ⟨p, hp, e⟩ := List.mem_map.mp h
  unfold vD
  cases g : kvs.find? fun kv => decide (kv.1 = k) with
  | none => exact absurd (decide_eq_true e) (List.find?_eq_none.mp g p hp)
  | some q => exact ⟨q.2, rfl⟩
section
variable {P : Program} {w : World} {K : PySem.W.Frag} {mg : Str -> Option Value} {base : Heap}
def okR (d : D) : Prop := d.fi = true ∨ exists kvs, d = .dK kvs ∧ kvs.length ≤ 60 ∧ (forall p, p ∈ kvs -> (kD p.1).fi = true) ∧ (kvs.map (·.1)).Nodup
def areL : D -> Bool
  | .dK kvs => labsB kvs
  | _ => false
def R_are_labels : List D -> D -> Prop := fun ds z => exists d, ds = [d] ∧ okR d ∧ z = .bl (areL d)
theorem ok_are_labels (T : Tx K mg) : FnOk P w K mg base (L2.CX P w) 2 T.f_are_labels T.d_are_labels ["rows"] (SpR R_are_labels) := by
  refine T.F_are_labels.ok sc_are_labels (fun _ _ _ _ h => SpR.len (n := 1) (fun ds z ⟨d, e, _⟩ => by rw [e] <;> rfl) h) (fun cdv A outer s H vs Q E hr h => ⟨_, (pss_one (ps_ret (pe_and (pe_callB call_isi rfl T.n_isinstance PyProof.Rows.boot_isinstance (pa_cons (pv 0) (pa_cons (pe_bltn (v := .ty "dict") rfl T.n_dict PyProof.Rows.boot_dict rfl) pa_nil))) (pe_one (pe_callB (cr_all rfl) rfl T.n_all PyProof.Rows.boot_all (by exact (pa_cons (pe_lockU (pe_lc (own := [("label", 1)]) (g := (gName 1)) (tt := tYes) (te := (tCall (SpR R_is_name) [] E0 (tCons (tVar 1) tNil))) rfl sc_are_labels.nd (pi_any (pv 0)) (blkOk_by (own := [("label", 1)]) (N := ["rows", "label"]) (sc := (defScope s_are_labels)) (by decide +kernel)) (fun _ _ _ _ _ => by exact (pg_name (i := 1) sc_are_labels.nd rfl (.inl rfl))) (fun _ _ _ _ _ => by exact pts_nil) (fun _ _ _ _ _ => by exact (pe_call (ok_is_name T) (hr.mono (by decide)) rfl T.g_is_name T.F_is_name.kp T.B_is_name .nil passL (pa_cons (pv 1) pa_nil))))) pa_nil))))))), ?_⟩)
  obtain ⟨M, ds, z, m, rs, ⟨d, rfl, ok, rfl⟩, q⟩ := h
  obtain ⟨v, rfl, r⟩ := rs.one_of
  rcases ok with hf | ⟨kvs, rfl, hl, hk, nd⟩
  · have e0 : isB d "dict" = false ∧ areL d = false := by
      cases d with
      | oth v => cases (show false = true from hf)
      | ins C fs => cases (show false = true from hf)
      | dK k => cases (show false = true from hf)
      | dT k => cases (show false = true from hf)
      | _ => exact ⟨rfl, rfl⟩
    exact st_ret (M := M) (ev_andV (a := false) (z := .bl (areL d)) (Ev.to (ev_isi (ea_cons (ev_var rfl r) (ea_one ev_ty)) (fi_tn hf) (fi_dT hf) (by decide)) (by rw [e0.1])) (fun h => nomatch h) fun _ => by rw [e0.2]) fun y H3 e3 ry => q y H3 e3 ry
  · have isd : isB (.dK kvs) "dict" = true := rfl
    refine st_ret (M := M) (ev_andV (a := true) (z := .bl (labsB kvs)) (Ev.to (ev_isi (ea_cons (ev_var rfl r) (ea_one ev_ty)) (fun e => absurd (show ("dict" : String) = "" from e) (by decide)) (fun _ e => nomatch e) (by decide)) (by rw [isd])) (fun _ => ?_) fun h => nomatch h) fun y H3 e3 ry => q y H3 e3 ry
    refine Ev.to (ev_all (bs := (kvs.map fun p => kD p.1).map isNm) (ea_one (ev_lock (c := kcK) (kvs := kvs) m r fun Hl a od ws ml fl ea nm hb rp => ?_))) ?_
    · subst ea
      have keys : (kvs.map fun p => kD p.1) = ws.map fun p => kD p.1 := by
        have e : ws.map (·.1) = kvs.map (·.1) := RepK.keys (repK_iff.mpr rp)
        have e2 := congrArg (List.map kD) e
        rw [List.map_map, List.map_map] at e2
        exact e2.symm
      refine Ev.to (ev_lcm (ds := kvs.map fun p => kD p.1) (fun d => .bl (isNm d)) ml (ia_dict (a := a) (od := od) ml (fun H1 e1 Q q => ⟨_, rfl, q _ H1 (Same.refl H1) rfl⟩) nm (.inl ⟨ws, hb, keys⟩)) (by rw [List.length_map]; omega) fun N H3 d y mN eN hd rd => ?_) (by rw [List.map_map, List.map_map, List.map_map] <;> rfl)
      obtain ⟨p, hp, rfl⟩ := List.mem_map.mp hd
      exact elt_all (s2 := (wipe (L2.start ["rows", "label"] [.ref a]) [1]).set 1 (some y)) (fun Q q => q) rfl (ev_call mN (ea_one (ev_var rfl rd)) ⟨kD p.1, rfl, hk p hp, rfl⟩)
    · unfold labsB
      rw [List.all_map, List.all_map]
      congr 1
      refine List.all_congr rfl fun p => ?_
      exact isNm_kD p.1
def normR : D -> D
  | .dK kvs => if labsB kvs = true then .dK (sortKV kvs) else .dK kvs
  | d => d
def kindF (c r : D) : List (Str × D) := [("colours", c), ("rows", r)]
def kindD (T : Tx K mg) (c r : D) : D := .ins T.C_Kind (kindF c r)
def R_kind (K : PySem.W.Frag) : List D -> List (Str × D) -> Prop := fun ds fs => exists c r, ds = [c, r] ∧ okM K c ∧ okR r ∧ fs = kindF (normN c 6) (normR r)
def labF (kvs : List (Key × D)) : D -> Option (Key × D)
  | .str x => some (.inr x, (vD kvs (.inr x)).getD .non)
  | _ => none
theorem labF_all (kvs : List (Key × D)) (l : List Str) : (l.map D.str).filterMap (labF kvs) = l.map fun x => (.inr x, (vD kvs (.inr x)).getD .non) := by
  induction l with
  | nil => rfl
  | cons x l ih => rw [List.map_cons, List.filterMap_cons_some (f := labF kvs) (a := D.str x) (b := (.inr x, (vD kvs (.inr x)).getD .non)) rfl, ih] <;> rfl
theorem ok_Kind_init (T : Tx K mg) : FnOk P w K mg base (L2.CX P w) 3 T.f_Kind_init T.d_Kind_init ["self", "colours", "rows"] (SpI T.C_Kind (R_kind K) nox) := by
  refine T.F_Kind_init.ok sc_Kind_init (fun _ _ _ _ h => SpI.len (n := 2) (fun ds fs ⟨c, r, e, _⟩ => by rw [e] <;> rfl) (fun _ _ _ h => h.elim) h) (fun cdv A outer s H vs Q E hr h => ⟨_, (pss_cons (ps_fld (pv 0) (pe_ifExp (pt_val (pe_call (ok_are_names T) (hr.mono (by decide)) rfl T.g_are_names T.F_are_names.kp T.B_are_names .nil passL (pa_cons (pv 1) (pa_cons (pe_glob (v := .int 6) rfl T.c_MOST_COLOURS.choose_spec ⟨_, rfl⟩) pa_nil)))) (pe_callTy call_tuple_of rfl T.n_tuple (by decide +kernel) (by exact (pa_cons (pe_callB (call_sortC rfl hr.units) rfl T.n_sorted PyProof.Rows.boot_sorted (by exact (pa_cons (pv 1) pa_nil))) pa_nil))) (pv 1)) rfl)
      (pss_one (ps_fld (pv 0) (pe_ifExp (pt_val (pe_call (ok_are_labels T) (hr.mono (by decide)) rfl T.g_are_labels T.F_are_labels.kp T.B_are_labels .nil passL (pa_cons (pv 2) pa_nil))) (pe_dcU (.dK []) (.inl rfl) (hu_of hr) (own := [("label", 3)]) (g := (gName 3)) (tt := tYes) (tk := (tVar 3)) (tv := (tDGet (tVar 2) (tVar 3))) rfl sc_Kind_init.nd (pi_any (pe_callB (call_sortC rfl hr.units) rfl T.n_sorted PyProof.Rows.boot_sorted (by exact (pa_cons (pv 2) pa_nil)))) (blkOk_by (own := [("label", 3)]) (N := ["self", "colours", "rows", "label"]) (sc := (defScope s_Kind_init)) (by decide +kernel)) (fun _ _ _ _ _ => by exact (pg_name (i := 3) sc_Kind_init.nd rfl (.inl rfl))) (fun _ _ _ _ _ => by exact pts_nil) (fun _ _ _ _ _ => by exact (pv 3)) (fun _ _ _ _ _ => by exact (pe_dget (hu_of hr) (pv 2) (pv 3) (fun _ _ => rfl)))) (pv 2)) rfl))), ?_⟩)
  obtain ⟨M, ds, x, dx, ws, m, mx, rfl, rs, hx, ⟨fs, ⟨c, rw_, rfl, oc, orr, rfl⟩, q⟩ | ⟨C, fs, h, _⟩⟩ := h
  case inr => exact h.elim
  obtain ⟨v1, v2, rfl, r1, r2⟩ := rs.two_of
  -- colours
  refine st_seq (st_fldR (M := M) (i := 0) rfl hx T.cls_Kind T.na_Kind_colours (by simp) (ev_norm m rfl r1 oc (by decide)) fun y1 H1 e1 ry1 => ?_)
  have s1 : SameX x H (upd H1 x (.ins T.C_Kind dx (putF "colours" y1 []))) := (SameX.of e1).upd
  have k1 : Same (msk M H) (msk M (upd H1 x (.ins T.C_Kind dx (putF "colours" y1 [])))) := by
    rw [msk_upd mx]
    exact msk_mono e1
  have g1 : Rep (msk M (upd H1 x (.ins T.C_Kind dx (putF "colours" y1 [])))) (normN c 6) y1 := by
    rw [msk_upd mx]
    exact ry1
  have m1 : Mok M (upd H1 x (.ins T.C_Kind dx (putF "colours" y1 []))) := (m.up e1).upd
  have hx1 : upd H1 x (.ins T.C_Kind dx (putF "colours" y1 [])) x = some (.ins T.C_Kind dx [("colours", y1)]) := upd_same
  generalize upd H1 x (.ins T.C_Kind dx (putF "colours" y1 [])) = G1 at s1 k1 g1 m1 hx1
  -- rows
  have r2' := r2.up k1
  have key : EvD M (tIf (tB (tCall (SpR R_are_labels) [] E0 (tCons (tVar 2) tNil))) (tDcU (.dK []) (iAny K (tCB (rSortC K) (tCons (tVar 2) tNil))) (gName 3) tYes (tVar 3) (tDGet (tVar 2) (tVar 3)) [3]) (tVar 2)) (L2.start ["self", "colours", "rows", "label"] [.ref x, v1, v2]) G1 (normR rw_) := by
    refine ev_ifE (b := areL rw_) (et_B (M := M) (ev_call m1 (ea_one (ev_var rfl r2')) ⟨rw_, rfl, orr, rfl⟩)) (fun h => ?_) fun h => ?_
    · cases rw_ with
      | dK kvs =>
        rcases orr with hf | ⟨kvs', e, hl, hk, nd⟩
        · cases (show false = true from hf)
        cases e
        have hb : labsB kvs = true := h
        obtain ⟨ks1, ks2⟩ := keys_strs hb
        have nr : normR (.dK kvs) = .dK (sortKV kvs) := if_pos hb
        have ndS : (keysS kvs).Nodup := by
          rw [ks2] at nd
          exact List.Pairwise.of_map Sum.inr (fun a b hab e => hab (by rw [e])) nd
        have len : (sortS (keysS kvs)).length = kvs.length := by
          rw [(sortS_perm _).length_eq, ← List.length_map (f := D.str), ← ks1, List.length_map]
        rw [nr]
        refine Ev.to (ev_dc (c := kcK) (ds := (sortS (keysS kvs)).map .str) (labF kvs) m1 (ia_list (Ev.to (ev_sortC m1 (ea_one (ev_var rfl r2')) (ds := (keysS kvs).map .str) (by show some _ = some _; rw [ks1]) (canSort_strs _)) (by rw [sortD_strs]))) (by rw [List.length_map, len]; omega) fun N H5 d y mN eN hd rd => ?_) ?_
        · obtain ⟨z, hz, rfl⟩ := List.mem_map.mp hd
          have hz2 : (.inr z : Key) ∈ kvs.map (·.1) := by
            rw [ks2]
            exact List.mem_map.mpr ⟨z, (sortS_perm _).mem_iff.mp hz, rfl⟩
          obtain ⟨dz, hdz⟩ := vD_mem hz2
          have el : labF kvs (.str z) = some (.inr z, dz) := by
            show some ((.inr z : Key), (vD kvs (.inr z)).getD .non) = _
            rw [hdz] <;> rfl
          rw [el]
          exact eltp_of (c := kcK) (o := some (.inr z, dz)) (s2 := (wipe (L2.start ["self", "colours", "rows", "label"] [.ref x, v1, v2]) [3]).set 3 (some y)) (fun Q q => q) rfl et_yes (fun _ => ⟨.inr z, dz, rfl, ev_var rfl rd, ev_dget (c := kcK) (k := .inr z) (ev_var rfl (Rep.up r2' eN)) (ev_var rfl rd) hdz⟩) (fun z => nomatch z)
        · rw [labF_all]
          show D.dK _ = .dK (sortKV kvs)
          unfold sortKV
          rw [foldP_nodup]
          rw [List.map_map]
          exact List.Pairwise.map _ (fun a b hab e => hab (Sum.inr.inj e)) ((sortS_perm _).symm.nodup ndS)
      | _ => cases h
    · have e : normR rw_ = rw_ := by
        cases rw_ with
        | dK kvs =>
          have hb : labsB kvs = false := h
          show (if labsB kvs = true then D.dK (sortKV kvs) else .dK kvs) = _
          rw [if_neg (by rw [hb]; exact Bool.false_ne_true)]
        | _ => rfl
      rw [e]
      exact ev_var rfl r2'
  refine st_fldR (M := M) (i := 0) rfl hx1 T.cls_Kind T.na_Kind_rows (by simp) key fun y2 H2 e2 ry2 => ?_
  have k2 : Same (msk M G1) (msk M (upd H2 x (.ins T.C_Kind dx (putF "rows" y2 [("colours", y1)])))) := by
    rw [msk_upd mx]
    exact msk_mono e2
  refine q [("colours", y1), ("rows", y2)] _ (s1.trans (SameX.of e2)).upd upd_same ⟨y1, _, rfl, g1.up k2, y2, _, rfl, ?_, rfl⟩
  rw [msk_upd mx]
  exact ry2
end

end K02
namespace K02
open PySem PySem.Spec PyProof.Rows L2 Ak
/-! ### kinds against kinds; a row of a kind -/
section
variable {P : Program} {w : World} {K : PySem.W.Frag} {mg : Str -> Option Value} {base : Heap}
theorem noE {P : Program} {w : World} (st : List Env) (H : Hp) (s : Shared) (e : Value) (s' : Shared) : L2.CX P w st H s E0 e s' -> False := fun ⟨_, _, _, _, _, _, _, _, _, _, _, _, h⟩ => h
def RKd (T : Tx K mg) : EqR := fun x y H k => RPl x y H k ∨ RDic (RIns T.C_Row (R_Row_eq T)) x y H k
def SKd (T : Tx K mg) : DRel := fun d e k => SPl d e k ∨ SDic (SIns T.C_Row (R_Row_eq T)) d e k
theorem lift_Kd (T : Tx K mg) : Lift (RTup K (RKd T)) (STup (SKd T)) := lift_tup (lift_pl.or (lift_dic lift_ins))
theorem rc_Kd (T : Tx K mg) {X : Cx} (hp : X.prog = P) (hw : X.w = w) (hK : X.K = K) (hg : X.mg = mg) (hb : X.base = base) : RcB X 3 (RTup K (RKd T)) := by
  subst hp hw hK hg hb
  exact rcB_tup (mon_pl.or (mon_dic mon_ins)) ((eqB_pl.mono (by decide)).or (eqB_dic mon_ins (eqB_ins (fnr_of (ok_Row_eq T) T.B_Row_eq) T.q_Row noE)))
def R_Kind_eq (T : Tx K mg) : List D -> D -> Prop := fun ds z => exists c r c2 r2 k, ds = [kindD T c r, kindD T c2 r2] ∧ STup (SKd T) (.tup [c, r]) (.tup [c2, r2]) k ∧ z = .bl k
theorem ok_Kind_eq (T : Tx K mg) : FnOk P w K mg base (L2.CX P w) 4 T.f_Kind_eq T.d_Kind_eq ["self", "other"] (SpR (R_Kind_eq T)) := by
  refine T.F_Kind_eq.ok sc_Kind_eq (fun _ _ _ _ h => SpR.len (n := 2) (fun ds z ⟨_, _, _, _, _, e, _⟩ => by rw [e] <;> rfl) h) (fun cdv A outer s H vs Q E hr h => ⟨_, (pss_one (ps_ret (pe_and (pe_callB call_isi rfl T.n_isinstance PyProof.Rows.boot_isinstance (pa_cons (pv 1) (pa_cons (pe_glob (v := .ref T.C_Kind) rfl T.g_Kind rfl) pa_nil))) (pe_one (pe_cmpR (op_eqR (rc_Kd T rfl rfl rfl rfl rfl) (hr.mono (by decide))) (pe_tup (pa_cons (pe_fld (pv 0) rfl) (pa_cons (pe_fld (pv 0) rfl) pa_nil))) (pe_tup (pa_cons (pe_fld (pv 1) rfl) (pa_cons (pe_fld (pv 1) rfl) pa_nil))) (nomark _)))))), ?_⟩)
  obtain ⟨M, ds, z, m, rs, ⟨c, r, c2, r2, k, rfl, hS, rfl⟩, q⟩ := h
  obtain ⟨v, v2, rfl, ra, rb⟩ := rs.two_of
  refine st_ret (M := M) (ev_andV (a := true) (z := .bl k) (ev_isiC (C := T.C_Kind) T.cls_Kind T.is_Kind (ea_cons (ev_var rfl rb) (ea_one (ev_c fun _ => rfl)))) (fun _ => ?_) fun h => nomatch h) fun y H3 e3 ry => q y H3 e3 ry
  exact ev_op (ev_tup m (ea_cons (ev_fld (ev_var rfl ra) T.cls_Kind T.na_Kind_colours rfl) (ea_one (ev_fld (ev_var rfl ra) T.cls_Kind T.na_Kind_rows rfl)))) (ev_tup m (ea_cons (ev_fld (ev_var rfl rb) T.cls_Kind T.na_Kind_colours rfl) (ea_one (ev_fld (ev_var rfl rb) T.cls_Kind T.na_Kind_rows rfl)))) (rd_eqR (lift_Kd T) hS)
def R_krow (T : Tx K mg) : List D -> D -> Prop := fun ds z => exists c kvs l, ds = [kindD T c (.dK kvs), .str l] ∧ z = (vD kvs (.inr l)).getD (rowD T (.int 0) (.int 0) (.tup []) (.tup []))
theorem ok_Kind_row (T : Tx K mg) : FnOk P w K mg base (L2.CX P w) 5 T.f_Kind_row T.d_Kind_row ["self", "label"] (SpR (R_krow T)) := by
  refine T.F_Kind_row.ok sc_Kind_row (fun _ _ _ _ h => SpR.len (n := 2) (fun ds z ⟨_, _, _, e, _⟩ => by rw [e] <;> rfl) h) (fun cdv A outer s H vs Q E hr h => ⟨_, (pss_one (ps_ret (pe_dget2 (hu_of hr) (pe_fld (pv 0) rfl) (pv 1) (pe_make T.mk_Row (ok_Row_init T) (hr.mono (by decide)) rfl T.g_Row T.B_Row_init_3.choose_spec.2 T.B_Row_init_3.choose_spec.1 passL (pa_cons pe_int (pa_cons pe_int pa_nil))) ⟨rfl, rfl, rfl, rfl⟩))), ?_⟩)
  obtain ⟨M, ds, z, m, rs, ⟨c, kvs, l, rfl, rfl⟩, q⟩ := h
  obtain ⟨v, v2, rfl, ra, rb⟩ := rs.two_of
  exact st_ret (M := M) (ev_dget2 (c := kcK) (k := .inr l) (ev_fld (ev_var rfl ra) T.cls_Kind T.na_Kind_rows rfl) (ev_var rfl rb) (ev_makeD (C := T.C_Row) (R := R_row K) (X := nox) (fs := rowF (.int 0) (.int 0) (.tup []) (.tup [])) (dds := [.oth (.ref T.e_Row_init_0), .oth (.ref T.e_Row_init_1)]) m (fun G => ⟨_, _, rfl, rfl, _, _, rfl, rfl, rfl⟩) (ea_cons ev_int (ea_one ev_int))
    ⟨.int 0, .int 0, .oth (.ref T.e_Row_init_0), .oth (.ref T.e_Row_init_1), rfl, .inr ⟨_, rfl, T.E_Row_init_0⟩, .inr ⟨_, rfl, T.E_Row_init_1⟩, rfl⟩)) fun y H3 e3 ry => q y H3 e3 ry
/-! ### a row that can stand -/
def highB (l : Int) (hi : D) (hst : Int) : Bool := match hi with
  | .non => true
  | .int h => decide (l ≤ h) && decide (h ≤ hst)
  | _ => false
def keyD : D -> Key
  | .str x => .inr x
  | _ => .inl 0
def namesIn (d : D) (kvs : List (Key × D)) : Bool := (d.its.getD []).all fun e => (vD kvs (keyD e)).isSome
def toldB (lo hi mu no : D) (kvs : List (Key × D)) (hst : Int) : Bool := match lo with
  | .int l => decide (0 ≤ l) && (decide (l ≤ hst) && (highB l hi hst && (areN mu 16 && (areN no 16 && (namesIn mu kvs && namesIn no kvs)))))
  | _ => false
def R_told (T : Tx K mg) : List D -> D -> Prop := fun ds z => exists row kvs hst, ds = [row, .dK kvs, .int hst] ∧ ((exists es, row = .tup es ∧ z = .bl false) ∨ exists lo hi mu no, row = rowD T lo hi mu no ∧ lo.fi = true ∧ hi.fi = true ∧ mu.fi = true ∧ no.fi = true ∧ z = .bl (toldB lo hi mu no kvs hst))
abbrev S4 (a b c : V) (o : Option V) : L2.St := [some a, some b, some c, o]
theorem ok_is_told_row (T : Tx K mg) : FnOk P w K mg base (L2.CX P w) 3 T.f_is_told_row T.d_is_told_row ["row", "kinds", "highest"] (SpR (R_told T)) := by
  refine T.F_is_told_row.ok sc_is_told_row (fun _ _ _ _ h => SpR.len (n := 3) (fun ds z ⟨_, _, _, e, _⟩ => by rw [e] <;> rfl) h) (fun cdv A outer s H vs Q E hr h => ⟨_, (pss_cons (ps_if (PW.pt (pw_or (pt_not (pt_val (pe_callB call_isi rfl T.n_isinstance PyProof.Rows.boot_isinstance (pa_cons (pv 0) (pa_cons (pe_glob (v := .ref T.C_Row) rfl T.g_Row rfl) pa_nil))))) (pw_or (pt_not (pt_val (pe_call (ok_is_number T) (hr.mono (by decide)) rfl T.g_is_number T.F_is_number.kp T.B_is_number .nil passL (pa_cons (pe_fld (pv 0) rfl) (pa_cons pe_int pa_nil))))) (pw_or1 (pt_cmpR op_gt (pe_fld (pv 0) rfl) (pv 2) (nomark _)))))) (pss_one (ps_ret pe_bl)) pss_nil)
      (pss_cons (ps_if (PW.pt (pw_and (pt_cmpR op_notN (pe_fld (pv 0) rfl) pe_non (nomark _)) (pw_and1 (PW.pt (pw_or (pt_not (pt_val (pe_call (ok_is_number T) (hr.mono (by decide)) rfl T.g_is_number T.F_is_number.kp T.B_is_number .nil passL (pa_cons (pe_fld (pv 0) rfl) (pa_cons (pe_fld (pv 0) rfl) pa_nil))))) (pw_or1 (pt_cmpR op_gt (pe_fld (pv 0) rfl) (pv 2) (nomark _)))))))) (pss_one (ps_ret pe_bl)) pss_nil)
      (pss_cons (ps_if (PW.pt (pw_or (pt_not (pt_val (pe_call (ok_are_names T) (hr.mono (by decide)) rfl T.g_are_names T.F_are_names.kp T.B_are_names .nil passL (pa_cons (pe_fld (pv 0) rfl) (pa_cons (pe_glob (v := .int 16) rfl T.c_MOST_KINDS.choose_spec ⟨_, rfl⟩) pa_nil))))) (pw_or1 (pt_not (pt_val (pe_call (ok_are_names T) (hr.mono (by decide)) rfl T.g_are_names T.F_are_names.kp T.B_are_names .nil passL (pa_cons (pe_fld (pv 0) rfl) (pa_cons (pe_glob (v := .int 16) rfl T.c_MOST_KINDS.choose_spec ⟨_, rfl⟩) pa_nil)))))))) (pss_one (ps_ret pe_bl)) pss_nil)
      (pss_one (ps_ret (pe_callB (cr_all rfl) rfl T.n_all PyProof.Rows.boot_all (by exact (pa_cons (pe_lc (own := [("name", 3)]) (g := (gName 3)) (tt := tYes) (te := (tOp (rInU false) (tVar 3) (tVar 1))) rfl sc_is_told_row.nd (pi_any (pe_tup (StX.pa_star (pe_fld (pv 0) rfl) (StX.pa_star (pe_fld (pv 0) rfl) pa_nil)))) (blkOk_by (own := [("name", 3)]) (N := ["row", "kinds", "highest", "name"]) (sc := (defScope s_is_told_row)) (by decide +kernel)) (fun _ _ _ _ _ => by exact (pg_name (i := 3) sc_is_told_row.nd rfl (.inl rfl))) (fun _ _ _ _ _ => by exact pts_nil) (fun _ _ _ _ _ => by exact (pe_cmpR (op_inU hr.units) (pv 3) (pv 1) (by with_unfolding_all rfl)))) pa_nil)))))))), ?_⟩)
  obtain ⟨M, ds, z, m, rs, ⟨row, kvs, hst, rfl, hrow⟩, q⟩ := h
  obtain ⟨v, v2, v3, rfl, ra, rb, rc⟩ := rs.three_of
  have ev3 : v3 = V.int hst := rc
  subst ev3
  rcases hrow with ⟨es, rfl, rfl⟩ | ⟨lo, hi, mu, no, rfl, f1, f2, f3, f4, rfl⟩
  · exact st_seq (st_ifT (et_orT (et_not (b := false) (et_B (M := M) (ev_isiT (d := .tup es) (C := T.C_Row) (ea_cons (ev_var rfl ra) (ea_one (ev_c fun _ => rfl))) (fun e => absurd (show ("tuple" : String) = "" from e) (by decide)) (fun _ e => nomatch e) T.kt_tuple_Row)))) fun H2 e2 => st_ret (M := M) ev_bl fun y H3 e3 ry => q y H3 (e2.trans e3) ry)
  have isr : EvT (tNot (tB (tCB (rIsi K) (tCons (tVar 0) (tCons (tC (.ref T.C_Row)) tNil))))) (S4 v v2 (.int hst) none) H false := et_not (b := true) (et_B (M := M) (ev_isiC (C := T.C_Row) T.cls_Row T.is_Row (ea_cons (ev_var rfl ra) (ea_one (ev_c fun _ => rfl)))))
  have fld : forall {H1 : Hp} {f : Str} {d : D}, Same H H1 -> NoAttr K T.C_Row f -> (rowF lo hi mu no).lookup f = some d -> EvD M (tFld K (tVar 0) f) (S4 v v2 (.int hst) none) H1 d := fun e n l => ev_fld (ev_var rfl (ra.up (msk_mono e))) T.cls_Row n l
  have flow := fun (H1 : Hp) (e : Same H H1) => fld (H1 := H1) e T.na_Row_low rfl
  have fhigh := fun (H1 : Hp) (e : Same H H1) => fld (H1 := H1) e T.na_Row_high rfl
  have fmu := fun (H1 : Hp) (e : Same H H1) => fld (H1 := H1) e T.na_Row_musts rfl
  have fno := fun (H1 : Hp) (e : Same H H1) => fld (H1 := H1) e T.na_Row_nots rfl
  have fin : forall (b : Bool) (H2 : Hp), Same H H2 -> toldB lo hi mu no kvs hst = b -> forall {te : TE} {E' : Ends}, EvD M te (S4 v v2 (.int hst) none) H2 (.bl b) -> (forall v G, Q v G -> E'.rt v G) -> tRet te E' (S4 v v2 (.int hst) none) H2 := fun b H2 e2 eb {te E'} h k => st_ret (M := M) h fun y H3 e3 ry => k y H3 (q y H3 (e2.trans e3) (by rw [eb]; exact ry))
  -- the low number
  by_cases hlo : exists l, lo = .int l ∧ 0 ≤ l ∧ l ≤ hst
  case neg =>
    refine st_seq (st_ifT (et_orF isr ?_) fun H2 e2 => fin false H2 e2 ?_ ev_bl fun _ _ z => z)
    · cases lo with
      | int l =>
        by_cases h0 : 0 ≤ l
        · have h1 : decide (hst < l) = true := decide_eq_true (by
            rcases Int.lt_or_le hst l with z | z
            · exact z
            · exact absurd ⟨l, rfl, h0, z⟩ hlo)
          exact et_orF (et_not (b := true) (et_B (M := M) (Ev.to (ev_call m (ea_cons (flow H (Same.refl H)) (ea_one ev_int)) ⟨_, 0, rfl, f1, rfl⟩) (by show D.bl (decide ((0 : Int) ≤ l)) = _; rw [decide_eq_true h0])))) (et_test (M := M) (Ev.to (ev_op (flow H (Same.refl H)) (ev_var (d := .int hst) rfl rfl) rd_gt) (by rw [h1])))
        · exact et_orT (et_not (b := false) (et_B (M := M) (Ev.to (ev_call m (ea_cons (flow H (Same.refl H)) (ea_one ev_int)) ⟨_, 0, rfl, f1, rfl⟩) (by show D.bl (decide ((0 : Int) ≤ l)) = _; rw [decide_eq_false h0]))))
      | _ => exact et_orT (et_not (b := false) (et_B (M := M) (ev_call m (ea_cons (flow H (Same.refl H)) (ea_one ev_int)) ⟨_, 0, rfl, f1, rfl⟩)))
    · cases lo with
      | int l =>
        show (decide (0 ≤ l) && (decide (l ≤ hst) && _)) = false
        by_cases h0 : 0 ≤ l
        · by_cases h1 : l ≤ hst
          · exact absurd ⟨l, rfl, h0, h1⟩ hlo
          · rw [decide_eq_false h1, Bool.false_and, Bool.and_false]
        · rw [decide_eq_false h0, Bool.false_and]
      | _ => rfl
  obtain ⟨l, rfl, l0, l1⟩ := hlo
  have gt0 : decide (hst < l) = false := decide_eq_false (by omega)
  have tl : toldB (.int l) hi mu no kvs hst = (highB l hi hst && (areN mu 16 && (areN no 16 && (namesIn mu kvs && namesIn no kvs)))) := by
    show (decide (0 ≤ l) && (decide (l ≤ hst) && _)) = _
    rw [decide_eq_true l0, decide_eq_true l1, Bool.true_and, Bool.true_and]
  refine st_seq (st_ifF (et_orF isr (et_orF (et_not (b := true) (et_B (M := M) (Ev.to (ev_call m (ea_cons (flow H (Same.refl H)) (ea_one ev_int)) ⟨_, 0, rfl, f1, rfl⟩) (by show D.bl (decide ((0 : Int) ≤ l)) = _; rw [decide_eq_true l0])))) (et_test (M := M) (Ev.to (ev_op (flow H (Same.refl H)) (ev_var (d := .int hst) rfl rfl) rd_gt) (by rw [gt0]))))) fun H2 e2 => ?_)
  have m2 := m.up e2
  dsimp only [tNext]
  -- the high one
  refine st_seq (st_if (b := !highB l hi hst) ?_ (fun hb H3 e3 => fin false H3 (e2.trans e3) ?_ ev_bl fun _ _ z => z) fun hb H3 e3 => ?_)
  · have nono : forall w, hi ≠ .oth w := fun w e => by
      rw [e] at f2
      cases f2
    cases hi with
    | non => exact et_and (a := false) (b := false) (et_test (M := M) (ev_op (fhigh H2 e2) ev_non (rd_notN nono))) fun h => nomatch h
    | int h =>
      have z : (!highB l (.int h) hst) = (true && ((!decide (l ≤ h)) || decide (hst < h))) := by
        show (!(decide (l ≤ h) && decide (h ≤ hst))) = _
        rw [Bool.not_and, Bool.true_and]
        congr 1
        by_cases y : h ≤ hst
        · rw [decide_eq_true y, decide_eq_false (by omega)] <;> rfl
        · rw [decide_eq_false y, decide_eq_true (by omega)] <;> rfl
      rw [z]
      exact et_and (et_test (M := M) (ev_op (fhigh H2 e2) ev_non (rd_notN nono))) fun _ => et_or (et_not (et_B (M := M) (ev_call m2 (ea_cons (fhigh H2 e2) (ea_one (flow H2 e2))) ⟨_, l, rfl, f2, rfl⟩))) fun _ => et_test (M := M) (ev_op (fhigh H2 e2) (ev_var (d := .int hst) rfl rfl) rd_gt)
    | oth w => exact absurd rfl (nono w)
    | ins C fs => cases f2
    | dK k => cases f2
    | dT k => cases f2
    | _ => exact et_and (a := true) (b := true) (et_test (M := M) (ev_op (fhigh H2 e2) ev_non (rd_notN nono))) fun _ => et_orT (et_not (b := false) (et_B (M := M) (ev_call m2 (ea_cons (fhigh H2 e2) (ea_one (flow H2 e2))) ⟨_, l, rfl, f2, rfl⟩)))
  · have h1 : highB l hi hst = false := by simpa using hb
    rw [tl, h1, Bool.false_and]
  have h1 : highB l hi hst = true := by simpa using hb
  have e23 := e2.trans e3
  have m3 := m.up e23
  dsimp only [tNext]
  -- the names
  refine st_seq (st_if (b := (!areN mu 16) || !areN no 16) (et_or (et_not (et_B (M := M) (ev_call m3 (ea_cons (fmu H3 e23) (ea_one ev_int)) (.inl ⟨_, 16, rfl, f3, rfl⟩)))) fun _ => et_not (et_B (M := M) (ev_call m3 (ea_cons (fno H3 e23) (ea_one ev_int)) (.inl ⟨_, 16, rfl, f4, rfl⟩)))) (fun hb H4 e4 => fin false H4 (e23.trans e4) ?_ ev_bl fun _ _ z => z) fun hb H4 e4 => ?_)
  · rw [tl]
    cases h2 : areN mu 16 with
    | false => rw [Bool.false_and, Bool.and_false]
    | true =>
      cases h3 : areN no 16 with
      | false => rw [Bool.false_and, Bool.and_false, Bool.and_false]
      | true =>
        rw [h2, h3] at hb
        cases hb
  have h2 : areN mu 16 = true := by
    cases z : areN mu 16 with
    | true => rfl
    | false =>
      rw [z] at hb
      cases hb
  have h3 : areN no 16 = true := by
    cases z : areN no 16 with
    | true => rfl
    | false =>
      rw [z, h2] at hb
      cases hb
  have e24 := e23.trans e4
  have m4 := m.up e24
  dsimp only [tNext]
  obtain ⟨la, ka, ia, _, _, lla⟩ := areN_names h2 f3
  obtain ⟨lb, kb, ib, _, _, llb⟩ := areN_names h3 f4
  refine fin _ H4 e24 rfl (E' := { nx := fun _ H' => Q .non H', rt := Q }) (Ev.to (ev_all (bs := (la ++ lb).map fun x => (vD kvs (.inr x)).isSome) (ea_one (Ev.to (ev_lcm (ds := (la ++ lb).map .str) (fun d => .bl (vD kvs (keyD d)).isSome) m4 (ia_tup (ev_tup (ds := (la ++ lb).map .str) m4 ?_ ?_)) (by rw [List.length_map, List.length_append]; omega) fun N H5 d y mN eN hd rd => ?_) ?_))) ?_) fun _ _ z => z
  · rw [List.map_append]
    have z := ea_star (K := K) (fno H4 e24) kb ea_nil
    rw [List.append_nil] at z
    exact ea_star (fmu H4 e24) ka z
  · rw [List.length_map, List.length_append]
    omega
  · obtain ⟨x, _, rfl⟩ := List.mem_map.mp hd
    exact elt_all (s2 := (wipe (S4 v v2 (.int hst) none) [3]).set 3 (some y)) (fun Q q => q) rfl (ev_op (ev_var rfl rd) (ev_var rfl ((rb.up (msk_mono (M := M) e24)).up eN)) (rd_inDU (neg := false) (c := kcK) (k := .inr x) (kvs := kvs)))
  · rw [List.map_map, List.map_map] <;> rfl
  · rw [tl, h1, h2, h3]
    unfold namesIn
    rw [ia, ib]
    show D.bl (((la ++ lb).map fun x => (vD kvs (.inr x)).isSome).all id) = .bl (((la.map D.str).all fun e => (vD kvs (keyD e)).isSome) && ((lb.map D.str).all fun e => (vD kvs (keyD e)).isSome))
    rw [List.all_map, List.all_map, List.all_map, List.all_append] <;> rfl
end

end K02
namespace K02
open PySem PySem.Spec PyProof.Rows L2 Ak
/-! ### strata: plain facts -/
def Sol (N : List Str) (mu no : Str -> List Str) (st : Str -> Int) : Prop := forall n, n ∈ N -> 0 ≤ st n ∧ (forall m, m ∈ mu n -> st m ≤ st n) ∧ forall o, o ∈ no n -> st o + 1 ≤ st n
def isMax (m : Int) (l : List Int) : Prop := m ∈ l ∧ forall y, y ∈ l -> y ≤ m
theorem max_some : forall (x : Int) (l : List Int), exists m, isMax m (x :: l)
  | x, [] => ⟨x, List.mem_cons_self, fun y hy => by rw [List.mem_singleton.mp hy]; exact Int.le_refl _⟩
  | x, y :: l => by
    obtain ⟨m, h1, h2⟩ := max_some y l
    by_cases h : x ≤ m
    · refine ⟨m, List.mem_cons_of_mem _ h1, fun z hz => ?_⟩
      rcases List.mem_cons.mp hz with e | hz
      · rw [e]
        exact h
      · exact h2 z hz
    · refine ⟨x, List.mem_cons_self, fun z hz => ?_⟩
      rcases List.mem_cons.mp hz with e | hz
      · rw [e]
        exact Int.le_refl _
      · have := h2 z hz
        omega
/-- what a turn of the search keeps -/
structure Below (N : List Str) (mu no : Str -> List Str) (f : Str -> Int) : Prop where
  nn : forall n, n ∈ N -> 0 ≤ f n
  lt : forall n, n ∈ N -> f n < N.length
  le : forall st, Sol N mu no st -> forall n, n ∈ N -> f n ≤ st n
/-- the two greatest ones of a name -/
structure Two (mu no : Str -> List Str) (f : Str -> Int) (n : Str) (a b : Int) : Prop where
  one : isMax a (0 :: (mu n).map f)
  two : isMax b (a :: (no n).map fun o => f o + 1)
theorem two_some (mu no : Str -> List Str) (f : Str -> Int) (n : Str) : exists a b, Two mu no f n a b := by
  obtain ⟨a, ha⟩ := max_some 0 ((mu n).map f)
  obtain ⟨b, hb⟩ := max_some a ((no n).map fun o => f o + 1)
  exact ⟨a, b, ha, hb⟩
section
variable {N : List Str} {mu no : Str -> List Str} {f : Str -> Int} {n : Str} {a b : Int}
theorem Two.nn (t : Two mu no f n a b) : 0 ≤ a ∧ a ≤ b := ⟨t.one.2 0 List.mem_cons_self, t.two.2 a List.mem_cons_self⟩
theorem Two.le (t : Two mu no f n a b) (cl : forall m, m ∈ N -> (forall x, x ∈ mu m -> x ∈ N) ∧ forall x, x ∈ no m -> x ∈ N) (B : Below N mu no f) (hn : n ∈ N) {st : Str -> Int} (hs : Sol N mu no st) : b ≤ st n := by
  obtain ⟨s0, s1, s2⟩ := hs n hn
  have ha : a ≤ st n := by
    rcases List.mem_cons.mp t.one.1 with e | h
    · rw [e]
      exact s0
    · obtain ⟨m, hm, e⟩ := List.mem_map.mp h
      have h1 := B.le st hs m ((cl n hn).1 m hm)
      have h2 := s1 m hm
      omega
  rcases List.mem_cons.mp t.two.1 with e | h
  · rw [e]
    exact ha
  · obtain ⟨o, ho, e⟩ := List.mem_map.mp h
    have h1 := B.le st hs o ((cl n hn).2 o ho)
    have h2 := s2 o ho
    have e : f o + 1 = b := e
    omega
theorem Two.ok (t : Two mu no f n a b) (h : b ≤ f n) : (forall m, m ∈ mu n -> f m ≤ f n) ∧ forall o, o ∈ no n -> f o + 1 ≤ f n := by
  have h0 := t.nn
  refine ⟨fun m hm => ?_, fun o ho => ?_⟩
  · have h1 := t.one.2 (f m) (List.mem_cons_of_mem _ (List.mem_map.mpr ⟨m, hm, rfl⟩))
    omega
  · have h1 := t.two.2 (f o + 1) (List.mem_cons_of_mem _ (List.mem_map.mpr ⟨o, ho, rfl⟩))
    omega
def upF (f : Str -> Int) (n : Str) (v : Int) : Str -> Int := fun x => if x = n then v else f x
theorem Below.up (B : Below N mu no f) (t : Two mu no f n a b) (cl : forall m, m ∈ N -> (forall x, x ∈ mu m -> x ∈ N) ∧ forall x, x ∈ no m -> x ∈ N) (hn : n ∈ N) (hb : b < N.length) : Below N mu no (upF f n b) := by
  have h0 := t.nn
  refine ⟨fun x hx => ?_, fun x hx => ?_, fun st hs x hx => ?_⟩
  · unfold upF
    by_cases e : x = n
    · rw [if_pos e]
      omega
    · rw [if_neg e]
      exact B.nn x hx
  · unfold upF
    by_cases e : x = n
    · rw [if_pos e]
      exact hb
    · rw [if_neg e]
      exact B.lt x hx
  · unfold upF
    by_cases e : x = n
    · rw [if_pos e, e]
      exact t.le cl B hn hs
    · rw [if_neg e]
      exact B.le st hs x hx
/-- how far it can go -/
def mes (N : List Str) (k : Int) (f : Str -> Int) : Nat := (N.map fun n => (k - f n).toNat).sum
theorem mes_le {k : Int} (h : f n ≤ b) : forall N : List Str, mes N k (upF f n b) ≤ mes N k f
  | [] => Nat.le_refl _
  | x :: N => by
    have ih := mes_le (k := k) h N
    unfold mes at ih ⊢
    rw [List.map_cons, List.map_cons, List.sum_cons, List.sum_cons]
    have hx : (k - upF f n b x).toNat ≤ (k - f x).toNat := by
      unfold upF
      by_cases e : x = n
      · rw [if_pos e, e]
        omega
      · rw [if_neg e]
        omega
    omega
theorem mes_lt {k : Int} (h : f n < b) (hk : b ≤ k) : forall {N : List Str}, n ∈ N -> mes N k (upF f n b) < mes N k f
  | x :: N, hx => by
    have h1 := mes_le (k := k) (Int.le_of_lt h) N
    unfold mes at h1 ⊢
    rw [List.map_cons, List.map_cons, List.sum_cons, List.sum_cons]
    by_cases e : x = n
    · have h2 : (k - upF f n b x).toNat < (k - f x).toNat := by
        unfold upF
        rw [if_pos e, e]
        omega
      omega
    · have hn : n ∈ N := by
        rcases List.mem_cons.mp hx with z | z
        · exact absurd z.symm e
        · exact z
      have ih := mes_lt (k := k) h hk hn
      unfold mes at ih
      have h2 : (k - upF f n b x).toNat = (k - f x).toNat := by
        unfold upF
        rw [if_neg e]
      omega
end
/-! a way to tell strata can be told with numbers below how many there are -/
theorem count_lt {α : Type} {p q : α -> Bool} : forall {l : List α} {x : α}, (forall y, y ∈ l -> p y = true -> q y = true) -> x ∈ l -> p x = false -> q x = true -> l.countP p < l.countP q
  | y :: l, x, h, hx, h1, h2 => by
    have hm : l.countP p ≤ l.countP q := List.countP_mono_left fun z hz => h z (List.mem_cons_of_mem _ hz)
    rcases List.mem_cons.mp hx with e | hx
    · rw [← e, List.countP_cons, List.countP_cons, h1, h2]
      simp
      omega
    · have ih := count_lt (fun z hz => h z (List.mem_cons_of_mem _ hz)) hx h1 h2
      rw [List.countP_cons, List.countP_cons]
      have h3 : (if p y = true then 1 else 0) ≤ (if q y = true then 1 else 0) := by
        cases z : p y with
        | false => simp
        | true => rw [h y List.mem_cons_self z] <;> simp
      omega
theorem squeeze {N : List Str} {mu no : Str -> List Str} (cl : forall m, m ∈ N -> (forall x, x ∈ mu m -> x ∈ N) ∧ forall x, x ∈ no m -> x ∈ N) {st : Str -> Int} (hs : Sol N mu no st) : exists st', Sol N mu no st' ∧ forall n, n ∈ N -> st' n < N.length := by
  refine ⟨fun n => (N.countP fun x => decide (st x < st n) : Nat), fun n hn => ⟨Int.natCast_nonneg _, fun m hm => ?_, fun o ho => ?_⟩, fun n hn => ?_⟩
  · have h1 := (hs n hn).2.1 m hm
    have h2 : (N.countP fun x => decide (st x < st m)) ≤ N.countP fun x => decide (st x < st n) := List.countP_mono_left fun x _ h => by
      rw [decide_eq_true_eq] at h ⊢
      omega
    dsimp only
    omega
  · have h1 := (hs n hn).2.2 o ho
    have h2 : (N.countP fun x => decide (st x < st o)) < N.countP fun x => decide (st x < st n) := count_lt (x := o) (fun x _ h => by
      rw [decide_eq_true_eq] at h ⊢
      omega) ((cl n hn).2 o ho) (decide_eq_false (by omega)) (decide_eq_true (by omega))
    dsimp only
    omega
  · have h2 : (N.countP fun x => decide (st x < st n)) < N.countP fun _ => true := count_lt (x := n) (fun x _ h => rfl) hn (decide_eq_false (by omega)) rfl
    rw [List.countP_true] at h2
    dsimp only
    omega
theorem no_sol {N : List Str} {mu no : Str -> List Str} {f : Str -> Int} {n : Str} {a b : Int} (cl : forall m, m ∈ N -> (forall x, x ∈ mu m -> x ∈ N) ∧ forall x, x ∈ no m -> x ∈ N) (B : Below N mu no f) (t : Two mu no f n a b) (hn : n ∈ N) (hb : (N.length : Int) ≤ b) (st : Str -> Int) : ¬ Sol N mu no st := fun hs => by
  obtain ⟨st', h1, h2⟩ := squeeze cl hs
  have h3 := t.le cl B hn h1
  have h4 := h2 n hn
  omega
/-- the least way to tell them -/
def Least (N : List Str) (mu no : Str -> List Str) (f : Str -> Int) : Prop := Sol N mu no f ∧ forall st, Sol N mu no st -> forall n, n ∈ N -> f n ≤ st n
theorem Least.uniq {N : List Str} {mu no : Str -> List Str} {f g : Str -> Int} (h1 : Least N mu no f) (h2 : Least N mu no g) : forall n, n ∈ N -> f n = g n := fun n hn => by
  have a := h1.2 g h2.1 n hn
  have b := h2.2 f h1.1 n hn
  omega

end K02
namespace K02
open PySem PySem.Spec PyProof.Rows L2 Ak
/-! ### strata, the walk -/
structure RowI where
  lo : Int
  hi : Option Int
  mu : List Str
  no : List Str
structure KindI where
  cs : List Str
  rows : List (Str × RowI)
def KindI.mus (k : KindI) : List Str := (k.rows.map fun p => p.2.mu).flatten
def KindI.nos (k : KindI) : List Str := (k.rows.map fun p => p.2.no).flatten
abbrev Kinds := List (Str × KindI)
def Kinds.mu (ks : Kinds) (n : Str) : List Str := match ks.lookup n with
  | some k => k.mus
  | none => []
def Kinds.no (ks : Kinds) (n : Str) : List Str := match ks.lookup n with
  | some k => k.nos
  | none => []
def namesD (l : List Str) : D := .tup (l.map .str)
section
variable {P : Program} {w : World} {K : PySem.W.Frag} {mg : Str -> Option Value} {base : Heap}
def rowI (T : Tx K mg) (r : RowI) : D := rowD T (.int r.lo) (hiD r.hi) (namesD r.mu) (namesD r.no)
def rowsI (T : Tx K mg) (rs : List (Str × RowI)) : List (Key × D) := rs.map fun p => (.inr p.1, rowI T p.2)
def kindI (T : Tx K mg) (k : KindI) : D := kindD T (namesD k.cs) (.dK (rowsI T k.rows))
def kindsI (T : Tx K mg) (ks : Kinds) : List (Key × D) := ks.map fun p => (.inr p.1, kindI T p.2)
/-- few enough, and all names asked are there -/
structure Fits (ks : Kinds) : Prop where
  nd : (ks.map (·.1)).Nodup
  few : ks.length ≤ 60
  rows : forall p, p ∈ ks -> p.2.rows.length ≤ 60
  row : forall p, p ∈ ks -> forall q, q ∈ p.2.rows -> q.2.mu.length ≤ 16 ∧ q.2.no.length ≤ 16
  cl : forall p, p ∈ ks -> (forall x, x ∈ p.2.mus -> x ∈ ks.map (·.1)) ∧ forall x, x ∈ p.2.nos -> x ∈ ks.map (·.1)
theorem lookup_at : forall {ks : Kinds} {i : Nat} {n : Str} {k : KindI}, (ks.map (·.1)).Nodup -> ks[i]? = some (n, k) -> ks.lookup n = some k
  | p :: ks, 0, n, k, _, h => by
    have e : p = (n, k) := by simpa using h
    rw [e]
    simp [List.lookup]
  | p :: ks, i + 1, n, k, nd, h => by
    rw [List.map_cons, List.nodup_cons] at nd
    have h' : ks[i]? = some (n, k) := by simpa using h
    have hn : n ∈ ks.map (·.1) := List.mem_map.mpr ⟨(n, k), List.mem_of_getElem? h', rfl⟩
    have ne : n ≠ p.1 := fun e => nd.1 (by rw [← e]; exact hn)
    rw [List.lookup_cons, show (n == p.1) = false from beq_eq_false_iff_ne.mpr ne]
    exact lookup_at nd.2 h'
theorem Fits.asks {ks : Kinds} (h : Fits ks) {i : Nat} {n : Str} {k : KindI} (hi : ks[i]? = some (n, k)) : ks.mu n = k.mus ∧ ks.no n = k.nos := by
  have e := lookup_at h.nd hi
  unfold Kinds.mu Kinds.no
  rw [e]
  exact ⟨rfl, rfl⟩
theorem Fits.closed {ks : Kinds} (h : Fits ks) : forall m, m ∈ ks.map (·.1) -> (forall x, x ∈ ks.mu m -> x ∈ ks.map (·.1)) ∧ forall x, x ∈ ks.no m -> x ∈ ks.map (·.1) := fun m hm => by
  obtain ⟨i, hi, e⟩ := List.mem_iff_getElem.mp hm
  rw [List.length_map] at hi
  rw [List.getElem_map] at e
  have hg : ks[i]? = some (m, ks[i].2) := by
    rw [List.getElem?_eq_getElem hi, ← e]
  obtain ⟨a1, a2⟩ := h.asks hg
  rw [a1, a2]
  exact h.cl (m, ks[i].2) (List.mem_of_getElem? hg)
def wsF (N : List Str) (f : Str -> Int) : List (Key × V) := N.map fun x => (.inr x, .int (f x))
theorem wsF_val {f : Str -> Int} {x : Str} : forall {N : List Str}, x ∈ N -> valV (wsF N f) (.inr x) = some (.int (f x))
  | y :: N, h => by
    by_cases e : y = x
    · subst e
      exact valV_pos rfl
    · have hx : x ∈ N := by
        rcases List.mem_cons.mp h with z | z
        · exact absurd z.symm e
        · exact z
      show valV ((.inr y, .int (f y)) :: wsF N f) (.inr x) = _
      rw [valV_neg (fun z => e (Sum.inr.inj z))]
      exact wsF_val hx
theorem wsF_put {N : List Str} {f : Str -> Int} {x : Str} {v : Int} (h : x ∈ N) : putK (wsF N f) (.inr x) (.int v) = wsF N (upF f x v) := by
  have ha : ((wsF N f).any fun kv => decide (kv.1 = (.inr x : Key))) = true := List.any_eq_true.mpr ⟨(.inr x, .int (f x)), List.mem_map.mpr ⟨x, h, rfl⟩, decide_eq_true rfl⟩
  unfold putK
  rw [if_pos ha]
  unfold wsF
  rw [List.map_map]
  refine List.map_congr_left fun y _ => ?_
  show (if (.inr y : Key) = .inr x then ((.inr y : Key), V.int v) else (.inr y, .int (f y))) = (.inr y, .int (upF f x v y))
  unfold upF
  by_cases e : y = x
  · rw [if_pos (by rw [e]), if_pos e]
  · rw [if_neg (fun z => e (Sum.inr.inj z)), if_neg e]
def R_strata (T : Tx K mg) : List D -> D -> Prop := fun ds z => exists ks, ds = [.dK (kindsI T ks)] ∧ Fits ks ∧ ((exists f, Least (ks.map (·.1)) ks.mu ks.no f ∧ z = .dK ((ks.map (·.1)).map fun x => (.inr x, .int (f x)))) ∨ ((forall st, ¬ Sol (ks.map (·.1)) ks.mu ks.no st) ∧ z = .non))
abbrev S8 (a b : V) (o2 o3 o4 o5 o6 o7 : Option V) : L2.St := [some a, some b, o2, o3, o4, o5, o6, o7]
def zeroF : D -> Option (Key × D)
  | .str x => some (.inr x, .int 0)
  | _ => none
theorem zeroF_all (l : List Str) : (l.map D.str).filterMap zeroF = l.map fun x => ((.inr x : Key), D.int 0) := by
  induction l with
  | nil => rfl
  | cons x l ih => rw [List.map_cons, List.filterMap_cons_some (f := zeroF) (a := D.str x) (b := (.inr x, .int 0)) rfl, ih] <;> rfl
theorem repP_ints {G : Hp} {f : Str -> Int} : forall {N : List Str} {ws : List (Key × V)}, RepP G (N.map fun x => ((.inr x : Key), D.int (f x))) ws -> ws = wsF N f
  | [], ws, h => by
    cases h
    rfl
  | x :: N, ws, h => by
    cases h with
    | @cons p q ps qs hpq t =>
      have h1 := hpq.1
      have h2 : q.2 = V.int (f x) := hpq.2
      obtain ⟨q1, q2⟩ := q
      dsimp only at h1 h2
      rw [← h1, h2, repP_ints t] <;> rfl
theorem repP_wsF {G : Hp} {f : Str -> Int} : forall N : List Str, RepP G (N.map fun x => ((.inr x : Key), D.int (f x))) (wsF N f)
  | [] => .nil
  | x :: N => .cons ⟨rfl, rfl⟩ (repP_wsF N)
def numD (g : Str -> Int) : D -> D
  | .str x => .int (g x)
  | _ => .non
theorem fD_val {f : Str -> Int} {x : Str} : forall {N : List Str}, x ∈ N -> vD (N.map fun x => ((.inr x : Key), D.int (f x))) (.inr x) = some (.int (f x))
  | y :: N, h => by
    by_cases e : y = x
    · subst e
      simp [vD]
    · have hx : x ∈ N := by
        rcases List.mem_cons.mp h with z | z
        · exact absurd z.symm e
        · exact z
      have ih := fD_val (f := f) hx
      have ne : ¬ ((Sum.inr y : Key) = .inr x) := fun z => e (Sum.inr.inj z)
      unfold vD at ih ⊢
      rw [List.map_cons, List.find?_cons_of_neg (by simp [e])]
      exact ih
def fD (N : List Str) (f : Str -> Int) : D := .dK (N.map fun x => ((.inr x : Key), D.int (f x)))
/-- the numbers of the names that a kind's rows ask -/
theorem ev_asked (T : Tx K mg) {M : MK} {H : Hp} {te : TE} {va vf vk : V} {o2 o3 o5 o6 o7 : Option V} {k : KindI} {fl : Str} {pick : RowI -> List Str} {g : Str -> Int} {fd : D} (m : Mok M H) (rk : Rep (msk M H) (kindI T k) vk) (rf : Rep (msk M H) fd vf) (na : NoAttr K T.C_Row fl)
    (hf : forall r : RowI, (rowF (.int r.lo) (hiD r.hi) (namesD r.mu) (namesD r.no)).lookup fl = some (namesD (pick r))) (h1 : k.rows.length ≤ 60) (h2 : forall q, q ∈ k.rows -> (pick q.2).length ≤ 16)
    (he : forall (N : MK) (H5 : Hp) (x : Str) (y6 y7 : V), x ∈ (k.rows.map fun p => pick p.2).flatten -> Rep (msk N H5) fd vf -> Rep (msk N H5) (.str x) y7 -> EvD N te (S8 va vf o2 o3 (some vk) o5 (some y6) (some y7)) H5 (.int (g x))) :
    EvD M (tLockU (tLc2 (iVals (tFld K (tVar 4) "rows")) (gName 6) tYes (iAny K (tFld K (tVar 6) fl)) (gName 7) tYes te [6, 7] [7])) (S8 va vf o2 o3 (some vk) o5 o6 o7) H (.lst (((k.rows.map fun p => pick p.2).flatten.map g).map .int)) := by
  obtain ⟨ak, dx, fs, ek, hk, rfs⟩ := id rk
  obtain ⟨vr, hvr, rr⟩ := rfs.look (f := "rows") (d := .dK (rowsI T k.rows)) rfl
  refine Ev.to (ev_lock (c := kcK) (kvs := rowsI T k.rows) m rr fun Hl b od ws ml fl' eb nm hb rp => ev_lc2 (ds := (rowsI T k.rows).map fun p => p.2) (fun d => match d with
    | .ins _ fs => ((fs.lookup fl).bind D.its).getD [] |>.map (numD g)
    | _ => []) ml (ia_vals (a := b) (od := od) (ws := ws) (fun H1 e1 Q q => ?_) hb rp) ?_ ?_ ?_) ?_
  · refine ⟨vk, rfl, ?_⟩
    obtain ⟨a2, dx2, fs2, ek2, hk2, rf2⟩ := (Rep.fx fl' _ rk).up (msk_mono (M := M) e1)
    have h0 := fl'.ins hk
    have ea : a2 = ak := by
      rw [ek] at ek2
      cases ek2
      rfl
    subst ea
    have hk3 := msk_mono (M := M) e1 _ _ h0
    rw [hk2] at hk3
    cases hk3
    exact ⟨a2, T.C_Kind, _, _, vr, ek2, msk_same _ _ hk2, T.cls_Kind, T.na_Kind_rows, hvr, q vr H1 (Same.refl _) eb⟩
  · unfold rowsI
    rw [List.length_map, List.length_map]
    omega
  · intro d hd
    unfold rowsI at hd
    rw [List.map_map] at hd
    obtain ⟨q, hq, rfl⟩ := List.mem_map.mp hd
    have h3 := h2 q hq
    show ((((rowF (.int q.2.lo) (hiD q.2.hi) (namesD q.2.mu) (namesD q.2.no)).lookup fl).bind D.its).getD [] |>.map (numD g)).length ≤ 1000
    rw [hf]
    show (((pick q.2).map D.str).map (numD g)).length ≤ 1000
    rw [List.length_map, List.length_map]
    omega
  · intro N H3 d x mN eN hd rd
    have hd' := hd
    unfold rowsI at hd'
    rw [List.map_map] at hd'
    obtain ⟨q, hq, rfl⟩ := List.mem_map.mp hd'
    refine ⟨S8 va vf o2 o3 (some vk) o5 (some x) none, (pick q.2).map .str, numD g, fun Q z => z, rfl, ia_tup (ev_fld (ev_var rfl rd) T.cls_Row na (hf q.2)), ?_, fun H5 e y m5 e5 hm re => ?_⟩
    · show ((pick q.2).map D.str).map (numD g) = ((((rowF (.int q.2.lo) (hiD q.2.hi) (namesD q.2.mu) (namesD q.2.no)).lookup fl).bind D.its).getD [] |>.map (numD g))
      rw [hf] <;> rfl
    · obtain ⟨z, hz, rfl⟩ := List.mem_map.mp hm
      refine elt_all (s2 := S8 va vf o2 o3 (some vk) o5 (some x) (some y)) (fun Q q => q) rfl (he N H5 z x y ?_ (((Rep.fx fl' _ rf).up eN).up e5) re)
      exact List.mem_flatten.mpr ⟨pick q.2, List.mem_map.mpr ⟨q, hq, rfl⟩, hz⟩
  · congr 1
    unfold rowsI
    rw [List.map_map, List.map_map]
    generalize k.rows = rs
    clear rk rr hvr h1 h2 he rfs
    induction rs with
    | nil => rfl
    | cons p rs ih =>
      rw [List.map_cons, List.map_cons, List.flatten_cons, List.flatten_cons, List.map_append, List.map_append, ih]
      congr 1
      show ((((rowF (.int p.2.lo) (hiD p.2.hi) (namesD p.2.mu) (namesD p.2.no)).lookup fl).bind D.its).getD [] |>.map (numD g)) = _
      rw [hf]
      show ((pick p.2).map D.str).map (numD g) = ((pick p.2).map g).map D.int
      rw [List.map_map, List.map_map] <;> rfl
end

end K02
namespace K02
open PySem PySem.Spec PyProof.Rows L2 Ak
/-! ### strata, the walk itself -/
section
variable {P : Program} {w : World} {K : PySem.W.Frag} {mg : Str -> Option Value} {base : Heap}
def Okn (mu no : Str -> List Str) (f : Str -> Int) (n : Str) : Prop := (forall m, m ∈ mu n -> f m ≤ f n) ∧ forall o, o ∈ no n -> f o + 1 ≤ f n
theorem len_pos {α : Type} {l : List α} {i : Nat} {x : α} (h : l[i]? = some x) : i < l.length := (List.getElem?_eq_some_iff.mp h).1
theorem keys_kindsI (T : Tx K mg) (ks : Kinds) : (kindsI T ks).map (fun p => kD p.1) = (ks.map (·.1)).map D.str := by
  unfold kindsI
  rw [List.map_map, List.map_map] <;> rfl
theorem same_of_x {H H' : Hp} {p : Addr} {G : Hp} (e : Same G H) (n : G p = none) (x : SameX p H H') : Same G H' := fun b o h => x b o (ne_of_none h n) (e b o h)
theorem ok_strata_of (T : Tx K mg) : FnOk P w K mg base (L2.CX P w) 1 T.f_strata_of T.d_strata_of ["kinds"] (SpR (R_strata T)) := by
  refine T.F_strata_of.ok sc_strata_of (fun _ _ _ _ h => SpR.len (n := 1) (fun ds z ⟨_, e, _⟩ => by rw [e] <;> rfl) h) (fun cdv A outer s H vs Q E hr h => ⟨_, (pss_cons (ps_set (i := 1) sc_strata_of.nd rfl (.inr rfl) (pe_lockU (pe_dcU (.dK []) (.inl rfl) (hu_of hr) (own := [("name", 2)]) (g := (gName 2)) (tt := tYes) (tk := (tVar 2)) (tv := (tC (.int 0))) rfl sc_strata_of.nd (pi_any (pv 0)) (blkOk_by (own := [("name", 2)]) (N := ["kinds", "found", "name", "is_done", "kind", "least", "row", "one"]) (sc := (defScope s_strata_of)) (by decide +kernel)) (fun _ _ _ _ _ => by exact (pg_name (i := 2) sc_strata_of.nd rfl (.inl rfl))) (fun _ _ _ _ _ => by exact pts_nil) (fun _ _ _ _ _ => by exact (pv 2)) (fun _ _ _ _ _ => by exact pe_int))))
      (pss_cons (ps_set (i := 3) sc_strata_of.nd rfl (.inl rfl) pe_bl)
      (pss_cons (ps_while PassesOwn.leaving (pt_not (pt_val (pv 3)))
      (pss_cons (ps_set (i := 3) sc_strata_of.nd rfl (.inl rfl) pe_bl)
      (pss_one (ps_lockS (ps_for PassesOwn.leaving rfl (pi_items (pv 0)) (pg_tup rfl (pgs_cons (pg_name (i := 2) sc_strata_of.nd rfl (.inl rfl)) (pgs_cons (pg_name (i := 4) sc_strata_of.nd rfl (.inl rfl)) pgs_nil)))
      (pss_cons (ps_set (i := 5) sc_strata_of.nd rfl (.inl rfl) (pe_callB (cr_max rfl) rfl T.n_max PyProof.Rows.boot_max (by exact (pa_cons (pe_lst (pa_cons pe_int (StX.pa_star (pe_lockU (pe_lc2 (own := [("row", 6), ("one", 7)]) (vs1 := [7]) (g := (gName 6)) (tt := tYes) (wi1 := (iAny K (tFld K (tVar 6) "musts"))) (g1 := (gName 7)) (tt1 := tYes) (te := (tDGet (tVar 1) (tVar 7))) rfl sc_strata_of.nd (pi_values (pe_fld (pv 4) rfl)) (blkOk_by (own := [("row", 6), ("one", 7)]) (N := ["kinds", "found", "name", "is_done", "kind", "least", "row", "one"]) (sc := (defScope s_strata_of)) (by decide +kernel)) (by decide) (fun _ _ _ _ _ => by exact (pg_name (i := 6) sc_strata_of.nd rfl (.inl rfl))) (fun _ _ _ _ _ => by exact pts_nil) (fun _ _ _ _ _ => by exact (pi_any (pe_fld (pv 6) rfl))) (fun _ _ _ _ _ => by exact (pg_name (i := 7) sc_strata_of.nd rfl (.inl rfl))) (fun _ _ _ _ _ => by exact pts_nil) (fun _ _ _ _ _ => by exact (pe_dget (hu_of hr) (pv 1) (pv 7) (fun _ _ => rfl))))) pa_nil))) pa_nil))))
      (pss_cons (ps_set (i := 5) sc_strata_of.nd rfl (.inl rfl) (pe_callB (cr_max rfl) rfl T.n_max PyProof.Rows.boot_max (by exact (pa_cons (pe_lst (pa_cons (pv 5) (StX.pa_star (pe_lockU (pe_lc2 (own := [("row", 6), ("one", 7)]) (vs1 := [7]) (g := (gName 6)) (tt := tYes) (wi1 := (iAny K (tFld K (tVar 6) "nots"))) (g1 := (gName 7)) (tt1 := tYes) (te := (tOp (rAddU K) (tDGet (tVar 1) (tVar 7)) (tC (.int 1)))) rfl sc_strata_of.nd (pi_values (pe_fld (pv 4) rfl)) (blkOk_by (own := [("row", 6), ("one", 7)]) (N := ["kinds", "found", "name", "is_done", "kind", "least", "row", "one"]) (sc := (defScope s_strata_of)) (by decide +kernel)) (by decide) (fun _ _ _ _ _ => by exact (pg_name (i := 6) sc_strata_of.nd rfl (.inl rfl))) (fun _ _ _ _ _ => by exact pts_nil) (fun _ _ _ _ _ => by exact (pi_any (pe_fld (pv 6) rfl))) (fun _ _ _ _ _ => by exact (pg_name (i := 7) sc_strata_of.nd rfl (.inl rfl))) (fun _ _ _ _ _ => by exact pts_nil) (fun _ _ _ _ _ => by exact (pe_op op_addU (pe_dget (hu_of hr) (pv 1) (pv 7) (fun _ _ => rfl)) pe_int)))) pa_nil))) pa_nil))))
      (pss_cons (ps_if (pt_cmpR op_ge (pv 5) (pe_callB call_lenU rfl T.n_len PySem.boot_len (by exact (pa_cons (pv 0) pa_nil))) (nomark _)) (pss_one (ps_ret pe_non)) pss_nil)
      (pss_one (ps_if (pt_cmpR op_gt (pv 5) (pe_dget (hu_of hr) (pv 1) (pv 2) (fun _ _ => rfl)) (nomark _)) (pss_one (ps_asg (pe_tup (pa_cons (pv 5) (pa_cons pe_bl pa_nil))) (pg_tup rfl (pgs_cons (pg_sub (pv 1) (pv 2) (set_dict (hu_of hr))) (pgs_cons (pg_name (i := 3) sc_strata_of.nd rfl (.inl rfl)) pgs_nil))))) pss_nil))))))))))
      (pss_one (ps_ret (pv 1)))))), ?_⟩)
  obtain ⟨M, ds, z, m, rs, ⟨ks, rfl, fit, hz⟩, q⟩ := h
  obtain ⟨va, rfl, ra⟩ := rs.one_of
  have fit1 := fit.nd
  have fit2 := fit.few
  have lenN : (ks.map (·.1)).length = ks.length := List.length_map _
  have cl := fit.closed
  -- found
  refine st_seq (st_set (M := M) (P := NewD kcK H ((ks.map (·.1)).map fun x => ((.inr x : Key), D.int ((fun _ => 0 : Str -> Int) x)))) (ev_lockN (c := kcK) (kvs := kindsI T ks) m ra fun Hl a od ws ml fl ea nm hb rp => ?_) fun vf H1 e1 hN => ?_)
  · subst ea
    have keys : (kindsI T ks).map (fun p => kD p.1) = ws.map fun p => kD p.1 := by
      have e : ws.map (·.1) = (kindsI T ks).map (·.1) := RepK.keys (repK_iff.mpr rp)
      have e2 := congrArg (List.map kD) e
      rw [List.map_map, List.map_map] at e2
      exact e2.symm
    have z := ev_dcN (c := kcK) (s := L2.start ["kinds", "found", "name", "is_done", "kind", "least", "row", "one"] [.ref a]) (tk := tVar 2) (tv := tC (.int 0)) (g := gName 2) (tt := tYes) (vs := [2]) (ds := (kindsI T ks).map fun p => kD p.1) zeroF ml (ia_dict (K := K) (te := tVar 0) (a := a) (od := od) ml (fun H1 e1 Q q => ⟨_, rfl, q _ H1 (Same.refl H1) rfl⟩) nm (.inl ⟨ws, hb, keys⟩)) (by unfold kindsI; rw [List.length_map, List.length_map]; omega) fun N H3 d x mN eN hd rd => by
      rw [keys_kindsI] at hd
      obtain ⟨y, _, rfl⟩ := List.mem_map.mp hd
      exact eltp_of (c := kcK) (o := some (.inr y, .int 0)) (s2 := (wipe (L2.start ["kinds", "found", "name", "is_done", "kind", "least", "row", "one"] [.ref a]) [2]).set 2 (some x)) (fun Q q => q) rfl et_yes (fun _ => ⟨.inr y, .int 0, rfl, ev_var rfl rd, ev_int⟩) fun z => nomatch z
    rw [keys_kindsI, zeroF_all, foldP_nodup (by rw [List.map_map]; exact List.Pairwise.map _ (fun a b hab e => hab (Sum.inr.inj e)) fit1)] at z
    exact z
  obtain ⟨pf, ws0, rfl, hp0, rp0, hnew⟩ := hN
  have e0 := repP_ints rp0
  subst e0
  have hp0 := (msk_of hp0).2
  dsimp only
  -- the flag
  refine st_seq (st_set (M := M) (P := fun y _ => y = V.bl false) (ev_c (d := .bl false) fun _ => rfl) fun y H2 e2 ey => ?_)
  subst ey
  have hp2 := e2 _ _ hp0
  have e12 := e1.trans e2
  dsimp only
  let M1 : MK := fun b => b = pf
  -- the loop
  let St : (Str -> Int) -> Bool -> L2.St -> Hp -> Prop := fun f done s' H' => SameX pf H2 H' ∧ (exists o2 o4 o5 o6 o7, s' = S8 va (.ref pf) o2 (some (.bl done)) o4 o5 o6 o7) ∧ H' pf = some (.dK (wsF (ks.map (·.1)) f)) ∧ Below (ks.map (·.1)) ks.mu ks.no f
  refine st_seq ⟨fun k s' H' => exists f done, St f done s' H' ∧ (done = true -> forall n, n ∈ ks.map (·.1) -> Okn ks.mu ks.no f n) ∧ k = mes (ks.map (·.1)) ks.length f + (if done = true then 0 else 1), ⟨_, fun _ => 0, false, ⟨SameX.refl H2, ⟨none, none, none, none, none, rfl⟩, hp2, ⟨fun n _ => Int.le_refl _, fun n hn => ?_, fun st hs n hn => (hs n hn).1⟩⟩, (by intro z; cases z), rfl⟩, ?_⟩
  · have := List.length_pos_of_mem hn
    show (0 : Int) < _
    omega
  rintro k s' H' ⟨f, done, ⟨ex, ⟨o2, o4, o5, o6, o7, rfl⟩, hpf, B⟩, hdone, rfl⟩
  have raH : forall H3, SameX pf H2 H3 -> Rep (msk M1 H3) (.dK (kindsI T ks)) va := fun H3 x => (ra.up msk_same).up fun b o h => by
    have hb : b ≠ pf := ne_of_none h hnew
    rw [msk_at (show ¬ M1 b from hb)]
    exact x b o hb (e12 b o h)
  have MK1 : forall H3, H3 pf = some (.dK (wsF (ks.map (·.1)) f)) -> Mok M1 H3 := fun H3 h b z => by
    rw [show b = pf from z]
    exact ⟨_, h, fun xs e => nomatch e⟩
  refine et_not (b := done) (et_B (M := M1) (ev_var (d := .bl done) rfl rfl)) H' (Same.refl H') _ fun H3 e3 => ?_
  have ex3 : SameX pf H2 H3 := ex.trans (SameX.of e3)
  have hp3 := e3 _ _ hpf
  cases done with
  | true =>
    refine iteF ?_
    -- done
    dsimp only
    have sol : Sol (ks.map (·.1)) ks.mu ks.no f := fun n hn => ⟨B.nn n hn, hdone rfl n hn⟩
    refine st_ret (M := M) (P := fun y G => Rep G (fD (ks.map (·.1)) f) y) (fun H4 e4 Q' q' => ⟨_, rfl, q' _ H4 (Same.refl H4) ?_⟩) fun y H4 e4 ry => ?_
    · refine ⟨pf, wsF (ks.map (·.1)) f, rfl, .inl ?_, repK_iff.mpr (repP_wsF _)⟩
      rw [msk_at (m.new hnew)]
      exact e4 _ _ hp3
    · have es : Same H H4 := (same_of_x e12 hnew ex3).trans e4
      rcases hz with ⟨g, hg, rfl⟩ | ⟨hno, _⟩
      · refine q y H4 es (Rep.to ry ?_)
        unfold fD
        congr 1
        exact List.map_congr_left fun x hx => by rw [Least.uniq ⟨sol, B.le⟩ hg x hx]
      · exact absurd sol (hno f)
  | false =>
    refine iteT ⟨fun s' H' => exists f2 done2, St f2 done2 s' H' ∧ (done2 = true -> forall n, n ∈ ks.map (·.1) -> Okn ks.mu ks.no f2 n) ∧ mes (ks.map (·.1)) ks.length f2 + (if done2 = true then 0 else 1) < mes (ks.map (·.1)) ks.length f + 1, fun s' H' ⟨f2, done2, h1, h2, h3⟩ => ⟨_, h3, f2, done2, h1, h2, rfl⟩, ?_⟩
    refine st_seq (st_set (M := M1) (P := fun y _ => y = V.bl true) (ev_c (d := .bl true) fun _ => rfl) fun y H4 e4 ey => ?_)
    subst ey
    have ex4 : SameX pf H2 H4 := ex3.trans (SameX.of e4)
    have hp4 := e4 _ _ hp3
    dsimp only
    -- one turn
    refine st_lockS (M := M1) (MK1 H4 hp4) (raH H4 ex4) fun Hl al od ws back E' ml fl fe ea nm hb rp ul el offs _ => ?_
    subst ea
    have hpl : Hl pf = some (.dK (wsF (ks.map (·.1)) f)) := by
      rw [offs pf rfl]
      exact hp4
    have rkl : forall {i : Nat} {n : Str} {kd : KindI}, ks[i]? = some (n, kd) -> True := fun _ => trivial
    refine st_for (M := M1) (ds := (kindsI T ks).map pairD) ml (ia_items (a := al) (od := od) (ws := ws) (fun G1 g1 Q q => ⟨_, rfl, q _ G1 (Same.refl G1) rfl⟩) hb rp) (fun G1 i s' G' => SameX pf G1 G' ∧ Same Hl G1 ∧ exists f2 done2 o2 o4 o5 o6 o7, s' = S8 (.ref al) (.ref pf) o2 (some (.bl done2)) o4 o5 o6 o7 ∧ G' pf = some (.dK (wsF (ks.map (·.1)) f2)) ∧ Below (ks.map (·.1)) ks.mu ks.no f2 ∧
      (done2 = true -> f2 = f ∧ forall j n, j < i -> (ks.map (·.1))[j]? = some n -> Okn ks.mu ks.no f n) ∧ (done2 = false -> mes (ks.map (·.1)) ks.length f2 < mes (ks.map (·.1)) ks.length f))
      (fun G1 g1 => ⟨SameX.refl G1, g1, f, true, o2, o4, o5, o6, o7, rfl, g1 _ _ hpl, B, fun _ => ⟨rfl, fun j n hj => absurd hj (Nat.not_lt_zero _)⟩, fun z => nomatch z⟩) (fun G1 i s' G' h => SameE.kp (SameE.x h.1 rfl) fun b o u hbm => ?_) ?_ ?_
    · rw [show b = pf from hbm, h.2.1 _ _ hpl]
      intro z
      cases z
    · rintro G1 i d x s' G' G'' g1 hi hd ⟨gx, g1', f2, done2, o2, o4, o5, o6, o7, rfl, hpg, B2, hT, hF⟩ g2 rx
      have hi' : i < ks.length := by
        unfold kindsI at hi
        rw [List.length_map, List.length_map] at hi
        exact hi
      obtain ⟨n, kd, hnk⟩ : exists n kd, ks[i]? = some (n, kd) := ⟨ks[i].1, ks[i].2, by rw [List.getElem?_eq_getElem hi']⟩
      have ed : d = pairD (.inr n, kindI T kd) := by
        unfold kindsI at hd
        rw [List.map_map, List.getElem?_map, hnk] at hd
        exact (Option.some.inj hd).symm
      subst ed
      have rx0 := rx (fun _ => False) (Mok.none _) (fun _ z => z.elim)
      obtain ⟨t, xs, et, ht, rxs⟩ := rx0
      obtain ⟨y1, y2, exs, ry1, rk⟩ := rxs.two_of
      have ey1 : y1 = V.str n := ry1
      subst exs et ey1
      refine ⟨t, _, rfl, SqT.of (msk_same _ _ ht), rfl, _, _, rfl, _, [], rfl, rfl, ?_⟩
      have hpg2 := g2 _ _ hpg
      have m0 : forall G3 : Hp, Mok (fun _ => False) G3 := fun G3 => Mok.none G3
      have hnN : n ∈ ks.map (·.1) := List.mem_map.mpr ⟨(n, kd), List.mem_of_getElem? hnk, rfl⟩
      have hkin : (n, kd) ∈ ks := List.mem_of_getElem? hnk
      obtain ⟨am, ao⟩ := fit.asks hnk
      have clk := fit.cl _ hkin
      have rfG : forall G3, G3 pf = some (.dK (wsF (ks.map (·.1)) f2)) -> Rep (msk (fun _ => False) G3) (fD (ks.map (·.1)) f2) (.ref pf) := fun G3 h => ⟨pf, _, rfl, .inl (by rw [msk_at fun z => z]; exact h), repK_iff.mpr (repP_wsF _)⟩
      have glG : SameX pf Hl G'' := (SameX.of g1').trans (gx.trans (SameX.of g2))
      have rkn : forall G3, Same G'' G3 -> Rep (msk (fun _ => False) G3) (.dK (kindsI T ks)) (.ref al) := fun G3 g3 => by
        have z1 : Rep (msk M1 Hl) (.dK (kindsI T ks)) (.ref al) := ⟨al, ws, rfl, .inr ⟨od, by rw [msk_at (show ¬ M1 al from nm)]; exact hb⟩, repK_iff.mpr rp⟩
        exact ((z1.up (SameE.x (glG.trans (SameX.of g3)) (M := M1) rfl).msk).up (msk_less fun b z => z.elim))
      obtain ⟨a, b, two⟩ := two_some ks.mu ks.no f2 n
      have two1 := two.one
      have two2 := two.two
      rw [am] at two1
      rw [ao] at two2
      have flen : forall pick : RowI -> List Str, (forall q, q ∈ kd.rows -> (pick q.2).length ≤ 16) -> (kd.rows.map fun p => pick p.2).flatten.length ≤ 960 := fun pick hp => by
        have h1 := fit.rows _ hkin
        have h2 : forall l : List (Str × RowI), (forall q, q ∈ l -> (pick q.2).length ≤ 16) -> (l.map fun p => pick p.2).flatten.length ≤ l.length * 16 := fun l => by
          induction l with
          | nil => intro _; exact Nat.le_refl _
          | cons x l ih =>
            intro h
            have h3 := h x List.mem_cons_self
            have h4 := ih fun q hq => h q (List.mem_cons_of_mem _ hq)
            rw [List.map_cons, List.flatten_cons, List.length_append, List.length_cons]
            omega
        have h3 := h2 _ hp
        have h1 : kd.rows.length ≤ 60 := h1
        omega
      have hmu : forall q, q ∈ kd.rows -> q.2.mu.length ≤ 16 := fun q hq => (fit.row _ hkin q hq).1
      have hno : forall q, q ∈ kd.rows -> q.2.no.length ≤ 16 := fun q hq => (fit.row _ hkin q hq).2
      dsimp only
      -- musts
      refine st_seq (st_set (M := fun _ => False) (P := fun y G => Rep G (.int a) y) (ev_max (ns := 0 :: kd.mus.map f2) (ea_one (Ev.to (ev_lst (m0 _) (ea_cons ev_int (ea_star (ev_asked T (g := f2) (pick := RowI.mu) (fl := "musts") (fd := fD (ks.map (·.1)) f2) (m0 _) rk (rfG _ hpg2) T.na_Row_musts (fun r => rfl) (fit.rows _ hkin) hmu fun N H5 x y6 y7 hx rf r7 => ev_dget (c := kcK) (k := .inr x) (ev_var rfl rf) (ev_var rfl r7) (fD_val (clk.1 x hx))) (.inl rfl) ea_nil)) ?_) ?_)) two1.1 two1.2) fun yl G3 g3 rl => ?_)
      · have h := flen RowI.mu hmu
        rw [List.append_nil, List.length_cons, List.length_map, List.length_map]
        omega
      · rw [List.append_nil] <;> rfl
      have el1 : yl = V.int a := rl
      subst el1
      have rk3 := rk.up (msk_mono (M := fun _ => False) g3)
      have hpg3 := g3 _ _ hpg2
      dsimp only
      -- nots
      refine st_seq (st_set (M := fun _ => False) (P := fun y G => Rep G (.int b) y) (ev_max (ns := a :: kd.nos.map fun o => f2 o + 1) (ea_one (Ev.to (ev_lst (m0 _) (ea_cons (ev_var (d := .int a) rfl rfl) (ea_star (ev_asked T (g := fun o => f2 o + 1) (pick := RowI.no) (fl := "nots") (fd := fD (ks.map (·.1)) f2) (m0 _) rk3 (rfG _ hpg3) T.na_Row_nots (fun r => rfl) (fit.rows _ hkin) hno fun N H5 x y6 y7 hx rf r7 => ev_op (ev_dget (c := kcK) (k := .inr x) (ev_var rfl rf) (ev_var rfl r7) (fD_val (clk.2 x hx))) ev_int rd_addI) (.inl rfl) ea_nil)) ?_) ?_)) two2.1 two2.2) fun yl G4 g4 rl => ?_)
      · have h := flen RowI.no hno
        rw [List.append_nil, List.length_cons, List.length_map, List.length_map]
        omega
      · rw [List.append_nil] <;> rfl
      have el2 : yl = V.int b := rl
      subst el2
      have g24 := g3.trans g4
      have hpg4 := g4 _ _ hpg3
      dsimp only
      -- too far
      refine st_seq (st_if (b := decide ((ks.length : Int) ≤ b)) (et_test (M := fun _ => False) (ev_op (ev_var (d := .int b) rfl rfl) (Ev.to (ev_len (d := .dK (kindsI T ks)) (ea_one (ev_var rfl (rkn G4 g24))) rfl (fun _ e => nomatch e) fun _ e => nomatch e) (by unfold kindsI; rw [List.length_map])) rd_ge)) (fun hge G5 g5 => ?_) fun hge G5 g5 => ?_)
      · refine st_ret (M := fun _ => False) ev_non fun y G6 g6 ry => ?_
        have gl6 : SameX pf Hl G6 := glG.trans (SameX.of ((g24.trans g5).trans g6))
        refine el.rt y G6 (SameE.x gl6 rfl) (q y _ ?_ ?_)
        · exact same_of_x e12 hnew (ex4.trans fun b o hbp hb' => ul.same G6 (SameE.x gl6 rfl) b o hbp hb')
        · rcases hz with ⟨g, hg, _⟩ | ⟨_, rfl⟩
          · exact absurd hg.1 (no_sol cl B2 two hnN (by rw [lenN]; exact of_decide_eq_true hge) g)
          · exact ry
      have hlt : b < (ks.map (·.1)).length := by
        have := of_decide_eq_false hge
        rw [lenN]
        omega
      have hpg5 := g5 _ _ hpg4
      have g25 := g24.trans g5
      dsimp only [tNext]
      -- more
      refine st_if (b := decide (f2 n < b)) (et_test (M := fun _ => False) (ev_op (ev_var (d := .int b) rfl rfl) (ev_dget (c := kcK) (k := .inr n) (ev_var rfl (rfG _ hpg5)) (ev_var (d := .str n) rfl rfl) (fD_val hnN)) rd_gt)) (fun hgt G6 g6 => ?_) fun hgt G6 g6 => ?_
      · have hgt := of_decide_eq_true hgt
        refine ev_tup (M := fun _ => False) (ds := [.int b, .bl false]) (m0 _) (ea_cons (ev_var (d := .int b) rfl rfl) (ea_one ev_bl)) (by simp) G6 (Same.refl G6) _ fun v G7 g7 r => ?_
        obtain ⟨t4, xs4, et4, ht4, rxs4⟩ := r
        obtain ⟨z1, z2, exs4, rz1, rz2⟩ := rxs4.two_of
        have ez1 : z1 = V.int b := rz1
        have ez2 : z2 = V.bl false := rz2
        subst exs4 et4 ez1 ez2
        have hpg7 := g7 _ _ (g6 _ _ hpg5)
        have g27 := (g25.trans g6).trans g7
        refine ⟨t4, _, rfl, SqT.of (msk_same _ _ ht4), rfl, _, _, rfl, .ref pf, rfl, .str n, rfl, pf, _, rfl, DPut.k (k := .inr n) hpg7 (by unfold wsF; rw [List.length_map, List.length_map, sizeLine_eq]; omega), _, [], rfl, rfl, ?_⟩
        rw [wsF_put hnN]
        refine ⟨(gx.trans (SameX.of (g2.trans g27))).upd, g1', upF f2 n b, false, _, _, _, _, _, rfl, upd_same, B2.up two cl hnN hlt, (by intro z; cases z), fun _ => ?_⟩
        have h1 := mes_lt (N := ks.map (·.1)) (k := ks.length) hgt (by rw [lenN] at hlt; omega) hnN
        cases done2 with
        | true =>
          rw [(hT rfl).1] at h1 ⊢
          exact h1
        | false => exact Nat.lt_trans h1 (hF rfl)
      · have hle := of_decide_eq_false hgt
        refine ⟨gx.trans (SameX.of (g2.trans (g25.trans g6))), g1', f2, done2, _, _, _, _, _, rfl, g6 _ _ hpg5, B2, fun z => ⟨(hT z).1, fun j n' hj hn' => ?_⟩, hF⟩
        rcases Nat.lt_succ_iff_lt_or_eq.mp hj with y | y
        · exact (hT z).2 j n' y hn'
        · subst y
          rw [List.getElem?_map, hnk] at hn'
          cases hn'
          have := two.ok (by omega)
          rw [(hT z).1] at this
          exact this
    · rintro G1 s' G' g1 ⟨gx, g1', f2, done2, o2, o4, o5, o6, o7, rfl, hpg, B2, hT, hF⟩
      have gl : SameX pf Hl G' := (SameX.of g1).trans gx
      refine el.nx _ G' (SameE.x gl rfl) ⟨f2, done2, ⟨?_, ⟨o2, o4, o5, o6, o7, rfl⟩, ?_, B2⟩, fun z n hn => ?_, ?_⟩
      · refine ex4.trans fun b o hbp hb' => ul.same G' (SameE.x gl rfl) b o hbp hb'
      · rw [ul.off G' pf rfl]
        exact hpg
      · obtain ⟨ef, hj⟩ := hT z
        obtain ⟨j, hj1, hj2⟩ := List.mem_iff_getElem.mp hn
        rw [ef]
        refine hj j n ?_ (by rw [List.getElem?_eq_getElem hj1, hj2])
        unfold kindsI
        rw [List.length_map, List.length_map, ← lenN]
        exact hj1
      · cases done2 with
        | true =>
          rw [(hT rfl).1, if_pos rfl]
          omega
        | false =>
          have := hF rfl
          rw [if_neg Bool.false_ne_true]
          omega
end

end K02
namespace K02
open PySem PySem.Spec PyProof.Rows L2 Ak
/-! ### a kind of a schema -/
section
variable {P : Program} {w : World} {K : PySem.W.Frag} {mg : Str -> Option Value} {base : Heap}
def colsB (cs : List Str) (c : D) : Bool := areN c 6 && (!(strsOf (c.its.getD [])).isEmpty && (strsOf (c.its.getD [])).all fun x => decide (x ∈ cs))
def kLabs (ls : List Str) : D -> Bool
  | .dK kvs => labsB kvs && (keysS kvs).all fun x => decide (x ∈ ls)
  | _ => false
def rowB (d : D) (kvs : List (Key × D)) (hst : Int) : Bool := match d with
  | .ins _ [(_, lo), (_, hi), (_, mu), (_, no)] => toldB lo hi mu no kvs hst
  | _ => false
def badRow (kvs : List (Key × D)) (hst : Int) : List (Key × D) -> Option Key
  | [] => none
  | p :: r => if rowB p.2 kvs hst = true then badRow kvs hst r else some p.1
def verdict (cs ls : List Str) (kvs : List (Key × D)) (kind : D) : Option D := match kind with
  | .ins _ [(_, c), (_, r)] => if colsB cs c = true then (if kLabs ls r = true then (match r with
    | .dK rows => (badRow kvs 9 rows).map kD
    | _ => none) else some (.str "labels")) else some (.str "colours")
  | _ => some (.str "colours")
def okRowD (T : Tx K mg) (d : D) : Prop := (exists es, d = .tup es) ∨ exists lo hi mu no, d = rowD T lo hi mu no ∧ lo.fi = true ∧ hi.fi = true ∧ mu.fi = true ∧ no.fi = true
def okKindD (T : Tx K mg) (d : D) : Prop := d = .non ∨ exists c r, d = kindD T c r ∧ c.fi = true ∧ okR r ∧ forall rows, r = .dK rows -> forall p, p ∈ rows -> okRowD T p.2
def schF3 (cs ls : List Str) (kvs : List (Key × D)) : List (Str × D) := [("colours", namesD cs), ("labels", namesD ls), ("kinds", .dK kvs)]
def R_ck (T : Tx K mg) : List D -> D -> Prop := fun ds z => exists cs ls kvs nm kind, ds = [.ins T.C_Schema (schF3 cs ls kvs), .str nm, kind] ∧ cs.length ≤ 10 ∧ ls.length ≤ 10 ∧ okKindD T kind ∧ verdict cs ls kvs kind = none ∧ z = .non
def X_ck (T : Tx K mg) : List D -> Addr -> List (Str × D) -> Prop := fun ds C fs => exists cs ls kvs nm kind part, ds = [.ins T.C_Schema (schF3 cs ls kvs), .str nm, kind] ∧ cs.length ≤ 10 ∧ ls.length ≤ 10 ∧ okKindD T kind ∧ verdict cs ls kvs kind = some part ∧ C = T.C_BadSchema ∧ fs = ([("part", part), ("kind", .str nm)] : List (Str × D))
abbrev S6 (a b c : V) (o3 o4 o5 : Option V) : L2.St := [some a, some b, some c, o3, o4, o5]
theorem badRow_none {kvs : List (Key × D)} {hst : Int} {rows : List (Key × D)} : badRow kvs hst rows = none <-> forall p, p ∈ rows -> rowB p.2 kvs hst = true := by
  induction rows with
  | nil => exact ⟨fun _ p h => (nomatch h), fun _ => rfl⟩
  | cons p r ih =>
    unfold badRow
    by_cases h : rowB p.2 kvs hst = true
    · rw [if_pos h, ih]
      constructor
      · intro h2 q hq
        rcases List.mem_cons.mp hq with e | hq
        · rw [e]
          exact h
        · exact h2 q hq
      · intro h2 q hq
        exact h2 q (List.mem_cons_of_mem _ hq)
    · rw [if_neg h]
      constructor
      · intro z
        cases z
      · intro z
        exact absurd (z p List.mem_cons_self) h
theorem badRow_at {kvs : List (Key × D)} {hst : Int} {k : Key} {d : D} : forall {rows : List (Key × D)} {i : Nat}, rows[i]? = some (k, d) -> rowB d kvs hst = false -> (forall (j : Nat) (p : Key × D), j < i -> rows[j]? = some p -> rowB p.2 kvs hst = true) -> badRow kvs hst rows = some k
  | p :: r, 0, h, hb, _ => by
    have e : p = (k, d) := by simpa using h
    rw [e]
    unfold badRow
    rw [if_neg (by rw [hb]; exact Bool.false_ne_true)]
  | p :: r, i + 1, h, hb, ha => by
    unfold badRow
    rw [if_pos (ha 0 p (Nat.zero_lt_succ i) rfl)]
    exact badRow_at (i := i) (by simpa using h) hb fun j q hj hq => ha (j + 1) q (Nat.succ_lt_succ hj) (by simpa using hq)
theorem ok_Schema_check_kind (T : Tx K mg) : FnOk P w K mg base (L2.CX P w) 4 T.f_Schema_check_kind T.d_Schema_check_kind ["self", "name", "kind"] (SpEL (R_ck T) (X_ck T)) := by
  refine T.F_Schema_check_kind.ok sc_Schema_check_kind (fun _ _ _ _ h => SpEL.len (n := 3) (fun ds z ⟨_, _, _, _, _, e, _⟩ => by rw [e] <;> rfl) (fun ds C z ⟨_, _, _, _, _, _, e, _⟩ => by rw [e] <;> rfl) h) (fun cdv A outer s H vs Q E hr h => ⟨_, (pss_cons (ps_if (PW.pt (pw_or (pt_not (pt_val (pe_callB call_isi rfl T.n_isinstance PyProof.Rows.boot_isinstance (pa_cons (pv 2) (pa_cons (pe_glob (v := .ref T.C_Kind) rfl T.g_Kind rfl) pa_nil))))) (pw_or (pt_not (pt_val (pe_call (ok_are_names T) (hr.mono (by decide)) rfl T.g_are_names T.F_are_names.kp T.B_are_names .nil passL (pa_cons (pe_fld (pv 2) rfl) (pa_cons (pe_glob (v := .int 6) rfl T.c_MOST_COLOURS.choose_spec ⟨_, rfl⟩) pa_nil))))) (pw_or1 (pt_cmpR (op_eqU hr.units) (pe_callB call_lenU rfl T.n_len PySem.boot_len (by exact (pa_cons (pe_fld (pv 2) rfl) pa_nil))) pe_int (nomark _)))))) (pss_one (ps_raise rfl (takes_of rfl rfl rfl rfl) (pmk_oex T.ox_BadSchema T.i_BadSchema T.t_BadSchema (ok_BadSchema_init T) (hr.mono (by decide)) T.B_BadSchema_init .nil (by exact passL) rfl T.g_BadSchema (pa_cons (pv 1) (pa_cons pe_str pa_nil))))) pss_nil)
      (pss_cons (ps_if (pt_not (pt_val (pe_callB (cr_all rfl) rfl T.n_all PyProof.Rows.boot_all (by exact (pa_cons (pe_lc (own := [("colour", 3)]) (g := (gName 3)) (tt := tYes) (te := (tOp (rInU false) (tVar 3) (tFld K (tVar 0) "colours"))) rfl sc_Schema_check_kind.nd (pi_any (pe_fld (pv 2) rfl)) (blkOk_by (own := [("colour", 3)]) (N := ["self", "name", "kind", "colour", "label", "row"]) (sc := (defScope s_Schema_check_kind)) (by decide +kernel)) (fun _ _ _ _ _ => by exact (pg_name (i := 3) sc_Schema_check_kind.nd rfl (.inl rfl))) (fun _ _ _ _ _ => by exact pts_nil) (fun _ _ _ _ _ => by exact (pe_cmpR (op_inU hr.units) (pv 3) (pe_fld (pv 0) rfl) (by with_unfolding_all rfl)))) pa_nil))))) (pss_one (ps_raise rfl (takes_of rfl rfl rfl rfl) (pmk_oex T.ox_BadSchema T.i_BadSchema T.t_BadSchema (ok_BadSchema_init T) (hr.mono (by decide)) T.B_BadSchema_init .nil (by exact passL) rfl T.g_BadSchema (pa_cons (pv 1) (pa_cons pe_str pa_nil))))) pss_nil)
      (pss_cons (ps_if (PW.pt (pw_or (pt_not (pt_val (pe_call (ok_are_labels T) (hr.mono (by decide)) rfl T.g_are_labels T.F_are_labels.kp T.B_are_labels .nil passL (pa_cons (pe_fld (pv 2) rfl) pa_nil)))) (pw_or1 (pt_not (pt_val (pe_callB (cr_all rfl) rfl T.n_all PyProof.Rows.boot_all (by exact (pa_cons (pe_lockU (pe_lc (own := [("label", 4)]) (g := (gName 4)) (tt := tYes) (te := (tOp (rInU false) (tVar 4) (tFld K (tVar 0) "labels"))) rfl sc_Schema_check_kind.nd (pi_any (pe_fld (pv 2) rfl)) (blkOk_by (own := [("label", 4)]) (N := ["self", "name", "kind", "colour", "label", "row"]) (sc := (defScope s_Schema_check_kind)) (by decide +kernel)) (fun _ _ _ _ _ => by exact (pg_name (i := 4) sc_Schema_check_kind.nd rfl (.inl rfl))) (fun _ _ _ _ _ => by exact pts_nil) (fun _ _ _ _ _ => by exact (pe_cmpR (op_inU hr.units) (pv 4) (pe_fld (pv 0) rfl) (by with_unfolding_all rfl))))) pa_nil)))))))) (pss_one (ps_raise rfl (takes_of rfl rfl rfl rfl) (pmk_oex T.ox_BadSchema T.i_BadSchema T.t_BadSchema (ok_BadSchema_init T) (hr.mono (by decide)) T.B_BadSchema_init .nil (by exact passL) rfl T.g_BadSchema (pa_cons (pv 1) (pa_cons pe_str pa_nil))))) pss_nil)
      (pss_one (ps_lockS (ps_for PassesOwn.leaving rfl (pi_items (pe_fld (pv 2) rfl)) (pg_tup rfl (pgs_cons (pg_name (i := 4) sc_Schema_check_kind.nd rfl (.inl rfl)) (pgs_cons (pg_name (i := 5) sc_Schema_check_kind.nd rfl (.inl rfl)) pgs_nil)))
      (pss_one (ps_if (pt_not (pt_val (pe_call (ok_is_told_row T) (hr.mono (by decide)) rfl T.g_is_told_row T.F_is_told_row.kp T.B_is_told_row .nil passL (pa_cons (pv 5) (pa_cons (pe_fld (pv 0) rfl) (pa_cons (pe_con (pv 0) rfl) pa_nil)))))) (pss_one (ps_raise rfl (takes_of rfl rfl rfl rfl) (pmk_oex T.ox_BadSchema T.i_BadSchema T.t_BadSchema (ok_BadSchema_init T) (hr.mono (by decide)) T.B_BadSchema_init .nil (by exact passL) rfl T.g_BadSchema (pa_cons (pv 1) (pa_cons (pv 4) pa_nil))))) pss_nil)))))))), ?_⟩)
  obtain ⟨M, ds, m, rs, h⟩ := h
  -- one view of both ways
  have key : exists cs ls kvs nm kind, ds = [.ins T.C_Schema (schF3 cs ls kvs), .str nm, kind] ∧ cs.length ≤ 10 ∧ ls.length ≤ 10 ∧ okKindD T kind ∧ (verdict cs ls kvs kind = none -> forall v H', Same H H' -> Rep (msk M H') .non v -> Q v H') ∧
      (forall part, verdict cs ls kvs kind = some part -> forall dx ws H', Lk H H' -> H dx = none -> H' dx = some (.xd ws) -> RepF (msk M H') ([("part", part), ("kind", .str nm)] : List (Str × D)) ws -> E (.ref T.C_BadSchema) (some dx) H') := by
    rcases h with ⟨z, ⟨cs, ls, kvs, nm, kind, e, l1, l2, ok, hv, rfl⟩, q⟩ | ⟨C, fs, ⟨cs, ls, kvs, nm, kind, part, e, l1, l2, ok, hv, rfl, rfl⟩, q⟩
    · exact ⟨cs, ls, kvs, nm, kind, e, l1, l2, ok, (fun _ => q), (fun part z => by rw [hv] at z; cases z)⟩
    · exact ⟨cs, ls, kvs, nm, kind, e, l1, l2, ok, (fun z => by rw [hv] at z; cases z), (fun part' z => by rw [hv] at z; cases z; exact q)⟩
  clear h
  obtain ⟨cs, ls, kvs, nm, kind, rfl, l1, l2, ok, hOK, hX⟩ := key
  obtain ⟨vs1, vn, vk, rfl, rsf, rn, rk⟩ := rs.three_of
  have up : forall {H' : Hp} {d : D} {v : V}, Lk H H' -> Rep (msk M H) d v -> Rep (msk M H') d v := fun lk r => Rep.fx (Fx.msk lk.fx fun b z => .inl z) _ r
  have bad : forall {s' : L2.St} {H' : Hp} {part : D} {tn : TE}, Lk H H' -> s'[1]? = some (some vn) -> Mok M H' -> EvD M tn s' H' part -> verdict cs ls kvs kind = some part -> tMkO T.C_BadSchema (SpX T.C_BadSchema ["kind", "part"]) [] (tCons (tVar 1) (tCons tn tNil)) s' H' fun cls dd H2 => E cls dd H2 := fun {s' H' part tn} lk hv mN ev g =>
    tmk_ok (M := M) (ds := [.str nm, part]) (ea_cons (ev_var hv (up lk rn)) (ea_one ev)) rfl (by simp) mN fun dx ws H2 e2 hn hx rf => hX part g dx ws H2 (lk.trans (Lk.of e2)) (lk.free hn) hx rf
  have fS : forall {H1 : Hp} {s' : L2.St} {f : Str} {d : D}, Lk H H1 -> s'[0]? = some (some vs1) -> NoAttr K T.C_Schema f -> (schF3 cs ls kvs).lookup f = some d -> EvD M (tFld K (tVar 0) f) s' H1 d := fun lk hv n l => ev_fld (ev_var hv (up lk rsf)) T.cls_Schema n l
  rcases ok with rfl | ⟨c, r, rfl, fc, okr, hrow⟩
  · -- no kind
    exact st_seq (st_ifT (et_orT (et_not (b := false) (et_B (M := M) (ev_isiT (d := .non) (C := T.C_Kind) (ea_cons (ev_var rfl rk) (ea_one (ev_c fun _ => rfl))) (fun e => absurd (show ("NoneType" : String) = "" from e) (by decide)) (fun _ e => nomatch e) T.kt_NoneType_Kind)))) fun H2 e2 => bad (Lk.of e2) rfl (m.up e2) ev_str rfl)
  have fK : forall {H1 : Hp} {s' : L2.St} {f : Str} {d : D}, Lk H H1 -> s'[2]? = some (some vk) -> NoAttr K T.C_Kind f -> (kindF c r).lookup f = some d -> EvD M (tFld K (tVar 2) f) s' H1 d := fun lk hv n l => ev_fld (ev_var hv (up lk rk)) T.cls_Kind n l
  have isk : EvT (tNot (tB (tCB (rIsi K) (tCons (tVar 2) (tCons (tC (.ref T.C_Kind)) tNil))))) (S6 vs1 vn vk none none none) H false := et_not (b := true) (et_B (M := M) (ev_isiC (C := T.C_Kind) T.cls_Kind T.is_Kind (ea_cons (ev_var rfl rk) (ea_one (ev_c fun _ => rfl)))))
  have vd : verdict cs ls kvs (kindD T c r) = if colsB cs c = true then (if kLabs ls r = true then (match r with
    | .dK rows => (badRow kvs 9 rows).map kD
    | _ => none) else some (.str "labels")) else some (.str "colours") := rfl
  have cf : Lk H H := Lk.of (Same.refl H)
  -- its colours
  by_cases hc : areN c 6 = true ∧ strsOf (c.its.getD []) ≠ []
  case neg =>
    have vc : verdict cs ls kvs (kindD T c r) = some (.str "colours") := by
      rw [vd, if_neg]
      unfold colsB
      intro z
      rw [Bool.and_eq_true, Bool.and_eq_true] at z
      refine hc ⟨z.1, fun e => ?_⟩
      rw [e] at z
      cases z.2.1
    refine st_seq (st_ifT (et_orF isk ?_) fun H2 e2 => bad (Lk.of e2) rfl (m.up e2) ev_str vc)
    by_cases ha : areN c 6 = true
    · obtain ⟨l, kc, ic, _, _, _⟩ := areN_names ha fc
      have le : l = [] := by
        rcases Classical.em (l = []) with z | z
        · exact z
        · exact absurd ⟨ha, by rw [ic]; show strsOf (l.map .str) ≠ []; rw [strsOf_map]; exact z⟩ hc
      subst le
      refine et_orF (et_not (b := true) (et_B (M := M) (Ev.to (ev_call m (ea_cons (fK cf rfl T.na_Kind_colours rfl) (ea_one ev_int)) (.inl ⟨c, 6, rfl, fc, rfl⟩)) (by rw [ha])))) (et_test (M := M) (Ev.to (ev_eqD dInt (x := 0) (y := 0) rfl rfl (ev_len (ea_one (fK cf rfl T.na_Kind_colours rfl)) (its_len kc) (fi_dT fc) (its_str kc)) ev_int) (by rw [decide_eq_true rfl])))
    · have ha : areN c 6 = false := by simpa using ha
      exact et_orT (et_not (b := false) (et_B (M := M) (Ev.to (ev_call m (ea_cons (fK cf rfl T.na_Kind_colours rfl) (ea_one ev_int)) (.inl ⟨c, 6, rfl, fc, rfl⟩)) (by rw [ha]))))
  obtain ⟨ha, hne⟩ := hc
  obtain ⟨l, kc, ic, _, _, l6⟩ := areN_names ha fc
  have hl0 : l ≠ [] := by
    rw [ic] at hne
    rw [show strsOf ((some (l.map D.str)).getD []) = l from strsOf_map l] at hne
    exact hne
  have len0 : decide ((l.length : Int) = 0) = false := decide_eq_false (by
    have := List.length_pos_iff.mpr hl0
    omega)
  have cb : colsB cs c = l.all fun x => decide (x ∈ cs) := by
    unfold colsB
    rw [ha, ic, show strsOf ((some (l.map D.str)).getD []) = l from strsOf_map l]
    cases l with
    | nil => exact absurd rfl hl0
    | cons x l => rfl
  refine st_seq (st_ifF (et_orF isk (et_orF (et_not (b := true) (et_B (M := M) (Ev.to (ev_call m (ea_cons (fK cf rfl T.na_Kind_colours rfl) (ea_one ev_int)) (.inl ⟨c, 6, rfl, fc, rfl⟩)) (by rw [ha])))) (et_test (M := M) (Ev.to (ev_eqD dInt (x := (l.length : Int)) (y := 0) rfl rfl (Ev.to (ev_len (ea_one (fK cf rfl T.na_Kind_colours rfl)) (its_len kc) (fi_dT fc) (its_str kc)) (by rw [List.length_map] <;> rfl)) ev_int) (by rw [len0]))))) fun H2 e2 => ?_)
  have m2 := m.up e2
  have k2 : Lk H H2 := Lk.of e2
  dsimp only [tNext]
  refine st_seq (st_if (b := !colsB cs c) (et_not (et_B (M := M) (Ev.to (ev_all (bs := l.map fun x => decide (x ∈ cs)) (ea_one (Ev.to (ev_lcm (ds := l.map .str) (fun d => .bl (match d with
    | .str x => decide (x ∈ cs)
    | _ => false)) m2 (ia_seq (fK k2 rfl T.na_Kind_colours rfl) kc) (by rw [List.length_map]; omega) fun N H5 d y mN eN hd rd => ?_) (by rw [List.map_map, List.map_map] <;> rfl)))) (by rw [cb, List.all_map] <;> rfl)))) (fun hb H3 e3 => bad (Lk.of (e2.trans e3)) rfl (m2.up e3) ev_str (by rw [vd, if_neg (by intro z; rw [z] at hb; cases hb)])) fun hb H3 e3 => ?_)
  · obtain ⟨x, _, rfl⟩ := List.mem_map.mp hd
    exact elt_all (s2 := (wipe (S6 vs1 vn vk none none none) [3]).set 3 (some y)) (fun Q q => q) rfl (ev_inTD dStr (x := x) (l := cs) rfl rfl (ev_var rfl rd) (ev_fld (ev_var rfl ((up k2 rsf).up eN)) T.cls_Schema T.na_Schema_colours rfl))
  have hcb : colsB cs c = true := by simpa using hb
  have e23 := e2.trans e3
  have m3 := m.up e23
  have k3 : Lk H H3 := Lk.of e23
  rw [if_pos hcb] at vd
  dsimp only [tNext]
  -- its labels
  by_cases hr2 : areL r = true
  case neg =>
    have hr3 : areL r = false := by simpa using hr2
    have vl : verdict cs ls kvs (kindD T c r) = some (.str "labels") := by
      rw [vd, if_neg]
      intro z
      cases r with
      | dK rows =>
        have z' : (labsB rows && _) = true := z
        rw [Bool.and_eq_true] at z'
        exact hr2 z'.1
      | _ => cases z
    exact st_seq (st_ifT (et_orT (et_not (b := false) (et_B (M := M) (Ev.to (ev_call m3 (ea_one (fK k3 rfl T.na_Kind_rows rfl)) ⟨r, rfl, okr, rfl⟩) (by rw [hr3]))))) fun H4 e4 => bad (Lk.of (e23.trans e4)) rfl (m3.up e4) ev_str vl)
  cases r with
  | dK rows =>
    rcases okr with hf | ⟨rows', erow, lrow, krow, ndrow⟩
    · cases hf
    cases erow
    have hb1 : labsB rows = true := hr2
    obtain ⟨ks1, ks2⟩ := keys_strs hb1
    have kl : kLabs ls (.dK rows) = (keysS rows).all fun x => decide (x ∈ ls) := by
      show (labsB rows && _) = _
      rw [hb1, Bool.true_and]
    obtain ⟨vr, rr, sees⟩ := fld_sees (s := S6 vs1 vn vk none none none) (i := 2) (f := "rows") (d := .dK rows) (fs := kindF c (.dK rows)) T.cls_Kind T.na_Kind_rows rfl (up k3 rk) rfl
    refine st_seq (st_if (b := !kLabs ls (.dK rows)) (et_orF (et_not (b := true) (et_B (M := M) (Ev.to (ev_call m3 (ea_one (fK k3 rfl T.na_Kind_rows rfl)) ⟨.dK rows, rfl, .inr ⟨rows, rfl, lrow, krow, ndrow⟩, rfl⟩) (by rw [hr2])))) (et_not (et_B (M := M) (Ev.to (ev_all (bs := (keysS rows).map fun x => decide (x ∈ ls)) (ea_one (ev_lock (c := kcK) (kvs := rows) m3 rr fun Hl a od ws ml fl ea nmm hb rp => ?_))) (by rw [kl, List.all_map] <;> rfl))))) (fun hb H4 e4 => bad (Lk.of (e23.trans e4)) rfl (m3.up e4) ev_str (by rw [vd, if_neg (by intro z; rw [z] at hb; cases hb)])) fun hb H4 e4 => ?_)
    · have keys : (rows.map fun p => kD p.1) = ws.map fun p => kD p.1 := by
        have e : ws.map (·.1) = rows.map (·.1) := RepK.keys (repK_iff.mpr rp)
        have e2 := congrArg (List.map kD) e
        rw [List.map_map, List.map_map] at e2
        exact e2.symm
      refine Ev.to (ev_lcm (ds := rows.map fun p => kD p.1) (fun d => .bl (match d with
        | .str x => decide (x ∈ ls)
        | _ => false)) ml (ia_dict (a := a) (od := od) ml (sees Hl fl a ea) nmm (.inl ⟨ws, hb, keys⟩)) (by rw [List.length_map]; omega) fun N H5 d y mN eN hd rd => ?_) (by rw [ks1, List.map_map, List.map_map] <;> rfl)
      rw [ks1] at hd
      obtain ⟨x, _, rfl⟩ := List.mem_map.mp hd
      exact elt_all (s2 := (wipe (S6 vs1 vn vk none none none) [4]).set 4 (some y)) (fun Q q => q) rfl (ev_inTD dStr (x := x) (l := ls) rfl rfl (ev_var rfl rd) (ev_fld (ev_var rfl ((Rep.fx fl _ (up k3 rsf)).up eN)) T.cls_Schema T.na_Schema_labels rfl))
    have hkl : kLabs ls (.dK rows) = true := by simpa using hb
    rw [if_pos hkl] at vd
    have e24 := e23.trans e4
    have m4 := m.up e24
    have k4 : Lk H H4 := Lk.of e24
    dsimp only [tNext]
    -- its rows
    obtain ⟨vr, rr, sees⟩ := fld_sees (s := S6 vs1 vn vk none none none) (i := 2) (f := "rows") (d := .dK rows) (fs := kindF c (.dK rows)) T.cls_Kind T.na_Kind_rows rfl (up k4 rk) rfl
    refine st_lockS (M := M) m4 rr fun Hl a od ws back E' ml fl fe ea nmm hb rp ul el offs lk => ?_
    have k5 : Lk H Hl := k4.trans lk
    refine st_for (M := M) (ds := rows.map pairD) ml (ia_items (a := a) (od := od) (ws := ws) (sees Hl fl a ea) hb rp) (fun G1 i s' G' => Same G1 G' ∧ Same Hl G1 ∧ (forall (j : Nat) (p : Key × D), j < i -> rows[j]? = some p -> rowB p.2 kvs 9 = true) ∧ exists o3 o4 o5, s' = S6 vs1 vn vk o3 o4 o5)
      (fun G1 g1 => ⟨Same.refl _, g1, fun j p hj => absurd hj (Nat.not_lt_zero _), none, none, none, rfl⟩) (fun G1 i s' G' h => Kp.of h.1) ?_ ?_
    · rintro G1 i d x s' G' G'' g1 hi hd ⟨gx, g1', hall, o3, o4, o5, rfl⟩ g2 rx
      rw [List.length_map] at hi
      obtain ⟨k0, d0, hk0⟩ : exists k0 d0, rows[i]? = some (k0, d0) := ⟨rows[i].1, rows[i].2, by rw [List.getElem?_eq_getElem hi]⟩
      have ed : d = pairD (k0, d0) := by
        rw [List.getElem?_map, hk0] at hd
        exact (Option.some.inj hd).symm
      subst ed
      have gA : Same Hl G'' := g1'.trans (gx.trans g2)
      have mG := ml.up gA
      have rx0 := rx M (ml.up (g1'.trans gx)) (fun _ z => .inl z)
      obtain ⟨t, xs, et, ht, rxs⟩ := rx0
      obtain ⟨y1, y2, exs, ry1, ry2⟩ := rxs.two_of
      subst exs et
      refine ⟨t, _, rfl, SqT.of (msk_same _ _ ht), rfl, _, _, rfl, _, [], rfl, rfl, ?_⟩
      have kG : Lk H G'' := k5.trans (Lk.of gA)
      have htold : R_told T [d0, .dK kvs, .int 9] (.bl (rowB d0 kvs 9)) := by
        refine ⟨d0, kvs, 9, rfl, ?_⟩
        rcases hrow rows rfl _ (List.mem_of_getElem? hk0) with ⟨es, e⟩ | ⟨lo, hi, mu, no, e, f1, f2, f3, f4⟩
        · have e' : d0 = .tup es := e
          subst e'
          exact .inl ⟨es, rfl, rfl⟩
        · have e' : d0 = rowD T lo hi mu no := e
          subst e'
          exact .inr ⟨lo, hi, mu, no, rfl, f1, f2, f3, f4, rfl⟩
      have hst : EvD M (tCon K (tVar 0) "highest") (S6 vs1 vn vk o3 (some y1) (some y2)) G'' (.int 9) := ev_con (ev_var rfl (up kG rsf)) T.cls_Schema T.con_Schema_highest.choose_spec rfl
      refine st_if (b := !rowB d0 kvs 9) (et_not (et_B (M := M) (ev_call mG (ea_cons (ev_var rfl ry2) (ea_cons (fS kG rfl T.na_Schema_kinds rfl) (ea_one hst))) htold))) (fun hbb H5 e5 => ?_) fun hbb H5 e5 => ?_
      · refine bad (part := kD k0) (kG.trans (Lk.of e5)) rfl (mG.up e5) (ev_var rfl (ry1.up (msk_mono e5))) ?_
        rw [vd]
        show (badRow kvs 9 rows).map kD = _
        rw [badRow_at hk0 (by simpa using hbb) hall] <;> rfl
      · refine ⟨(gx.trans g2).trans e5, g1', fun j p hj hp => ?_, o3, some y1, some y2, rfl⟩
        rcases Nat.lt_succ_iff_lt_or_eq.mp hj with y | y
        · exact hall j p y hp
        · subst y
          rw [hk0] at hp
          cases hp
          simpa using hbb
    · rintro G1 s' G' g1 ⟨gx, g1', hall, o3, o4, o5, rfl⟩
      have gA : Same Hl G' := g1'.trans gx
      refine el.nx _ G' (SameE.of gA) (hOK ?_ .non _ ?_ rfl)
      · rw [vd]
        show (badRow kvs 9 rows).map kD = none
        rw [badRow_none.mpr fun p hp => ?_] <;> try rfl
        obtain ⟨j, hj, e⟩ := List.mem_iff_getElem.mp hp
        exact hall j p (by rw [List.length_map]; exact hj) (by rw [List.getElem?_eq_getElem hj, e])
      · refine e24.trans fun b o hb' => ?_
        rcases Classical.em (M b) with z | z
        · rw [ul.off G' b z]
          exact gA b o (by rw [offs b z]; exact hb')
        · exact ul.same G' (SameE.of gA) b o z hb'
  | _ => cases hr2
end

end K02
namespace K02
open PySem PySem.Spec PyProof.Rows L2 Ak
/-! ### a schema that is made: what it comes to -/
section
variable {K : PySem.W.Frag} {mg : Str -> Option Value}
def G0 (c : D) (lc : List Str) : Prop := areN c 6 = true ∧ c.its = some (lc.map .str) ∧ lc ≠ []
def bad0 (c : D) : Prop := areN c 6 = false ∨ c.its = some []
def G1 (l : D) (ll : List Str) : Prop := areN l 4 = true ∧ l.its = some (ll.map .str)
structure okKs (T : Tx K mg) (kvs : List (Key × D)) : Prop where
  few : kvs.length ≤ 60
  key : forall p, p ∈ kvs -> (kD p.1).fi = true
  nd : (kvs.map (·.1)).Nodup
  kind : forall p, p ∈ kvs -> okKindD T p.2
def G2 (k : D) (kvs : List (Key × D)) : Prop := k = .dK kvs ∧ kvs.length ≤ 16 ∧ labsB kvs = true
def okIn (T : Tx K mg) (c l k : D) : Prop := c.fi = true ∧ l.fi = true ∧ (k.fi = true ∨ exists kvs, k = .dK kvs ∧ okKs T kvs)
def schF (T : Tx K mg) (cs ls : List Str) (ks : Kinds) (f : Str -> Int) : List (Str × D) := [("colours", namesD cs), ("labels", namesD ls), ("kinds", .dK (kindsI T ks)), ("strata", fD (ks.map (·.1)) f)]
def schD (T : Tx K mg) (cs ls : List Str) (ks : Kinds) (f : Str -> Int) : D := .ins T.C_Schema (schF T cs ls ks f)
def badF (nm : Str) (part : D) : List (Str × D) := [("part", part), ("kind", .str nm)]
/-- the first kind of a row of kinds that can't stand -/
def FirstBad (cs ls : List Str) (kvs : List (Key × D)) (nm : Str) (part : D) : Prop := exists (i : Nat) (kd : D), kvs[i]? = some (.inr nm, kd) ∧ verdict cs ls kvs kd = some part ∧ forall (j : Nat) (p : Key × D), j < i -> kvs[j]? = some p -> verdict cs ls kvs p.2 = none
def AllGood (cs ls : List Str) (kvs : List (Key × D)) : Prop := forall p, p ∈ kvs -> verdict cs ls kvs p.2 = none
def R_schema (T : Tx K mg) : List D -> List (Str × D) -> Prop := fun ds fs => exists c l k lc ll kvs ks f, ds = [c, l, k] ∧ okIn T c l k ∧ G0 c lc ∧ G1 l ll ∧ G2 k kvs ∧ AllGood (sortS lc) (sortS ll) (sortKV kvs) ∧ sortKV kvs = kindsI T ks ∧ Fits ks ∧ Least (ks.map (·.1)) ks.mu ks.no f ∧ fs = schF T (sortS lc) (sortS ll) ks f
inductive Told (T : Tx K mg) (c l k : D) : Str -> D -> Prop
  | colours (h : bad0 c) : Told T c l k "" (.str "colours")
  | labels {lc} (h : G0 c lc) (h1 : areN l 4 = false) : Told T c l k "" (.str "labels")
  | kinds {lc ll} (h : G0 c lc) (h1 : G1 l ll) (h2 : forall kvs, ¬ G2 k kvs) : Told T c l k "" (.str "kinds")
  | kind {lc ll kvs nm part} (h : G0 c lc) (h1 : G1 l ll) (h2 : G2 k kvs) (h3 : FirstBad (sortS lc) (sortS ll) (sortKV kvs) nm part) : Told T c l k nm part
  | ring {lc ll kvs ks} (h : G0 c lc) (h1 : G1 l ll) (h2 : G2 k kvs) (h3 : AllGood (sortS lc) (sortS ll) (sortKV kvs)) (h4 : sortKV kvs = kindsI T ks) (h5 : Fits ks) (h6 : forall st, ¬ Sol (ks.map (·.1)) ks.mu ks.no st) : Told T c l k "" (.str "not")
def X_schema (T : Tx K mg) : List D -> Addr -> List (Str × D) -> Prop := fun ds C fs => exists c l k nm part, ds = [c, l, k] ∧ okIn T c l k ∧ Told T c l k nm part ∧ C = T.C_BadSchema ∧ fs = badF nm part
/-- all that the walk asks -/
structure View (T : Tx K mg) (c l k : D) (CQ : List (Str × D) -> Prop) (CE : Str -> D -> Prop) : Prop where
  e0 : bad0 c -> CE "" (.str "colours")
  e1 : forall lc, G0 c lc -> areN l 4 = false -> CE "" (.str "labels")
  e2 : forall lc ll, G0 c lc -> G1 l ll -> (forall kvs, ¬ G2 k kvs) -> CE "" (.str "kinds")
  e3 : forall lc ll kvs nm part, G0 c lc -> G1 l ll -> G2 k kvs -> FirstBad (sortS lc) (sortS ll) (sortKV kvs) nm part -> CE nm part
  e4 : forall lc ll kvs, G0 c lc -> G1 l ll -> G2 k kvs -> AllGood (sortS lc) (sortS ll) (sortKV kvs) -> exists ks, sortKV kvs = kindsI T ks ∧ Fits ks ∧ ((exists f, Least (ks.map (·.1)) ks.mu ks.no f ∧ CQ (schF T (sortS lc) (sortS ll) ks f)) ∨ ((forall st, ¬ Sol (ks.map (·.1)) ks.mu ks.no st) ∧ CE "" (.str "not")))
theorem str_map_inj {a b : List Str} (h : some (a.map D.str) = some (b.map D.str)) : a = b := (List.map_inj_right fun a b h => by injection h).mp (Option.some.inj h)
theorem G0.eq {c : D} {a b : List Str} (h1 : G0 c a) (h2 : G0 c b) : a = b := str_map_inj (h1.2.1.symm.trans h2.2.1)
theorem G1.eq {c : D} {a b : List Str} (h1 : G1 c a) (h2 : G1 c b) : a = b := str_map_inj (h1.2.symm.trans h2.2)
theorem G2.eq {k : D} {a b : List (Key × D)} (h1 : G2 k a) (h2 : G2 k b) : a = b := by
  have e := h1.1.symm.trans h2.1
  injection e
theorem G0.not {c : D} {a : List Str} (h1 : G0 c a) : ¬ bad0 c := fun z => by
  rcases z with z | z
  · rw [h1.1] at z
    cases z
  · rw [h1.2.1] at z
    have e : a.map D.str = [] := Option.some.inj z
    cases a with
    | nil => exact h1.2.2 rfl
    | cons x a => cases e
theorem G1.not {c : D} {a : List Str} (h1 : G1 c a) : ¬ areN c 4 = false := fun z => by
  rw [h1.1] at z
  cases z
theorem FirstBad.not {cs ls : List Str} {kvs : List (Key × D)} {nm : Str} {part : D} (h : FirstBad cs ls kvs nm part) : ¬ AllGood cs ls kvs := fun z => by
  obtain ⟨i, kd, h1, h2, _⟩ := h
  have e := z _ (List.mem_of_getElem? h1)
  rw [e] at h2
  cases h2
theorem FirstBad.eq {cs ls : List Str} {kvs : List (Key × D)} {nm nm2 : Str} {part part2 : D} (h : FirstBad cs ls kvs nm part) (g : FirstBad cs ls kvs nm2 part2) : nm = nm2 ∧ part = part2 := by
  obtain ⟨i, kd, h1, h2, h3⟩ := h
  obtain ⟨j, kd2, g1, g2, g3⟩ := g
  have e : i = j := by
    rcases Nat.lt_trichotomy i j with z | z | z
    · have := g3 i _ z h1
      rw [this] at h2
      cases h2
    · exact z
    · have := h3 j _ z g1
      rw [this] at g2
      cases g2
  subst e
  rw [h1] at g1
  cases g1
  rw [h2] at g2
  cases g2
  exact ⟨rfl, rfl⟩
theorem kindsI_inj {T : Tx K mg} : forall {a b : Kinds}, kindsI T a = kindsI T b -> a.map (·.1) = b.map (·.1)
  | [], [], _ => rfl
  | [], _ :: _, h => by cases h
  | _ :: _, [], h => by cases h
  | p :: a, q :: b, h => by
    have h' : ((.inr p.1 : Key), kindI T p.2) :: kindsI T a = (.inr q.1, kindI T q.2) :: kindsI T b := h
    injection h' with h1 h2
    injection h1 with h1 _
    injection h1 with h1
    rw [List.map_cons, List.map_cons, h1, kindsI_inj h2]
theorem view_R {T : Tx K mg} {c l k : D} {lc ll : List Str} {kvs : List (Key × D)} {ks : Kinds} {f : Str -> Int} {CQ : List (Str × D) -> Prop} {CE : Str -> D -> Prop} (g0 : G0 c lc) (g1 : G1 l ll) (g2 : G2 k kvs) (ag : AllGood (sortS lc) (sortS ll) (sortKV kvs)) (e : sortKV kvs = kindsI T ks) (fit : Fits ks) (hf : Least (ks.map (·.1)) ks.mu ks.no f) (q : CQ (schF T (sortS lc) (sortS ll) ks f)) : View T c l k CQ CE := by
  refine ⟨fun z => absurd z g0.not, fun _ _ z => absurd z g1.not, fun _ _ _ _ z => absurd g2 (z kvs), fun lc' ll' kvs' nm part a b d z => ?_, fun lc' ll' kvs' a b d _ => ?_⟩
  · rw [a.eq g0, b.eq g1, d.eq g2] at z
    exact absurd ag z.not
  · rw [a.eq g0, b.eq g1, d.eq g2]
    exact ⟨ks, e, fit, .inl ⟨f, hf, q⟩⟩
theorem view_X {T : Tx K mg} {c l k : D} {nm : Str} {part : D} {CQ : List (Str × D) -> Prop} {CE : Str -> D -> Prop} (h : Told T c l k nm part) (q : CE nm part) : View T c l k CQ CE := by
  cases h with
  | colours h => exact ⟨fun _ => q, fun _ a => absurd h a.not, fun _ _ a => absurd h a.not, fun _ _ _ _ _ a => absurd h a.not, fun _ _ _ a => absurd h a.not⟩
  | labels h h1 => exact ⟨fun z => absurd z h.not, fun _ _ _ => q, fun _ _ _ b => absurd h1 b.not, fun _ _ _ _ _ _ b => absurd h1 b.not, fun _ _ _ _ b => absurd h1 b.not⟩
  | kinds h h1 h2 => exact ⟨fun z => absurd z h.not, fun _ _ z => absurd z h1.not, fun _ _ _ _ _ => q, fun _ _ kvs _ _ _ _ d => absurd d (h2 kvs), fun _ _ kvs _ _ d => absurd d (h2 kvs)⟩
  | kind h h1 h2 h3 =>
    refine ⟨fun z => absurd z h.not, fun _ _ z => absurd z h1.not, fun _ _ _ _ z => absurd h2 (z _), fun lc' ll' kvs' nm' part' a b d z => ?_, fun lc' ll' kvs' a b d z => ?_⟩
    · rw [a.eq h, b.eq h1, d.eq h2] at z
      obtain ⟨e1, e2⟩ := z.eq h3
      rw [e1, e2]
      exact q
    · rw [a.eq h, b.eq h1, d.eq h2] at z
      exact absurd z h3.not
  | ring h h1 h2 h3 h4 h5 h6 =>
    refine ⟨fun z => absurd z h.not, fun _ _ z => absurd z h1.not, fun _ _ _ _ z => absurd h2 (z _), fun lc' ll' kvs' nm' part' a b d z => ?_, fun lc' ll' kvs' a b d z => ?_⟩
    · rw [a.eq h, b.eq h1, d.eq h2] at z
      exact absurd h3 z.not
    · rw [d.eq h2]
      exact ⟨_, h4, h5, .inr ⟨h6, q⟩⟩
end

end K02
namespace K02
open PySem PySem.Spec PyProof.Rows L2 Ak
/-! ### a schema is made -/
section
variable {P : Program} {w : World} {K : PySem.W.Frag} {mg : Str -> Option Value} {base : Heap}
theorem LkX.of {x : Addr} {H H' : Hp} (e : SameX x H H') : LkX x H H' := fun b o n h => .inl (e b o n h)
theorem LkX.lk {x : Addr} {H H1 H2 : Hp} (a : LkX x H H1) (b : Lk H1 H2) : LkX x H H2 := fun c o n h => by
  rcases a c o n h with h1 | ⟨hd, od, h1⟩
  · exact b c o h1
  · rcases b c _ h1 with h2 | ⟨hd2, _⟩
    · exact .inr ⟨hd, od, h2⟩
    · rcases hd2 with ⟨k, e⟩ | ⟨k, e⟩ <;> cases e
theorem LkX.free {x : Addr} {H H' : Hp} (a : LkX x H H') (hx : H' x ≠ none) {p : Addr} (h : H' p = none) : H p = none := by
  cases q : H p with
  | none => rfl
  | some o =>
    have n : p ≠ x := fun z => hx (by rw [← z]; exact h)
    rcases a p o n q with z | ⟨_, od, z⟩ <;> rw [h] at z <;> cases z
theorem okK_vD {T : Tx K mg} {kvs : List (Key × D)} (h : okKs T kvs) (k : Key) : okKindD T ((vD kvs k).getD .non) := by
  cases g : vD kvs k with
  | none => exact .inl rfl
  | some d =>
    unfold vD at g
    cases g2 : kvs.find? fun kv => decide (kv.1 = k) with
    | none =>
      rw [g2] at g
      cases g
    | some p =>
      rw [g2] at g
      cases g
      exact h.kind p (List.mem_of_find?_eq_some g2)
theorem sortKV_at {kvs : List (Key × D)} {i : Nat} {p : Key × D} (h : (sortKV kvs)[i]? = some p) : exists nm, p = (.inr nm, (vD kvs (.inr nm)).getD .non) := by
  unfold sortKV at h
  rw [List.getElem?_map] at h
  cases g : (sortS (keysS kvs))[i]? with
  | none =>
    rw [g] at h
    cases h
  | some nm =>
    rw [g] at h
    exact ⟨nm, (Option.some.inj h).symm⟩
theorem sortS_len (l : List Str) : (sortS l).length = l.length := (sortS_perm l).length_eq
theorem keysS_len (kvs : List (Key × D)) (h : labsB kvs = true) : (keysS kvs).length = kvs.length := by
  have z := congrArg List.length (keys_strs h).1
  rw [List.length_map, List.length_map] at z
  exact z.symm
theorem rep_key {G G' : Hp} {k : Key} {v : V} (h : Rep G (kD k) v) : Rep G' (kD k) v := by
  cases k with
  | inl i => exact h
  | inr x => exact h
theorem badRow_key {kvs : List (Key × D)} {hst : Int} {rows : List (Key × D)} {part : D} (h : (badRow kvs hst rows).map kD = some part) : exists k, part = kD k := by
  cases g : badRow kvs hst rows with
  | none =>
    rw [g] at h
    cases h
  | some k =>
    rw [g] at h
    exact ⟨k, (Option.some.inj h).symm⟩
theorem verdict_key {cs ls : List Str} {kvs : List (Key × D)} {kd part : D} {T : Tx K mg} (ok : okKindD T kd) (h : verdict cs ls kvs kd = some part) : exists k, part = kD k := by
  rcases ok with rfl | ⟨c, r, rfl, _⟩
  · exact ⟨.inr "colours", (Option.some.inj h).symm⟩
  · have e : verdict cs ls kvs (kindD T c r) = if colsB cs c = true then (if kLabs ls r = true then (match r with
      | .dK rows => (badRow kvs 9 rows).map kD
      | _ => none) else some (.str "labels")) else some (.str "colours") := rfl
    rw [e] at h
    by_cases h1 : colsB cs c = true
    · rw [if_pos h1] at h
      by_cases h2 : kLabs ls r = true
      · rw [if_pos h2] at h
        cases r with
        | dK rows => exact badRow_key h
        | _ => cases h
      · rw [if_neg h2] at h
        exact ⟨.inr "labels", (Option.some.inj h).symm⟩
    · rw [if_neg h1] at h
      exact ⟨.inr "colours", (Option.some.inj h).symm⟩
abbrev Si (x a b c : V) (o4 o5 : Option V) : L2.St := [some x, some a, some b, some c, o4, o5]
theorem ok_Schema_init (T : Tx K mg) : FnOk P w K mg base (L2.CX P w) 6 T.f_Schema_init T.d_Schema_init ["self", "colours", "labels", "kinds"] (SpIL T.C_Schema (R_schema T) (X_schema T)) := by
  refine T.F_Schema_init.ok sc_Schema_init (fun _ _ _ _ h => SpIL.len (n := 3) (fun ds fs ⟨_, _, _, _, _, _, _, _, e, _⟩ => by rw [e] <;> rfl) (fun ds C z ⟨_, _, _, _, _, e, _⟩ => by rw [e] <;> rfl) h) (fun cdv A outer s H vs Q E hr h => ⟨_, (pss_cons (ps_if (PW.pt (pw_or (pt_not (pt_val (pe_call (ok_are_names T) (hr.mono (by decide)) rfl T.g_are_names T.F_are_names.kp T.B_are_names .nil passL (pa_cons (pv 1) (pa_cons (pe_glob (v := .int 6) rfl T.c_MOST_COLOURS.choose_spec ⟨_, rfl⟩) pa_nil))))) (pw_or1 (pt_cmpR (op_eqU hr.units) (pe_callB call_lenU rfl T.n_len PySem.boot_len (by exact (pa_cons (pv 1) pa_nil))) pe_int (nomark _))))) (pss_one (ps_raise rfl (takes_of rfl rfl rfl rfl) (pmk_oex T.ox_BadSchema T.i_BadSchema T.t_BadSchema (ok_BadSchema_init T) (hr.mono (by decide)) T.B_BadSchema_init .nil (by exact passL) rfl T.g_BadSchema (pa_cons pe_str (pa_cons pe_str pa_nil))))) pss_nil)
      (pss_cons (ps_if (pt_not (pt_val (pe_call (ok_are_names T) (hr.mono (by decide)) rfl T.g_are_names T.F_are_names.kp T.B_are_names .nil passL (pa_cons (pv 2) (pa_cons (pe_glob (v := .int 4) rfl T.c_MOST_LABELS.choose_spec ⟨_, rfl⟩) pa_nil))))) (pss_one (ps_raise rfl (takes_of rfl rfl rfl rfl) (pmk_oex T.ox_BadSchema T.i_BadSchema T.t_BadSchema (ok_BadSchema_init T) (hr.mono (by decide)) T.B_BadSchema_init .nil (by exact passL) rfl T.g_BadSchema (pa_cons pe_str (pa_cons pe_str pa_nil))))) pss_nil)
      (pss_cons (ps_if (PW.pt (pw_or (pt_not (pt_val (pe_callB call_isi rfl T.n_isinstance PyProof.Rows.boot_isinstance (pa_cons (pv 3) (pa_cons (pe_bltn (v := .ty "dict") rfl T.n_dict PyProof.Rows.boot_dict rfl) pa_nil))))) (pw_or (pt_cmpR op_gt (pe_callB call_lenU rfl T.n_len PySem.boot_len (by exact (pa_cons (pv 3) pa_nil))) (pe_con (pv 0) rfl) (nomark _)) (pw_or1 (pt_not (pt_val (pe_callB (cr_all rfl) rfl T.n_all PyProof.Rows.boot_all (by exact (pa_cons (pe_lockU (pe_lc (own := [("name", 4)]) (g := (gName 4)) (tt := tYes) (te := (tCall (SpR R_is_name) [] E0 (tCons (tVar 4) tNil))) rfl sc_Schema_init.nd (pi_any (pv 3)) (blkOk_by (own := [("name", 4)]) (N := ["self", "colours", "labels", "kinds", "name", "kind"]) (sc := (defScope s_Schema_init)) (by decide +kernel)) (fun _ _ _ _ _ => by exact (pg_name (i := 4) sc_Schema_init.nd rfl (.inl rfl))) (fun _ _ _ _ _ => by exact pts_nil) (fun _ _ _ _ _ => by exact (pe_call (ok_is_name T) (hr.mono (by decide)) rfl T.g_is_name T.F_is_name.kp T.B_is_name .nil passL (pa_cons (pv 4) pa_nil))))) pa_nil))))))))) (pss_one (ps_raise rfl (takes_of rfl rfl rfl rfl) (pmk_oex T.ox_BadSchema T.i_BadSchema T.t_BadSchema (ok_BadSchema_init T) (hr.mono (by decide)) T.B_BadSchema_init .nil (by exact passL) rfl T.g_BadSchema (pa_cons pe_str (pa_cons pe_str pa_nil))))) pss_nil)
      (pss_cons (ps_fld (pv 0) (pe_callTy call_tuple_of rfl T.n_tuple (by decide +kernel) (by exact (pa_cons (pe_callB (call_sortC rfl hr.units) rfl T.n_sorted PyProof.Rows.boot_sorted (by exact (pa_cons (pv 1) pa_nil))) pa_nil))) rfl)
      (pss_cons (ps_fld (pv 0) (pe_callTy call_tuple_of rfl T.n_tuple (by decide +kernel) (by exact (pa_cons (pe_callB (call_sortC rfl hr.units) rfl T.n_sorted PyProof.Rows.boot_sorted (by exact (pa_cons (pv 2) pa_nil))) pa_nil))) rfl)
      (pss_cons (ps_fld (pv 0) (pe_dcU (.dK []) (.inl rfl) (hu_of hr) (own := [("name", 4)]) (g := (gName 4)) (tt := tYes) (tk := (tVar 4)) (tv := (tDGet (tVar 3) (tVar 4))) rfl sc_Schema_init.nd (pi_any (pe_callB (call_sortC rfl hr.units) rfl T.n_sorted PyProof.Rows.boot_sorted (by exact (pa_cons (pv 3) pa_nil)))) (blkOk_by (own := [("name", 4)]) (N := ["self", "colours", "labels", "kinds", "name", "kind"]) (sc := (defScope s_Schema_init)) (by decide +kernel)) (fun _ _ _ _ _ => by exact (pg_name (i := 4) sc_Schema_init.nd rfl (.inl rfl))) (fun _ _ _ _ _ => by exact pts_nil) (fun _ _ _ _ _ => by exact (pv 4)) (fun _ _ _ _ _ => by exact (pe_dget (hu_of hr) (pv 3) (pv 4) (fun _ _ => rfl)))) rfl)
      (pss_cons (ps_lockS (ps_for PassesOwn.leaving rfl (pi_items (pe_fld (pv 0) rfl)) (pg_tup rfl (pgs_cons (pg_name (i := 4) sc_Schema_init.nd rfl (.inl rfl)) (pgs_cons (pg_name (i := 5) sc_Schema_init.nd rfl (.inl rfl)) pgs_nil)))
      (pss_one (ps_expr (pe_meth (pv 0) T.cls_Schema T.m_Schema_check_kind (ok_Schema_check_kind T) (hr.mono (by decide)) T.B_Schema_check_kind .nil (passes_call (takes_of rfl rfl rfl rfl) (fun _ _ _ _ h => h)) (pa_cons (pv 4) (pa_cons (pv 5) pa_nil)))))))
      (pss_cons (ps_fld (pv 0) (pe_call (ok_strata_of T) (hr.mono (by decide)) rfl T.g_strata_of T.F_strata_of.kp T.B_strata_of .nil passL (pa_cons (pe_fld (pv 0) rfl) pa_nil)) rfl)
      (pss_one (ps_if (pt_cmpR op_isN (pe_fld (pv 0) rfl) pe_non (nomark _)) (pss_one (ps_raise rfl (takes_of rfl rfl rfl rfl) (pmk_oex T.ox_BadSchema T.i_BadSchema T.t_BadSchema (ok_BadSchema_init T) (hr.mono (by decide)) T.B_BadSchema_init .nil (by exact passL) rfl T.g_BadSchema (pa_cons pe_str (pa_cons pe_str pa_nil))))) pss_nil)))))))))), ?_⟩)
  obtain ⟨M, ds, x, dx, ws, m, mx, rfl, rs, hx, h⟩ := h
  have key : exists c l k, ds = [c, l, k] ∧ okIn T c l k ∧ View T c l k (fun fs => forall vs' H', SameX x H H' -> H' x = some (.ins T.C_Schema dx vs') -> RepF (msk M H') fs vs' -> Q .non H')
      (fun nm part => forall dy ys H', LkX x H H' -> H dy = none -> H' dy = some (.xd ys) -> RepF (msk M H') (badF nm part) ys -> E (.ref T.C_BadSchema) (some dy) H') := by
    rcases h with ⟨fs, ⟨c, l, k, lc, ll, kvs, ks, f, e, ok, g0, g1, g2, ag, ek, fit, hf, rfl⟩, q⟩ | ⟨C, fs, ⟨c, l, k, nm, part, e, ok, td, rfl, rfl⟩, q⟩
    · exact ⟨c, l, k, e, ok, view_R g0 g1 g2 ag ek fit hf q⟩
    · exact ⟨c, l, k, e, ok, view_X td q⟩
  clear h
  obtain ⟨c, l, k, rfl, ⟨fc, fl, ok⟩, V⟩ := key
  obtain ⟨v1, v2, v3, rfl, r1, r2, r3⟩ := rs.three_of
  have bad : forall {s' : L2.St} {H' : Hp} {part : Str}, LkX x H H' -> Mok M H' -> (forall dy ys H', LkX x H H' -> H dy = none -> H' dy = some (.xd ys) -> RepF (msk M H') (badF "" (.str part)) ys -> E (.ref T.C_BadSchema) (some dy) H') -> tMkO T.C_BadSchema (SpX T.C_BadSchema ["kind", "part"]) [] (tCons (tC (.str "")) (tCons (tC (.str part)) tNil)) s' H' fun cls dd H2 => E cls dd H2 := fun {s' H' part} lk mN g => by
    obtain ⟨ox, hox, _⟩ := mN x mx
    exact tmk_ok (M := M) (ds := [.str "", .str part]) (ea_cons ev_str (ea_one ev_str)) rfl (by simp) mN fun dy ys H2 e2 hn hy rf => g dy ys H2 (LkX.lk lk (Lk.of e2)) (LkX.free lk (by rw [hox]; simp) hn) hy rf
  have cH : LkX x H H := LkX.of (SameX.refl H)
  -- the colours
  by_cases hc : exists lc, G0 c lc
  case neg =>
    have hb : bad0 c := by
      cases ha : areN c 6 with
      | false => exact .inl ha
      | true =>
        obtain ⟨lc, _, ic, _⟩ := areN_names ha fc
        refine .inr ?_
        rcases Classical.em (lc = []) with z | z
        · rw [ic, z] <;> rfl
        · exact absurd ⟨lc, ha, ic, z⟩ hc
    refine st_seq (st_ifT ?_ fun H2 e2 => bad (LkX.of (SameX.of e2)) (m.up e2) (V.e0 hb))
    cases ha : areN c 6 with
    | false => exact et_orT (et_not (b := false) (et_B (M := M) (Ev.to (ev_call m (ea_cons (ev_var rfl r1) (ea_one ev_int)) (.inl ⟨c, 6, rfl, fc, rfl⟩)) (by rw [ha]))))
    | true =>
      obtain ⟨lc, kc, ic, _⟩ := areN_names ha fc
      have le : c.its = some [] := by
        rcases hb with z | z
        · rw [ha] at z
          cases z
        · exact z
      obtain ⟨kc, _, _⟩ := its_cases fc le
      exact et_orF (et_not (b := true) (et_B (M := M) (Ev.to (ev_call m (ea_cons (ev_var rfl r1) (ea_one ev_int)) (.inl ⟨c, 6, rfl, fc, rfl⟩)) (by rw [ha])))) (et_test (M := M) (Ev.to (ev_eqD dInt (x := 0) (y := 0) rfl rfl (ev_len (ea_one (ev_var rfl r1)) (its_len kc) (fi_dT fc) (its_str kc)) ev_int) (by rw [decide_eq_true rfl])))
  obtain ⟨lc, g0⟩ := hc
  obtain ⟨lc', kc, ic, _, _, l6⟩ := areN_names g0.1 fc
  have elc : lc' = lc := str_map_inj (ic.symm.trans g0.2.1)
  subst elc
  have len0 : decide ((lc'.length : Int) = 0) = false := decide_eq_false (by
    have := List.length_pos_iff.mpr g0.2.2
    omega)
  refine st_seq (st_ifF (et_orF (et_not (b := true) (et_B (M := M) (Ev.to (ev_call m (ea_cons (ev_var rfl r1) (ea_one ev_int)) (.inl ⟨c, 6, rfl, fc, rfl⟩)) (by rw [g0.1])))) (et_test (M := M) (Ev.to (ev_eqD dInt (x := (lc'.length : Int)) (y := 0) rfl rfl (Ev.to (ev_len (ea_one (ev_var rfl r1)) (its_len kc) (fi_dT fc) (its_str kc)) (by rw [List.length_map] <;> rfl)) ev_int) (by rw [len0])))) fun H2 e2 => ?_)
  have m2 := m.up e2
  dsimp only [tNext]
  -- the labels
  by_cases hl : areN l 4 = true
  case neg =>
    have hl : areN l 4 = false := by simpa using hl
    exact st_seq (st_ifT (et_not (b := false) (et_B (M := M) (Ev.to (ev_call m2 (ea_cons (ev_var rfl (r2.up (msk_mono e2))) (ea_one ev_int)) (.inl ⟨l, 4, rfl, fl, rfl⟩)) (by rw [hl])))) fun H3 e3 => bad (LkX.of (SameX.of (e2.trans e3))) (m2.up e3) (V.e1 _ g0 hl))
  obtain ⟨ll, kl, il, _, _, l4⟩ := areN_names hl fl
  have g1_ : G1 l ll := ⟨hl, il⟩
  refine st_seq (st_ifF (et_not (b := true) (et_B (M := M) (Ev.to (ev_call m2 (ea_cons (ev_var rfl (r2.up (msk_mono e2))) (ea_one ev_int)) (.inl ⟨l, 4, rfl, fl, rfl⟩)) (by rw [hl])))) fun H3 e3 => ?_)
  have e23 := e2.trans e3
  have m3 := m.up e23
  have hx3 := e23 _ _ hx
  have r33 := r3.up (msk_mono (M := M) e23)
  dsimp only [tNext]
  -- the kinds
  by_cases hk : exists kvs, G2 k kvs
  case neg =>
    have raise := fun (H4 : Hp) (e4 : Same H3 H4) (s' : L2.St) => bad (s' := s') (LkX.of (SameX.of (e23.trans e4))) (m3.up e4) (V.e2 _ _ g0 g1_ fun kvs z => hk ⟨kvs, z⟩)
    refine st_seq (st_ifT ?_ fun H4 e4 => raise H4 e4 _)
    rcases ok with hf | ⟨kvs, rfl, okv⟩
    · have nd : isB k "dict" = false := by
        cases k with
        | oth v => cases hf
        | ins C fs => cases hf
        | dK z => cases hf
        | dT z => cases hf
        | _ => rfl
      exact et_orT (et_not (b := false) (et_B (M := M) (Ev.to (ev_isi (ea_cons (ev_var rfl r33) (ea_one ev_ty)) (fi_tn hf) (fi_dT hf) (by decide)) (by rw [nd]))))
    · have isd : EvT (tNot (tB (tCB (rIsi K) (tCons (tVar 3) (tCons (tC (.ty "dict")) tNil))))) (Si (.ref x) v1 v2 v3 none none) H3 false := et_not (b := true) (et_B (M := M) (Ev.to (ev_isi (ea_cons (ev_var rfl r33) (ea_one ev_ty)) (fun e => absurd (show ("dict" : String) = "" from e) (by decide)) (fun _ e => nomatch e) (by decide)) rfl))
      have most : EvD M (tCon K (tVar 0) "most") (Si (.ref x) v1 v2 v3 none none) H3 (.int 16) := ev_conR rfl hx3 T.cls_Schema T.con_Schema_most.choose_spec rfl
      have lenk : EvD M (tCB (rLenU K) (tCons (tVar 3) tNil)) (Si (.ref x) v1 v2 v3 none none) H3 (.int kvs.length) := ev_len (ea_one (ev_var rfl r33)) rfl (fun _ e => nomatch e) fun _ e => nomatch e
      by_cases h16 : kvs.length ≤ 16
      · have hlb : labsB kvs = false := by
          cases z : labsB kvs with
          | false => rfl
          | true => exact absurd ⟨kvs, rfl, h16, z⟩ hk
        refine et_orF isd (et_orF (et_test (M := M) (Ev.to (ev_op lenk most rd_gt) (by rw [decide_eq_false (by omega)]))) (et_not (b := false) (et_B (M := M) (Ev.to (ev_all (bs := (kvs.map fun p => kD p.1).map isNm) (ea_one (ev_lock (c := kcK) (kvs := kvs) m3 r33 fun Hl a od ws ml fl ea nm hb rp => ?_))) ?_))))
        · subst ea
          have keys : (kvs.map fun p => kD p.1) = ws.map fun p => kD p.1 := by
            have e : ws.map (·.1) = kvs.map (·.1) := RepK.keys (repK_iff.mpr rp)
            have e2 := congrArg (List.map kD) e
            rw [List.map_map, List.map_map] at e2
            exact e2.symm
          have := okv.few
          refine Ev.to (ev_lcm (ds := kvs.map fun p => kD p.1) (fun d => .bl (isNm d)) ml (ia_dict (a := a) (od := od) ml (fun H1 e1 Q q => ⟨_, rfl, q _ H1 (Same.refl H1) rfl⟩) nm (.inl ⟨ws, hb, keys⟩)) (by rw [List.length_map]; omega) fun N H5 d y mN eN hd rd => ?_) (by rw [List.map_map, List.map_map, List.map_map] <;> rfl)
          obtain ⟨p, hp, rfl⟩ := List.mem_map.mp hd
          exact elt_all (s2 := (wipe (Si (.ref x) v1 v2 (.ref a) none none) [4]).set 4 (some y)) (fun Q q => q) rfl (ev_call mN (ea_one (ev_var rfl rd)) ⟨kD p.1, rfl, okv.key p hp, rfl⟩)
        · rw [← hlb]
          unfold labsB
          rw [List.all_map, List.all_map]
          congr 1
          exact List.all_congr rfl fun p => isNm_kD p.1
      · exact et_orF isd (et_orT (et_test (M := M) (Ev.to (ev_op lenk most rd_gt) (by rw [decide_eq_true (by omega)]))))
  obtain ⟨kvs, rfl, h16, hlb⟩ := hk
  have g2_ : G2 (.dK kvs) kvs := ⟨rfl, h16, hlb⟩
  rcases ok with hf | ⟨kvs', ekv, okv⟩
  · cases hf
  cases ekv
  obtain ⟨ks1, ks2⟩ := keys_strs hlb
  have klen := keysS_len kvs hlb
  have most : EvD M (tCon K (tVar 0) "most") (Si (.ref x) v1 v2 v3 none none) H3 (.int 16) := ev_conR rfl hx3 T.cls_Schema T.con_Schema_most.choose_spec rfl
  have lenk : EvD M (tCB (rLenU K) (tCons (tVar 3) tNil)) (Si (.ref x) v1 v2 v3 none none) H3 (.int kvs.length) := ev_len (ea_one (ev_var rfl r33)) rfl (fun _ e => nomatch e) fun _ e => nomatch e
  refine st_seq (st_ifF (et_orF (et_not (b := true) (et_B (M := M) (Ev.to (ev_isi (ea_cons (ev_var rfl r33) (ea_one ev_ty)) (fun e => absurd (show ("dict" : String) = "" from e) (by decide)) (fun _ e => nomatch e) (by decide)) rfl))) (et_orF (et_test (M := M) (Ev.to (ev_op lenk most rd_gt) (by rw [decide_eq_false (by omega)]))) (et_not (b := true) (et_B (M := M) (Ev.to (ev_all (bs := (kvs.map fun p => kD p.1).map isNm) (ea_one (ev_lock (c := kcK) (kvs := kvs) m3 r33 fun Hl a od ws ml fl ea nm hb rp => ?_))) ?_))))) fun H4 e4 => ?_)
  · subst ea
    have keys : (kvs.map fun p => kD p.1) = ws.map fun p => kD p.1 := by
      have e : ws.map (·.1) = kvs.map (·.1) := RepK.keys (repK_iff.mpr rp)
      have e2 := congrArg (List.map kD) e
      rw [List.map_map, List.map_map] at e2
      exact e2.symm
    have := okv.few
    refine Ev.to (ev_lcm (ds := kvs.map fun p => kD p.1) (fun d => .bl (isNm d)) ml (ia_dict (a := a) (od := od) ml (fun H1 e1 Q q => ⟨_, rfl, q _ H1 (Same.refl H1) rfl⟩) nm (.inl ⟨ws, hb, keys⟩)) (by rw [List.length_map]; omega) fun N H5 d y mN eN hd rd => ?_) (by rw [List.map_map, List.map_map, List.map_map] <;> rfl)
    obtain ⟨p, hp, rfl⟩ := List.mem_map.mp hd
    exact elt_all (s2 := (wipe (Si (.ref x) v1 v2 (.ref a) none none) [4]).set 4 (some y)) (fun Q q => q) rfl (ev_call mN (ea_one (ev_var rfl rd)) ⟨kD p.1, rfl, okv.key p hp, rfl⟩)
  · rw [← hlb]
    unfold labsB
    rw [List.all_map, List.all_map]
    congr 1
    exact List.all_congr rfl fun p => isNm_kD p.1
  have e24 := e23.trans e4
  have m4 := m.up e24
  have hx4 := e24 _ _ hx
  have r14 := r1.up (msk_mono (M := M) e24)
  have r24 := r2.up (msk_mono (M := M) e24)
  have r34 := r3.up (msk_mono (M := M) e24)
  dsimp only [tNext]
  -- self.colours
  refine st_seq (st_fldR (M := M) (i := 0) rfl hx4 T.cls_Schema T.na_Schema_colours (by simp) (Ev.to (z := namesD (sortS lc')) (ev_tof m4 (ea_one (ev_sortC m4 (ea_one (ev_var rfl r14)) g0.2.1 (canSort_strs lc'))) (.inl rfl)) (by rw [sortD_strs] <;> rfl)) fun y1 H5 e5 ry1 => ?_)
  have s1 : SameX x H (upd H5 x (.ins T.C_Schema dx (putF "colours" y1 []))) := (SameX.of (e24.trans e5)).upd
  have k1 : Same (msk M H4) (msk M (upd H5 x (.ins T.C_Schema dx (putF "colours" y1 [])))) := by
    rw [msk_upd mx]
    exact msk_mono e5
  have q1 : Rep (msk M (upd H5 x (.ins T.C_Schema dx (putF "colours" y1 [])))) (namesD (sortS lc')) y1 := by
    rw [msk_upd mx]
    exact ry1
  have n1 : Mok M (upd H5 x (.ins T.C_Schema dx (putF "colours" y1 []))) := (m4.up e5).upd
  have x1 : upd H5 x (.ins T.C_Schema dx (putF "colours" y1 [])) x = some (.ins T.C_Schema dx [("colours", y1)]) := upd_same
  generalize upd H5 x (.ins T.C_Schema dx (putF "colours" y1 [])) = W1 at s1 k1 q1 n1 x1
  dsimp only
  -- self.labels
  refine st_seq (st_fldR (M := M) (i := 0) rfl x1 T.cls_Schema T.na_Schema_labels (by simp) (Ev.to (z := namesD (sortS ll)) (ev_tof n1 (ea_one (ev_sortC n1 (ea_one (ev_var rfl (r24.up k1))) il (canSort_strs ll))) (.inl rfl)) (by rw [sortD_strs] <;> rfl)) fun y2 H6 e6 ry2 => ?_)
  have s2 : SameX x H (upd H6 x (.ins T.C_Schema dx (putF "labels" y2 [("colours", y1)]))) := (s1.trans (SameX.of e6)).upd
  have k2 : Same (msk M W1) (msk M (upd H6 x (.ins T.C_Schema dx (putF "labels" y2 [("colours", y1)])))) := by
    rw [msk_upd mx]
    exact msk_mono e6
  have q2 : Rep (msk M (upd H6 x (.ins T.C_Schema dx (putF "labels" y2 [("colours", y1)])))) (namesD (sortS ll)) y2 := by
    rw [msk_upd mx]
    exact ry2
  have n2 : Mok M (upd H6 x (.ins T.C_Schema dx (putF "labels" y2 [("colours", y1)]))) := (n1.up e6).upd
  have x2 : upd H6 x (.ins T.C_Schema dx (putF "labels" y2 [("colours", y1)])) x = some (.ins T.C_Schema dx [("colours", y1), ("labels", y2)]) := upd_same
  generalize upd H6 x (.ins T.C_Schema dx (putF "labels" y2 [("colours", y1)])) = W2 at s2 k2 q2 n2 x2
  dsimp only
  -- self.kinds
  have ndS : (keysS kvs).Nodup := by
    have nd := okv.nd
    rw [ks2] at nd
    exact List.Pairwise.of_map Sum.inr (fun a b hab e => hab (by rw [e])) nd
  have r35 := (r34.up k1).up k2
  have few := okv.few
  refine st_seq (st_fldR (M := M) (i := 0) (d := .dK (sortKV kvs)) rfl x2 T.cls_Schema T.na_Schema_kinds (by simp) ?_ fun y3 H7 e7 ry3 => ?_)
  · refine Ev.to (ev_dc (c := kcK) (ds := (sortS (keysS kvs)).map .str) (labF kvs) n2 (ia_list (Ev.to (ev_sortC n2 (ea_one (ev_var rfl r35)) (ds := (keysS kvs).map .str) (by show some _ = some _; rw [ks1]) (canSort_strs _)) (by rw [sortD_strs]))) (by rw [List.length_map, sortS_len, klen]; omega) fun N H5 d y mN eN hd rd => ?_) ?_
    · obtain ⟨z, hz, rfl⟩ := List.mem_map.mp hd
      have hz2 : (.inr z : Key) ∈ kvs.map (·.1) := by
        rw [ks2]
        exact List.mem_map.mpr ⟨z, (sortS_perm _).mem_iff.mp hz, rfl⟩
      obtain ⟨dz, hdz⟩ := vD_mem hz2
      have el : labF kvs (.str z) = some (.inr z, dz) := by
        show some ((.inr z : Key), (vD kvs (.inr z)).getD .non) = _
        rw [hdz] <;> rfl
      rw [el]
      exact eltp_of (c := kcK) (o := some (.inr z, dz)) (s2 := (wipe (Si (.ref x) v1 v2 v3 none none) [4]).set 4 (some y)) (fun Q q => q) rfl et_yes (fun _ => ⟨.inr z, dz, rfl, ev_var rfl rd, ev_dget (c := kcK) (k := .inr z) (ev_var rfl (Rep.up r35 eN)) (ev_var rfl rd) hdz⟩) (fun z => nomatch z)
    · rw [labF_all]
      show D.dK _ = .dK (sortKV kvs)
      unfold sortKV
      rw [foldP_nodup]
      rw [List.map_map]
      exact List.Pairwise.map _ (fun a b hab e => hab (Sum.inr.inj e)) ((sortS_perm _).symm.nodup ndS)
  have s3 : SameX x H (upd H7 x (.ins T.C_Schema dx (putF "kinds" y3 [("colours", y1), ("labels", y2)]))) := (s2.trans (SameX.of e7)).upd
  have k3 : Same (msk M W2) (msk M (upd H7 x (.ins T.C_Schema dx (putF "kinds" y3 [("colours", y1), ("labels", y2)])))) := by
    rw [msk_upd mx]
    exact msk_mono e7
  have q3 : Rep (msk M (upd H7 x (.ins T.C_Schema dx (putF "kinds" y3 [("colours", y1), ("labels", y2)])))) (.dK (sortKV kvs)) y3 := by
    rw [msk_upd mx]
    exact ry3
  have n3 : Mok M (upd H7 x (.ins T.C_Schema dx (putF "kinds" y3 [("colours", y1), ("labels", y2)]))) := (n2.up e7).upd
  have x3 : upd H7 x (.ins T.C_Schema dx (putF "kinds" y3 [("colours", y1), ("labels", y2)])) x = some (.ins T.C_Schema dx [("colours", y1), ("labels", y2), ("kinds", y3)]) := upd_same
  generalize upd H7 x (.ins T.C_Schema dx (putF "kinds" y3 [("colours", y1), ("labels", y2)])) = W3 at s3 k3 q3 n3 x3
  dsimp only
  -- the kinds, one by one
  let N : MK := fun b => M b ∧ b ≠ x
  have nN : forall {G : Hp}, Mok M G -> Mok N G := fun m b z => m b z.1
  have less : forall G : Hp, Same (msk M G) (msk N G) := fun G => msk_less fun a z => z.1
  have rself : Rep (msk N W3) (.ins T.C_Schema (schF3 (sortS lc') (sortS ll) (sortKV kvs))) (.ref x) := ⟨x, dx, _, rfl, by
    rw [msk_at fun z => z.2 rfl]
    exact x3, y1, _, rfl, ((q1.up k2).up k3).up (less _), y2, _, rfl, (q2.up k3).up (less _), y3, _, rfl, q3.up (less _), rfl⟩
  have lsc : (sortS lc').length ≤ 10 := by
    rw [sortS_len]
    omega
  have lsl : (sortS ll).length ≤ 10 := by
    rw [sortS_len]
    omega
  obtain ⟨vr, rr, sees⟩ := fld_sees (M := N) (s := Si (.ref x) v1 v2 v3 none none) (i := 0) (f := "kinds") (d := .dK (sortKV kvs)) (fs := schF3 (sortS lc') (sortS ll) (sortKV kvs)) T.cls_Schema T.na_Schema_kinds rfl rself rfl
  refine st_seq (st_lockS (M := N) (nN n3) rr fun Hl a od ws back E' ml fl fe ea nmm hb rp ul el offs lk => ?_)
  have rselfG : forall G, Same Hl G -> Rep (msk N G) (.ins T.C_Schema (schF3 (sortS lc') (sortS ll) (sortKV kvs))) (.ref x) := fun G g => (Rep.fx fl _ rself).up (msk_mono g)
  refine st_for (M := N) (ds := (sortKV kvs).map pairD) ml (ia_items (a := a) (od := od) (ws := ws) (sees Hl fl a ea) hb rp) (fun G1 i s' G' => Same G1 G' ∧ Same Hl G1 ∧ (forall (j : Nat) (p : Key × D), j < i -> (sortKV kvs)[j]? = some p -> verdict (sortS lc') (sortS ll) (sortKV kvs) p.2 = none) ∧ exists o4 o5, s' = Si (.ref x) v1 v2 v3 o4 o5)
    (fun G1 g1 => ⟨Same.refl _, g1, fun j p hj => absurd hj (Nat.not_lt_zero _), none, none, rfl⟩) (fun G1 i s' G' h => Kp.of h.1) ?_ ?_
  · rintro G1 i d y s' G' G'' g1 hi hd ⟨gx, g1', hall, o4, o5, rfl⟩ g2 rx
    rw [List.length_map] at hi
    obtain ⟨k0, d0, hk0⟩ : exists k0 d0, (sortKV kvs)[i]? = some (k0, d0) := ⟨(sortKV kvs)[i].1, (sortKV kvs)[i].2, by rw [List.getElem?_eq_getElem hi]⟩
    have ed : d = pairD (k0, d0) := by
      rw [List.getElem?_map, hk0] at hd
      exact (Option.some.inj hd).symm
    subst ed
    obtain ⟨nm, enm⟩ := sortKV_at hk0
    cases enm
    have okd := okK_vD okv (.inr nm)
    generalize (vD kvs (.inr nm)).getD .non = d0 at hk0 rx okd
    have gA : Same Hl G'' := g1'.trans (gx.trans g2)
    have mG := ml.up gA
    have rx0 := rx N (ml.up (g1'.trans gx)) (fun _ z => .inl z)
    obtain ⟨t, xs, et, ht, rxs⟩ := rx0
    obtain ⟨u1, u2, exs, ru1, ru2⟩ := rxs.two_of
    subst exs et
    refine ⟨t, _, rfl, SqT.of (msk_same _ _ ht), rfl, _, _, rfl, _, [], rfl, rfl, ?_⟩
    cases hv : verdict (sortS lc') (sortS ll) (sortKV kvs) d0 with
    | none =>
      refine ev_methEL (M := N) (ds := [.str nm, d0]) (d := .non) mG (ev_var rfl (rselfG _ gA)) rfl (ea_cons (ev_var rfl ru1) (ea_one (ev_var rfl ru2))) ⟨_, _, _, nm, d0, rfl, lsc, lsl, okd, hv, rfl⟩ _ (Same.refl _) _ fun y H8 e8 ry => ?_
      refine ⟨(gx.trans g2).trans e8, g1', fun j p hj hp => ?_, some u1, some u2, rfl⟩
      rcases Nat.lt_succ_iff_lt_or_eq.mp hj with y | y
      · exact hall j p y hp
      · subst y
        rw [hk0] at hp
        cases hp
        exact hv
    | some part =>
      have cG : LkX x H G'' := LkX.lk (LkX.of s3) (lk.trans (Lk.of gA))
      refine tm_raiseL (M := N) (ds := [.str nm, d0]) (C' := T.C_BadSchema) (gs := badF nm part) mG (ev_var rfl (rselfG _ gA)) rfl (ea_cons (ev_var rfl ru1) (ea_one (ev_var rfl ru2))) ⟨_, _, _, nm, d0, part, rfl, lsc, lsl, okd, hv, rfl, rfl⟩ fun dy ys H8 e8 hn hy rf => ?_
      refine V.e3 _ _ _ nm part g0 g1_ g2_ ⟨i, d0, hk0, hv, hall⟩ dy ys H8 (LkX.lk cG e8) (LkX.free cG ?_ hn) hy ?_
      · rw [gA _ _ (Lk.stay lk x3 (by rintro (⟨k, e⟩ | ⟨k, e⟩) <;> cases e))]
        simp
      · obtain ⟨kp, ep⟩ := verdict_key okd hv
        obtain ⟨w1, r1_, e1, rp1, w2, r2_, e2_, rp2, e3_⟩ := rf
        subst ep
        exact ⟨w1, r1_, e1, rep_key rp1, w2, r2_, e2_, rep_key (k := .inr nm) rp2, e3_⟩
  · rintro G1 s' G' g1 ⟨gx, g1', hall, o4, o5, rfl⟩
    have gA : Same Hl G' := g1'.trans gx
    refine el.nx _ G' (SameE.of gA) ?_
    have eB : Same W3 (back G') := fun b o hb' => by
      rcases Classical.em (N b) with z | z
      · rw [ul.off G' b z]
        exact gA b o (by rw [offs b z]; exact hb')
      · exact ul.same G' (SameE.of gA) b o z hb'
    generalize back G' = W4 at eB
    dsimp only [tNext]
    have good : AllGood (sortS lc') (sortS ll) (sortKV kvs) := fun p hp => by
      obtain ⟨j, hj, e⟩ := List.mem_iff_getElem.mp hp
      exact hall j p (by rw [List.length_map]; exact hj) (by rw [List.getElem?_eq_getElem hj, e])
    obtain ⟨ks, eks, fit, hh⟩ := V.e4 _ _ _ g0 g1_ g2_ good
    have n4 : Mok M W4 := n3.up eB
    have x4 := eB _ _ x3
    have q4 := q3.up (msk_mono (M := M) eB)
    have s4 : SameX x H W4 := s3.trans (SameX.of eB)
    have ek : EvD M (tFld K (tVar 0) "kinds") (Si (.ref x) v1 v2 v3 o4 o5) W4 (.dK (kindsI T ks)) := ev_fldR rfl x4 T.cls_Schema T.na_Schema_kinds rfl (by rw [← eks]; exact q4)
    rcases hh with ⟨f, hf, cq⟩ | ⟨hno, ce⟩
    · refine st_seq (st_fldR (M := M) (i := 0) (d := fD (ks.map (·.1)) f) rfl x4 T.cls_Schema T.na_Schema_strata (by simp) (ev_call n4 (ea_one ek) ⟨ks, rfl, fit, .inl ⟨f, hf, rfl⟩⟩) fun y5 H8 e8 ry5 => ?_)
      have s5 : SameX x H (upd H8 x (.ins T.C_Schema dx (putF "strata" y5 [("colours", y1), ("labels", y2), ("kinds", y3)]))) := (s4.trans (SameX.of e8)).upd
      have k5 : Same (msk M W4) (msk M (upd H8 x (.ins T.C_Schema dx (putF "strata" y5 [("colours", y1), ("labels", y2), ("kinds", y3)])))) := by
        rw [msk_upd mx]
        exact msk_mono e8
      have q5 : Rep (msk M (upd H8 x (.ins T.C_Schema dx (putF "strata" y5 [("colours", y1), ("labels", y2), ("kinds", y3)])))) (fD (ks.map (·.1)) f) y5 := by
        rw [msk_upd mx]
        exact ry5
      have x5 : upd H8 x (.ins T.C_Schema dx (putF "strata" y5 [("colours", y1), ("labels", y2), ("kinds", y3)])) x = some (.ins T.C_Schema dx [("colours", y1), ("labels", y2), ("kinds", y3), ("strata", y5)]) := upd_same
      generalize upd H8 x (.ins T.C_Schema dx (putF "strata" y5 [("colours", y1), ("labels", y2), ("kinds", y3)])) = W5 at s5 k5 q5 x5
      dsimp only
      refine st_ifF (et_test (M := M) (ev_op (ev_fldR (d := fD (ks.map (·.1)) f) rfl x5 T.cls_Schema T.na_Schema_strata rfl q5) ev_non (rd_isN (fun w e => nomatch e)))) fun H9 e9 => ?_
      dsimp only [tNext]
      have up : forall {d : D} {y : L2.V}, Rep (msk M W5) d y -> Rep (msk M H9) d y := fun r => r.up (msk_mono e9)
      refine cq _ H9 (s5.trans (SameX.of e9)) (e9 _ _ x5) ⟨y1, _, rfl, up ((((q1.up k2).up k3).up (msk_mono eB)).up k5), y2, _, rfl, up (((q2.up k3).up (msk_mono eB)).up k5), y3, _, rfl, up ?_, y5, _, rfl, up q5, rfl⟩
      rw [← eks]
      exact q4.up k5
    · refine st_seq (st_fldR (M := M) (i := 0) (d := .non) rfl x4 T.cls_Schema T.na_Schema_strata (by simp) (ev_call n4 (ea_one ek) ⟨ks, rfl, fit, .inr ⟨hno, rfl⟩⟩) fun y5 H8 e8 ry5 => ?_)
      have s5 : SameX x H (upd H8 x (.ins T.C_Schema dx (putF "strata" y5 [("colours", y1), ("labels", y2), ("kinds", y3)]))) := (s4.trans (SameX.of e8)).upd
      have m5 : Mok M (upd H8 x (.ins T.C_Schema dx (putF "strata" y5 [("colours", y1), ("labels", y2), ("kinds", y3)]))) := (n4.up e8).upd
      have q5 : Rep (msk M (upd H8 x (.ins T.C_Schema dx (putF "strata" y5 [("colours", y1), ("labels", y2), ("kinds", y3)])))) .non y5 := by
        rw [msk_upd mx]
        exact ry5
      have x5 : upd H8 x (.ins T.C_Schema dx (putF "strata" y5 [("colours", y1), ("labels", y2), ("kinds", y3)])) x = some (.ins T.C_Schema dx [("colours", y1), ("labels", y2), ("kinds", y3), ("strata", y5)]) := upd_same
      generalize upd H8 x (.ins T.C_Schema dx (putF "strata" y5 [("colours", y1), ("labels", y2), ("kinds", y3)])) = W5 at s5 m5 q5 x5
      dsimp only
      exact st_ifT (et_test (M := M) (ev_op (ev_fldR (d := .non) rfl x5 T.cls_Schema T.na_Schema_strata rfl q5) ev_non (rd_isN (fun w e => nomatch e)))) fun H9 e9 => bad (LkX.of (s5.trans (SameX.of e9))) (m5.up e9) ce
end

end K02
namespace K02
open PySem PySem.Spec PyProof.Rows L2 Ak
/-! ### schemas against schemas; names of kinds -/
section
variable {P : Program} {w : World} {K : PySem.W.Frag} {mg : Str -> Option Value} {base : Heap}
def RSc (T : Tx K mg) : EqR := fun x y H k => RPl x y H k ∨ RDic (RIns T.C_Kind (R_Kind_eq T)) x y H k
def SSc (T : Tx K mg) : DRel := fun d e k => SPl d e k ∨ SDic (SIns T.C_Kind (R_Kind_eq T)) d e k
theorem lift_Sc (T : Tx K mg) : Lift (RTup K (RSc T)) (STup (SSc T)) := lift_tup (lift_pl.or (lift_dic lift_ins))
theorem rc_Sc (T : Tx K mg) {X : Cx} (hp : X.prog = P) (hw : X.w = w) (hK : X.K = K) (hg : X.mg = mg) (hb : X.base = base) : RcB X 6 (RTup K (RSc T)) := by
  subst hp hw hK hg hb
  exact rcB_tup (mon_pl.or (mon_dic mon_ins)) ((eqB_pl.mono (by decide)).or (eqB_dic mon_ins (eqB_ins (fnr_of (ok_Kind_eq T) T.B_Kind_eq) T.q_Kind noE)))
abbrev sF (c l k st : D) : List (Str × D) := [("colours", c), ("labels", l), ("kinds", k), ("strata", st)]
abbrev sD (T : Tx K mg) (c l k st : D) : D := .ins T.C_Schema (sF c l k st)
def R_Schema_eq (T : Tx K mg) : List D -> D -> Prop := fun ds z => exists c l k st c2 l2 k2 st2 b, ds = [sD T c l k st, sD T c2 l2 k2 st2] ∧ STup (SSc T) (.tup [c, l, k]) (.tup [c2, l2, k2]) b ∧ z = .bl b
theorem ok_Schema_eq (T : Tx K mg) : FnOk P w K mg base (L2.CX P w) 7 T.f_Schema_eq T.d_Schema_eq ["self", "other"] (SpR (R_Schema_eq T)) := by
  refine T.F_Schema_eq.ok sc_Schema_eq (fun _ _ _ _ h => SpR.len (n := 2) (fun ds z ⟨_, _, _, _, _, _, _, _, _, e, _⟩ => by rw [e] <;> rfl) h) (fun cdv A outer s H vs Q E hr h => ⟨_, (pss_cons (ps_if (pt_not (pt_val (pe_callB call_isi rfl T.n_isinstance PyProof.Rows.boot_isinstance (pa_cons (pv 1) (pa_cons (pe_glob (v := .ref T.C_Schema) rfl T.g_Schema rfl) pa_nil))))) (pss_one (ps_ret pe_bl)) pss_nil)
      (pss_one (ps_ret (pe_cmpR (op_eqR (rc_Sc T rfl rfl rfl rfl rfl) (hr.mono (by decide))) (pe_tup (pa_cons (pe_fld (pv 0) rfl) (pa_cons (pe_fld (pv 0) rfl) (pa_cons (pe_fld (pv 0) rfl) pa_nil)))) (pe_tup (pa_cons (pe_fld (pv 1) rfl) (pa_cons (pe_fld (pv 1) rfl) (pa_cons (pe_fld (pv 1) rfl) pa_nil)))) (nomark _))))), ?_⟩)
  obtain ⟨M, ds, z, m, rs, ⟨c, l, k, st, c2, l2, k2, st2, b, rfl, hS, rfl⟩, q⟩ := h
  obtain ⟨v, v2, rfl, ra, rb⟩ := rs.two_of
  refine st_seq (st_ifF (et_not (b := true) (et_B (M := M) (ev_isiC (C := T.C_Schema) T.cls_Schema T.is_Schema (ea_cons (ev_var rfl rb) (ea_one (ev_c fun _ => rfl)))))) fun H2 e2 => ?_)
  have m2 := m.up e2
  have ra2 := ra.up (msk_mono (M := M) e2)
  have rb2 := rb.up (msk_mono (M := M) e2)
  dsimp only [tNext]
  exact st_ret (M := M) (ev_op (ev_tup m2 (ea_cons (ev_fld (ev_var rfl ra2) T.cls_Schema T.na_Schema_colours rfl) (ea_cons (ev_fld (ev_var rfl ra2) T.cls_Schema T.na_Schema_labels rfl) (ea_one (ev_fld (ev_var rfl ra2) T.cls_Schema T.na_Schema_kinds rfl)))))
    (ev_tup m2 (ea_cons (ev_fld (ev_var rfl rb2) T.cls_Schema T.na_Schema_colours rfl) (ea_cons (ev_fld (ev_var rfl rb2) T.cls_Schema T.na_Schema_labels rfl) (ea_one (ev_fld (ev_var rfl rb2) T.cls_Schema T.na_Schema_kinds rfl))))) (rd_eqR (lift_Sc T) hS)) fun y H3 e3 ry => q y H3 (e2.trans e3) ry
/-! ### check -/
def kindIn (kvs : List (Key × D)) : D -> Bool
  | .str x => (vD kvs (.inr x)).isSome
  | _ => false
def R_check (T : Tx K mg) : List D -> D -> Prop := fun ds z => exists c l kvs st es d, ds = [sD T c l (.dK kvs) st, d] ∧ d.its = some es ∧ (forall e, e ∈ es -> e.fi = true) ∧ d.fi = true ∧ (forall e, e ∈ es -> kindIn kvs e = true) ∧ z = .non
def FirstOut (kvs : List (Key × D)) (es : List D) (e : D) : Prop := exists i : Nat, es[i]? = some e ∧ kindIn kvs e = false ∧ forall (j : Nat) (x : D), j < i -> es[j]? = some x -> kindIn kvs x = true
def X_check (T : Tx K mg) : List D -> Addr -> List (Str × D) -> Prop := fun ds C fs => exists c l kvs st es d e, ds = [sD T c l (.dK kvs) st, d] ∧ d.its = some es ∧ (forall e, e ∈ es -> e.fi = true) ∧ d.fi = true ∧ FirstOut kvs es e ∧ C = T.C_BadName ∧ fs = ([("name", e)] : List (Str × D))
theorem ok_Schema_check (T : Tx K mg) : FnOk P w K mg base (L2.CX P w) 3 T.f_Schema_check T.d_Schema_check ["self", "names"] (SpE (R_check T) (X_check T)) := by
  refine T.F_Schema_check.ok sc_Schema_check (fun _ _ _ _ h => SpE.len (n := 2) (fun ds z ⟨_, _, _, _, _, _, e, _⟩ => by rw [e] <;> rfl) (fun ds C z ⟨_, _, _, _, _, _, _, e, _⟩ => by rw [e] <;> rfl) h) (fun cdv A outer s H vs Q E hr h => ⟨_, (pss_one (ps_for PassesOwn.leaving rfl (pi_any (pv 1)) (pg_name (i := 2) sc_Schema_check.nd rfl (.inl rfl))
      (pss_one (ps_if (PW.pt (pw_or (pt_not (pt_val (pe_callB call_isi rfl T.n_isinstance PyProof.Rows.boot_isinstance (pa_cons (pv 2) (pa_cons (pe_bltn (v := .ty "str") rfl T.n_str PyProof.Rows.boot_str rfl) pa_nil))))) (pw_or1 (pt_cmpR (op_notInU hr.units) (pv 2) (pe_fld (pv 0) rfl) (by with_unfolding_all rfl))))) (pss_one (ps_raise rfl (takes_of rfl rfl rfl rfl) (pmk_oex T.ox_BadName T.i_BadName T.t_BadName (ok_BadName_init T) (hr.mono (by decide)) T.B_BadName_init .nil (by exact passL) rfl T.g_BadName (pa_cons (pv 2) pa_nil)))) pss_nil)))), ?_⟩)
  obtain ⟨M, ds, m, rs, h⟩ := h
  have key : exists c l kvs st es d, ds = [sD T c l (.dK kvs) st, d] ∧ d.its = some es ∧ (forall e, e ∈ es -> e.fi = true) ∧ d.fi = true ∧ ((forall e, e ∈ es -> kindIn kvs e = true) -> forall v H', Same H H' -> Rep (msk M H') .non v -> Q v H') ∧
      (forall e, FirstOut kvs es e -> forall dx ws H', Same H H' -> H dx = none -> H' dx = some (.xd ws) -> RepF (msk M H') ([("name", e)] : List (Str × D)) ws -> E (.ref T.C_BadName) (some dx) H') := by
    rcases h with ⟨z, ⟨c, l, kvs, st, es, d, e, hi, hf, fd, hn, rfl⟩, q⟩ | ⟨C, fs, ⟨c, l, kvs, st, es, d, e1, e, hi, hf, fd, hn, rfl, rfl⟩, q⟩
    · exact ⟨c, l, kvs, st, es, d, e, hi, hf, fd, fun _ => q, fun e' ⟨i, h1, h2, _⟩ => by rw [hn e' (List.mem_of_getElem? h1)] at h2; cases h2⟩
    · refine ⟨c, l, kvs, st, es, d, e, hi, hf, fd, fun z => ?_, fun e' h' => ?_⟩
      · obtain ⟨i, h1, h2, _⟩ := hn
        rw [z e1 (List.mem_of_getElem? h1)] at h2
        cases h2
      · have : e' = e1 := by
          obtain ⟨i, h1, h2, h3⟩ := hn
          obtain ⟨j, g1, g2, g3⟩ := h'
          have eij : i = j := by
            rcases Nat.lt_trichotomy i j with y | y | y
            · rw [g3 i _ y h1] at h2
              cases h2
            · exact y
            · rw [h3 j _ y g1] at g2
              cases g2
          subst eij
          rw [h1] at g1
          cases g1
          rfl
        subst this
        exact q
  clear h
  obtain ⟨c, l, kvs, st, es, d, rfl, hi, hf, fd, q1, q2⟩ := key
  obtain ⟨v, v2, rfl, r, r2⟩ := rs.two_of
  obtain ⟨kc, _, _⟩ := its_cases fd hi
  refine st_for (M := M) (ds := es) m (ia_seq (ev_var rfl r2) kc) (fun G1 i s' G' => Same G1 G' ∧ Same H G1 ∧ (forall (j : Nat) (x : D), j < i -> es[j]? = some x -> kindIn kvs x = true) ∧ exists o2, s' = [some v, some v2, o2])
    (fun G1 g1 => ⟨Same.refl _, g1, fun j p hj => absurd hj (Nat.not_lt_zero _), none, rfl⟩) (fun G1 i s' G' h => Kp.of h.1) ?_ ?_
  · rintro G1 i e y s' G' G'' g1 hi hd ⟨gx, g1', hall, o2, rfl⟩ g2 rx
    have gA : Same H G'' := g1'.trans (gx.trans g2)
    have mG := m.up gA
    have rx0 : Rep (msk M G'') e y := (rx M (m.up (g1'.trans gx)) (fun _ z => .inl z)).up (msk_mono (M := M) (Same.refl _))
    have rG := r.up (msk_mono (M := M) gA)
    have fe := hf e (List.mem_of_getElem? hd)
    dsimp only [gName]
    refine st_if (b := !kindIn kvs e) ?_ (fun hb H5 e5 => ?_) fun hb H5 e5 => ?_
    · cases e with
      | str x => exact et_orF (et_not (b := true) (et_B (M := M) (ev_isi (ea_cons (ev_var rfl rx0) (ea_one ev_ty)) (fi_tn fe) (fi_dT fe) (by decide)))) (et_test (M := M) (ev_op (ev_var rfl rx0) (ev_fld (ev_var rfl rG) T.cls_Schema T.na_Schema_kinds rfl) (rd_inDU (neg := true) (c := kcK) (k := .inr x) (kvs := kvs))))
      | oth w => cases fe
      | ins C fs => cases fe
      | dK k => cases fe
      | dT k => cases fe
      | _ => exact et_orT (et_not (b := false) (et_B (M := M) (ev_isi (ea_cons (ev_var rfl rx0) (ea_one ev_ty)) (fi_tn fe) (fi_dT fe) (by decide))))
    · exact tmk_ok (M := M) (ds := [e]) (ea_one (ev_var rfl (rx0.up (msk_mono e5)))) rfl (by simp) (mG.up e5) fun dx ws H' e6 hdx hw rf => q2 e ⟨i, hd, by simpa using hb, hall⟩ dx ws H' (gA.trans (e5.trans e6)) ((gA.trans e5).free hdx) hw rf
    · refine ⟨(gx.trans g2).trans e5, g1', fun j p hj hp => ?_, some y, rfl⟩
      rcases Nat.lt_succ_iff_lt_or_eq.mp hj with z | z
      · exact hall j p z hp
      · subst z
        rw [hd] at hp
        cases hp
        simpa using hb
  · rintro G1 s' G' g1 ⟨gx, g1', hall, o2, rfl⟩
    exact q1 (fun e he => by
      obtain ⟨j, hj, e'⟩ := List.mem_iff_getElem.mp he
      exact hall j e hj (by rw [List.getElem?_eq_getElem hj, e'])) .non G' (g1'.trans gx) rfl
end

end K02
namespace K02
open PySem PySem.Spec PyProof.Rows L2 Ak
/-! ### the law draws -/
section
variable {P : Program} {w : World} {K : PySem.W.Frag} {mg : Str -> Option Value} {base : Heap}
def SpN (K : PySem.W.Frag) : Sp := fun vs H Q _ => exists (a : Addr) (ns : List Int) (i : Int), vs = [.ref a, .int i] ∧ SqL K H a (ns.map V.int) ∧ ns.length ≤ 1000 ∧ 0 ≤ i ∧ forall r H', Same H H' -> 0 ≤ r -> Q (.int r) H'
theorem ok__law_number (T : Tx K mg) : FnOk P w K mg base (L2.CX P w) 1 T.f__law_number T.d__law_number ["script", "index"] (SpN K) := by
  refine T.F__law_number.ok sc__law_number (fun vs _ _ _ ⟨a, ns, i, e, _⟩ => by rw [e] <;> rfl) (fun cdv A outer s H vs Q E hr h => ⟨_, (pss_cons (ps_asg (pe_ifExp (pt_cmpR (op_neD hr.units) (pv 0) (pe_lst pa_nil) (nomark _)) (pe_tup (pa_cons (pe_ix ix_seq (pv 0) (pe_op op_mod (pv 1) (pe_callB call_lenU rfl T.n_len PySem.boot_len (by exact (pa_cons (pv 0) pa_nil)))) (fun _ _ => rfl)) (pa_cons (pe_op op_fdivW (pv 1) (pe_callB call_lenU rfl T.n_len PySem.boot_len (by exact (pa_cons (pv 0) pa_nil)))) pa_nil))) (pe_tup (pa_cons pe_int (pa_cons pe_int pa_nil)))) (pg_tup rfl (pgs_cons (pg_name (i := 2) sc__law_number.nd rfl (.inl rfl)) (pgs_cons (pg_name (i := 3) sc__law_number.nd rfl (.inl rfl)) pgs_nil))))
      (pss_cons (ps_set (i := 4) sc__law_number.nd rfl (.inl rfl) (pe_ifExp (pt_cmpR op_lt (pv 3) pe_int (nomark _)) (pe_op op_sub (pv 2) (pe_op op_pow pe_int pe_int)) pe_int))
      (pss_cons (ps_for PassesOwn.leaving rfl (pi_range1 rfl T.n_range (pa_cons (pe_op op_mod (pe_callTy call_int1 rfl T.n_int (by decide +kernel) (by exact (pa_cons (pv 3) pa_nil))) pe_int) pa_nil)) (pg_name (i := 5) sc__law_number.nd rfl (.inl rfl))
      (pss_one (ps_set (i := 4) sc__law_number.nd rfl (.inl rfl) (pe_op op_fdivW (pv 4) pe_int))))
      (pss_cons (ps_if (pt_cmpR op_gt (pv 4) pe_int (nomark _)) (pss_one (ps_ret (pe_op op_mod (pe_callTy call_int1 rfl T.n_int (by decide +kernel) (by exact (pa_cons (pv 4) pa_nil))) pe_int))) pss_nil)
      (pss_cons (ps_set (i := 6) sc__law_number.nd rfl (.inl rfl) (pe_op op_mod (pe_op op_addU (pe_op op_mulX (pe_callTy call_int1 rfl T.n_int (by decide +kernel) (by exact (pa_cons (pe_op op_addU (pv 2) (pe_op op_mulX pe_int (pv 1))) pa_nil))) pe_int) (pe_op op_mulX pe_int (pe_callB call_lenU rfl T.n_len PySem.boot_len (by exact (pa_cons (pv 0) pa_nil))))) pe_int))
      (pss_cons (ps_set (i := 6) sc__law_number.nd rfl (.inl rfl) (pe_op op_mod (pe_op op_addU (pe_op op_mulX (pv 6) (pv 6)) (pe_op op_mulX pe_int (pv 1))) pe_int))
      (pss_one (ps_ret (pe_callTy call_int1 rfl T.n_int (by decide +kernel) (by exact (pa_cons (pe_op op_mod (pe_op op_addU (pe_op op_mulX (pv 6) pe_int) (pe_op op_fdivW (pv 6) pe_int)) pe_int) pa_nil))))))))))), ?_⟩)
  obtain ⟨a, ns, i, rfl, hs, hn, hi, q⟩ := h
  let M0 : MK := fun _ => False
  have m0 : forall H : Hp, Mok M0 H := Mok.none
  have first : exists c t : Int, 0 ≤ t ∧ EvD M0 (tIf (tTest (tOp (rNeD K) (tVar 0) (tLst tNil))) (tTup (tCons (tOp (rIx K) (tVar 0) (tOp (rI (fun _ j => 0 < j) fun i j => .int (i % j)) (tVar 1) (tCB (rLenU K) (tCons (tVar 0) tNil)))) (tCons (tOp (rI CDivW fun i j => .int (i / j)) (tVar 1) (tCB (rLenU K) (tCons (tVar 0) tNil))) tNil))) (tTup (tCons (tC (.int 12345)) (tCons (tC (.int 0)) tNil)))) (L2.start ["script", "index", "cell", "turn", "rest", "step", "blend"] [.ref a, .int i]) H (.tup [.int c, .int t]) := by
    by_cases hn0 : ns = []
    · exact ⟨12345, 0, Int.le_refl _, ev_ifE (et_scr rfl hs) (fun h => by rw [decide_eq_true hn0] at h; cases h) fun _ => ev_tup (m0 _) (ea_cons ev_int (ea_one ev_int))⟩
    · have hl : 0 < ns.length := List.length_pos_iff.mpr hn0
      have hb1 : 0 ≤ i % (ns.length : Int) := Int.emod_nonneg _ (by omega)
      have hb2 : i % (ns.length : Int) < ns.length := Int.emod_lt_of_pos _ (by omega)
      have hlt : (i % (ns.length : Int)).toNat < ns.length := by omega
      have hat : atI ns (i % (ns.length : Int)) = some ns[(i % (ns.length : Int)).toNat] := by
        have h := atI_nat (List.getElem?_eq_getElem hlt)
        rw [show (((i % (ns.length : Int)).toNat : Nat) : Int) = i % (ns.length : Int) by omega] at h
        exact h
      refine ⟨ns[(i % (ns.length : Int)).toNat], i / (ns.length : Int), Int.ediv_nonneg hi (by omega), ev_ifE (et_scr rfl hs) (fun _ => ev_tup (m0 _) (ea_cons (ev_scrix rfl hs (ev_op (d := .int i) (ev_var rfl rfl) (ev_scrlen rfl hs) (rd_mod (by omega))) hat) (ea_one (ev_op (d := .int i) (ev_var rfl rfl) (ev_scrlen rfl hs) (rd_fdiv ?_))))) fun h => by rw [decide_eq_false hn0] at h; cases h⟩
      exact wide_div (b := 11) (by omega) (by omega) (by omega) (by omega)
  obtain ⟨c, t, ht, first⟩ := first
  refine st_seq (first H (Same.refl H) _ fun v H2 e2 r => ?_)
  obtain ⟨tp, xs, et, htp, rxs⟩ := r
  obtain ⟨y1, y2, exs, ry1, ry2⟩ := rxs.two_of
  have f1 : y1 = V.int c := ry1
  have f2 : y2 = V.int t := ry2
  subst exs et f1 f2
  refine ⟨tp, _, rfl, SqT.of (msk_same _ _ htp), rfl, _, _, rfl, _, [], rfl, rfl, ?_⟩
  dsimp only
  have iv : forall {i : Int} {G : Hp}, Rep G (.int i) (V.int i) := rfl
  -- rest
  refine st_seq (st_set (M := M0) (P := fun y G => exists r0 : Int, y = V.int r0) (ev_ifE (b := decide (t < 60)) (et_test (M := M0) (ev_op (d := .int t) (ev_var rfl iv) ev_int rd_lt)) (fun _ => Ev.imp (ev_op (d := .int c) (ev_var rfl iv) (ev_op ev_int ev_int (rd_pow ⟨by decide, by decide, by decide⟩)) rd_sub) fun y G z => ⟨_, z⟩) fun _ => Ev.imp ev_int fun y G z => ⟨_, z⟩) fun y H3 e3 ⟨r0, ey⟩ => ?_)
  subst ey
  dsimp only
  -- the loop
  refine st_seq (st_for (M := M0) (m0 _) (ei_rng1 (j := t % 60) (ea_one (ev_op (ev_int1 (ea_one (ev_var (d := .int t) rfl iv))) ev_int (rd_mod (by decide)))) (by have := Int.emod_nonneg t (b := 60) (by decide); omega) (by have := Int.emod_lt_of_pos t (b := 60) (by decide); omega))
    (fun H4 i' s' H' => Same H4 H' ∧ exists (r1 : Int) (o5 : Option V), s' = [some (.ref a), some (.int i), some (.int c), some (.int t), some (.int r1), o5, none]) (fun H4 e4 => ⟨Same.refl _, r0, none, rfl⟩) (fun H4 i' s' H' h => Kp.of h.1) ?_ ?_)
  · rintro H4 i' d y s' H' H'' e4 hil hd ⟨e5, r1, o5, rfl⟩ e6 ry
    exact st_set (M := M0) (P := fun y G => Rep G (.int (r1 / 1009)) y) (ev_op (d := .int r1) (ev_var rfl iv) ev_int (rd_fdiv (wide_div (b := 11) (by decide) (by decide) (by decide) (by decide)))) fun y2 H5 e7 r7 => ⟨(e5.trans e6).trans e7, r1 / 1009, some y, by rw [show y2 = V.int (r1 / 1009) from r7] <;> rfl⟩
  rintro H4 s' H5 e4 ⟨e5, r1, o5, rfl⟩
  dsimp only
  have eA := e2.trans (e3.trans (e4.trans e5))
  refine st_seq (st_if (b := decide (0 < r1)) (et_test (M := M0) (ev_op (d := .int r1) (ev_var rfl iv) ev_int rd_gt)) (fun _ H6 e6 => st_ret (M := M0) (ev_op (ev_int1 (ea_one (ev_var (d := .int r1) rfl iv))) ev_int (rd_mod (by decide))) fun y H7 e7 ry => ?_) fun _ H6 e6 => ?_)
  · rw [show y = V.int (r1 % 1009) from ry]
    exact q _ H7 (eA.trans (e6.trans e7)) (Int.emod_nonneg _ (by decide))
  dsimp only
  have sm : forall n : Int, CMul n 48271 := fun n => .inr ⟨by decide, by decide⟩
  refine st_seq (st_set (M := M0) (P := fun y G => Rep G (.int (((c + 977 * i) * 48271 + 31 * (ns.length : Int)) % 2147483647)) y) (ev_op (ev_op (ev_op (ev_int1 (ea_one (ev_op (ev_var (d := .int c) rfl iv) (ev_op ev_int (ev_var (d := .int i) rfl iv) (rd_mulC (.inl ⟨by decide, by decide⟩))) rd_addI))) ev_int (rd_mulC (sm _))) (ev_op ev_int (ev_scrlen rfl (hs.same (eA.trans e6))) (rd_mulC (.inl ⟨by decide, by decide⟩))) rd_addI) ev_int (rd_mod (by decide))) fun y H7 e7 ry => ?_)
  generalize hb : ((c + 977 * i) * 48271 + 31 * (ns.length : Int)) % 2147483647 = b1 at ry
  have hb1 : 0 ≤ b1 ∧ b1 < 2147483647 := by
    rw [← hb]
    exact ⟨Int.emod_nonneg _ (by decide), Int.emod_lt_of_pos _ (by decide)⟩
  have ey : y = V.int b1 := ry
  subst ey
  dsimp only
  refine st_seq (st_set (M := M0) (P := fun y G => Rep G (.int ((b1 * b1 + 40503 * i) % 2147483629)) y) (ev_op (ev_op (ev_op (ev_var (d := .int b1) rfl iv) (ev_var (d := .int b1) rfl iv) (rd_mulC (.inl ⟨by omega, by omega⟩))) (ev_op ev_int (ev_var (d := .int i) rfl iv) (rd_mulC (.inl ⟨by decide, by decide⟩))) rd_addI) ev_int (rd_mod (by decide))) fun y H8 e8 ry2' => ?_)
  generalize hb3 : (b1 * b1 + 40503 * i) % 2147483629 = b2 at ry2'
  have hb2 : 0 ≤ b2 ∧ b2 < 2147483629 := by
    rw [← hb3]
    exact ⟨Int.emod_nonneg _ (by decide), Int.emod_lt_of_pos _ (by decide)⟩
  have ey : y = V.int b2 := ry2'
  subst ey
  dsimp only
  refine st_ret (M := M0) (ev_int1 (ea_one (ev_op (ev_op (ev_op (ev_var (d := .int b2) rfl iv) ev_int (rd_mulC (.inr ⟨by decide, by decide⟩))) (ev_op (ev_var (d := .int b2) rfl iv) ev_int (rd_fdiv (wide_div (b := 11) (by decide) (by decide) (by decide) (by decide)))) rd_addI) ev_int (rd_mod (by decide))))) fun y H9 e9 ry => ?_
  rw [show y = V.int _ from ry]
  exact q _ H9 (eA.trans (e6.trans (e7.trans (e8.trans e9)))) (Int.emod_nonneg _ (by decide))
/-! ### take, pick -/
def preTake : List D -> Prop := fun ds => exists n : Int, ds = [.int n] ∧ 0 < n
def RTake : List D -> D -> Prop := fun ds d => exists n r : Int, ds = [.int n] ∧ 0 ≤ r ∧ r < n ∧ d = .int r
abbrev SpTake (K : PySem.W.Frag) : Sp := SpDr K preTake RTake
theorem ok__law_take (T : Tx K mg) : FnOk P w K mg base (L2.CX P w) 2 T.f__law_take T.d__law_take ["draw", "many"] (SpTake K) := by
  refine T.F__law_take.ok sc__law_take (fun _ _ _ _ h => SpDr.len (n := 1) (fun ds ⟨n, e, _⟩ => by rw [e] <;> rfl) h) (fun cdv A outer s H vs Q E hr h => ⟨_, (pss_cons (ps_augS (pv 0) pe_int pget_list pe_int ip_add set_list)
      (pss_one (ps_ret (pe_op op_mod (pe_callTy call_int1 rfl T.n_int (by decide +kernel) (by exact (pa_cons (pe_call (ok__law_number T) (hr.mono (by decide)) rfl T.g__law_number T.F__law_number.kp T.B__law_number .nil passL (pa_cons (pe_ix ix_seq (pv 0) pe_int (fun _ _ => rfl)) (pa_cons (pe_callTy call_int1 rfl T.n_int (by decide +kernel) (by exact (pa_cons (pe_ix ix_seq (pv 0) pe_int (fun _ _ => rfl)) pa_nil))) pa_nil))) pa_nil))) (pv 1))))), ?_⟩)
  obtain ⟨M, p, a, ns, ds, ws, m, hp, rfl, rs, ⟨k, hk, hd⟩, hs, hn, ⟨n, rfl, h0⟩, q⟩ := h
  obtain ⟨v, rfl, r⟩ := rs.one_of
  have ev : v = V.int n := r
  subst ev
  have d0 : Drw p a H := ⟨k, hk, hd⟩
  refine st_seq ⟨.ref p, rfl, p, _, 1, .int k, rfl, rfl, SqL.of hd, by decide, rfl, k, 1, rfl, rfl, p, _, 1, 1, rfl, rfl, hd, rfl, ?_⟩
  dsimp only
  have hd2 : upd H p (.lst [V.ref a, V.int (k + 1)]) p = some (.lst [V.ref a, V.int (k + 1)]) := upd_same
  have d2 : Drw p a (upd H p (.lst [V.ref a, V.int (k + 1)])) := ⟨k + 1, by omega, hd2⟩
  have x2 : SameX p H (upd H p (.lst [V.ref a, V.int (k + 1)])) := (SameX.refl H).upd
  show tRet _ _ _ (upd H p (.lst [V.ref a, V.int (k + 1)]))
  generalize upd H p (.lst [V.ref a, V.int (k + 1)]) = H2 at hd2 d2 x2
  let M0 : MK := fun _ => False
  have rp : forall H', Same H2 H' -> Rep (msk M0 H') (.lst [.oth (.ref a), .int (k + 1)]) (V.ref p) := fun H' e => ⟨p, _, rfl, by rw [msk_at (fun z => z)]; exact e _ _ hd2, _, _, rfl, rfl, _, _, rfl, rfl, rfl⟩
  have args : EvDs M0 (tCons (tOp (rIx K) (tVar 0) (tC (.int 0))) (tCons (tCB (fun xs H Q => (exists i, xs = [V.int i] ∧ Q (.int i) H) ∨ exists k, xs = [V.bl k] ∧ Q (.int (if k then 1 else 0)) H) (tCons (tOp (rIx K) (tVar 0) (tC (.int 1))) tNil)) tNil)) (L2.start ["draw", "many"] [.ref p, .int n]) H2 [.oth (.ref a), .int (k + 1)] :=
    ea_cons (ev_op (ev_var rfl (rp _ (Same.refl _))) ev_int (rd_ixL (z := .oth (.ref a)) rfl)) (ea_one (ev_int1 (ea_one (ev_op (ev_var rfl (rp _ (Same.refl _))) ev_int (rd_ixL (z := .int (k + 1)) rfl)))))
  refine (tcall_ev (sp := SpN K) (EX := E0) args fun vs H3 e3 rvs => ?_ : tCall (SpN K) [] E0 _ _ H2 _)
  obtain ⟨v1, v2, rfl, rv1, rv2⟩ := rvs.two_of
  have g1 : v1 = V.ref a := rv1
  have g2 : v2 = V.int (k + 1) := rv2
  subst g1 g2
  refine ⟨a, ns, k + 1, rfl, (sql_x hs x2 d0).same e3, hn, by omega, fun r H4 e4 h4 => ?_⟩
  refine .inl ⟨r, rfl, _, rfl, r, n, rfl, rfl, h0, ?_⟩
  exact q (.int (r % n)) _ H4 ⟨n, r % n, rfl, Int.emod_nonneg _ (by omega), Int.emod_lt_of_pos _ h0, rfl⟩ (x2.trans (SameX.of (e3.trans e4))) (d2.up (e3.trans e4)) rfl
def prePick : List D -> Prop := fun ds => exists es : List D, ds = [.lst es] ∧ es ≠ [] ∧ es.length ≤ 1000
def RPick : List D -> D -> Prop := fun ds d => exists es : List D, ds = [.lst es] ∧ d ∈ es
abbrev SpPick (K : PySem.W.Frag) : Sp := SpDr K prePick RPick
theorem ok__law_pick (T : Tx K mg) : FnOk P w K mg base (L2.CX P w) 3 T.f__law_pick T.d__law_pick ["draw", "items"] (SpPick K) := by
  refine T.F__law_pick.ok sc__law_pick (fun _ _ _ _ h => SpDr.len (n := 1) (fun ds ⟨n, e, _⟩ => by rw [e] <;> rfl) h) (fun cdv A outer s H vs Q E hr h => ⟨_, (pss_one (ps_ret (pe_ix ix_seq (pv 1) (pe_call (ok__law_take T) (hr.mono (by decide)) rfl T.g__law_take T.F__law_take.kp T.B__law_take .nil passL (pa_cons (pv 0) (pa_cons (pe_callB call_lenU rfl T.n_len PySem.boot_len (by exact (pa_cons (pv 1) pa_nil))) pa_nil))) (fun _ _ => rfl)))), ?_⟩)
  obtain ⟨M, p, a, ns, ds, ws, m, hp, rfl, rs, d0, hs, hn, ⟨es, rfl, hne, hl⟩, q⟩ := h
  obtain ⟨v, rfl, r⟩ := rs.one_of
  have pos : 0 < es.length := List.length_pos_iff.mpr hne
  have rX : forall H1, SameX p H H1 -> Rep (msk M H1) (.lst es) v := fun H1 e => r.up (e.msk hp)
  refine (ec_op (C := fun d => d ∈ es) hp (ec_pure fun H1 e1 d1 => ev_var (d := .lst es) rfl (rX H1 e1)) (ec_call m hp hs d0 hn rfl (ecs_cons hp (ec_pure fun H1 e1 d1 => ev_len (ea_one (ev_var (d := .lst es) rfl (rX H1 e1))) rfl (fun _ e => nomatch e) fun _ e => nomatch e) ecs_nil) ?_) ?_) H (SameX.refl H) d0 _ fun d v' H' hd e' d' r' => q d v' H' ⟨es, rfl, hd⟩ e' d' r'
  · rintro ds ⟨d, e, rfl, rfl, rfl⟩
    exact ⟨_, rfl, by omega⟩
  · rintro d e rfl ⟨ds, ⟨d, e', rfl, rfl, rfl⟩, n, r, hds, h0, h1, rfl⟩
    cases hds
    have hlt : r.toNat < es.length := by omega
    refine ⟨es[r.toNat], List.getElem_mem hlt, fun H1 => rd_ixL ?_⟩
    have h := atI_nat (List.getElem?_eq_getElem hlt)
    rw [show ((r.toNat : Nat) : Int) = r by omega] at h
    exact h
end

end K02
namespace K02
open PySem PySem.Spec PyProof.Rows L2 Ak
/-! ### the drawn schema -/
def N4 : List Str := ["k", "l", "m", "n"]
structure ROk (nms : List Str) (st : Str -> Int) (n : Str) (r : RowI) : Prop where
  lo0 : 0 ≤ r.lo
  lo2 : r.lo ≤ 2
  hi : forall h, r.hi = some h -> r.lo ≤ h ∧ h ≤ r.lo + 2
  mu : r.mu.Sublist nms
  mus : forall x, x ∈ r.mu -> st x ≤ st n
  no : r.no.Sublist nms
  nos : forall x, x ∈ r.no -> st x < st n
structure KOk (nms : List Str) (st : Str -> Int) (n : Str) (k : KindI) : Prop where
  cs : k.cs = ([("g" : Str), "r"] : List Str) ∨ k.cs = ([("g" : Str)] : List Str) ∨ k.cs = ([("r" : Str)] : List Str)
  keys : (k.rows.map (·.1)).Sublist ([("a" : Str), "b"] : List Str)
  row : forall q, q ∈ k.rows -> ROk nms st n q.2
structure DrawnOk (n : Int) (ks : Kinds) (st : Str -> Int) : Prop where
  nm : ks.map (·.1) = N4.take n.toNat
  st01 : forall x, 0 ≤ st x ∧ st x ≤ 1
  kind : forall p, p ∈ ks -> KOk (N4.take n.toNat) st p.1 p.2
def rowT (r : RowI) : D := .tup [.int r.lo, hiD r.hi, namesD r.mu, namesD r.no]
def rowsT (rs : List (Str × RowI)) : List (Key × D) := rs.map fun p => (.inr p.1, rowT p.2)
def kindT (k : KindI) : D := .tup [namesD k.cs, .dK (rowsT k.rows)]
def kindsT (ks : Kinds) : List (Key × D) := ks.map fun p => (.inr p.1, kindT p.2)
def preS : List D -> Prop := fun ds => exists n : Int, ds = [.int n] ∧ 1 ≤ n ∧ n ≤ 4
def RS : List D -> D -> Prop := fun ds d => exists n ks st, ds = [.int n] ∧ DrawnOk n ks st ∧ d = .tup [.dK (kindsT ks), fD (ks.map (·.1)) st]
theorem sx_of {p : Addr} {N : MK} {H H3 G : Hp} (e : SameX p H H3) (f : SameE N H3 G) (i : forall b, N b -> b = p ∨ H b = none) : SameX p H G := fun b o n h => f b o (fun z => (i b z).elim n fun q => by rw [q] at h; cases h) (e b o n h)
theorem kp_of {M N : MK} {H H' : Hp} (e : SameE N H H') (i : forall b, N b -> M b) (nf : forall b, N b -> forall o u, H b ≠ some (.frz o u)) : Kp M H H' := ⟨Fx.of (e.sub i).msk, fun {b od u} h => e b _ (fun z => nf b z _ _ h) h⟩
theorem drw_nf {p a : Addr} {H : Hp} (d : Drw p a H) : forall o u, H p ≠ some (.frz o u) := fun o u h => by
  obtain ⟨k, _, g⟩ := d
  rw [g] at h
  cases h
theorem cut4 {n : Int} (h1 : 1 ≤ n) (h2 : n ≤ 4) : cutD (N4.map D.str) none (some n) = (N4.take n.toNat).map .str := by
  have e : n = 1 ∨ n = 2 ∨ n = 3 ∨ n = 4 := by omega
  rcases e with rfl | rfl | rfl | rfl <;> rfl
theorem SameE.msk2 {M N : MK} {H G : Hp} (e : SameE M H G) (i : forall b, N b -> M b ∨ H b = none) : Same (msk M H) (msk N G) := fun b o h => by
  obtain ⟨n, h⟩ := msk_of h
  rw [msk_at fun z => (i b z).elim n fun q => by rw [q] at h; cases h]
  exact e b o n h
theorem SameX.freeX {p a q : Addr} {H G : Hp} (e : SameX p H G) (d : Drw p a G) (h : G q = none) : H q = none := by
  cases z : H q with
  | none => rfl
  | some o =>
    have n : q ≠ p := fun y => d.ne (by rw [← y]; exact h)
    rw [e q o n z] at h
    cases h
theorem nd4 (n : Nat) : (N4.take n).Nodup := List.Nodup.sublist (List.take_sublist _ _) (by decide)
theorem len4 (n : Nat) : (N4.take n).length ≤ 4 := by
  rw [List.length_take]
  exact Nat.min_le_right _ _
theorem take_get {α : Type} {l : List α} {i : Nat} {x : α} (h : l[i]? = some x) : l.take (i + 1) = l.take i ++ [x] := by rw [List.take_succ, h] <;> rfl
theorem not_before {l : List Str} (nd : l.Nodup) {i : Nat} {x : Str} (h : l[i]? = some x) : x ∉ l.take i := fun z => by
  obtain ⟨j, hj, e⟩ := List.mem_iff_getElem.mp z
  rw [List.getElem_take] at e
  have hj' : j < i := by
    rw [List.length_take] at hj
    omega
  obtain ⟨hi, e2⟩ := List.getElem?_eq_some_iff.mp h
  exact (List.pairwise_iff_getElem.mp nd) j i (by omega) hi hj' (by rw [e, e2])
theorem upd_map {β : Type} {l : List Str} {x : Str} (h : x ∉ l) (f : Str -> β) (v : β) : (l.map fun y => if y = x then v else f y) = l.map f := List.map_congr_left fun y hy => if_neg fun e => h (by rw [← e]; exact hy)
abbrev Sl (p ps pk : Addr) (n : Int) (c l nm : V) (o7 o8 o9 o10 o11 o12 o13 o14 o15 : Option V) : L2.St := [some (.ref p), some (.int n), some c, some l, some nm, some (.ref ps), some (.ref pk), o7, o8, o9, o10, o11, o12, o13, o14, o15]
section
variable {P : Program} {w : World} {K : PySem.W.Frag} {mg : Str -> Option Value} {base : Heap} {M N : MK} {p a : Addr} {s : L2.St} {H H3 : Hp} {te : TE} {ns : List Int}
theorem ec_take {m : Int} (m0 : 0 < m) (mo : Mok M H) (hp : M p) (hs : SqL K H a (ns.map V.int)) (d0 : Drw p a H) (hn : ns.length ≤ 1000) (hv : s[0]? = some (some (.ref p))) : EvC M p a (tCall (SpTake K) [] E0 (tCons (tVar 0) (tCons (tC (.int m)) tNil))) s H fun d => exists k : Int, d = .int k ∧ 0 ≤ k ∧ k < m := by
  refine (ec_call mo hp hs d0 hn hv (ecs_cons hp (ec_pure fun H1 e1 d1 => ev_int) ecs_nil) ?_).imp ?_
  · rintro ds ⟨d, e, rfl, rfl, rfl⟩
    exact ⟨m, rfl, m0⟩
  · rintro d ⟨ds, ⟨d', e, rfl, rfl, rfl⟩, n', k, ek, h1, h2, rfl⟩
    cases ek
    exact ⟨k, rfl, h1, h2⟩
theorem ec_pick {es : List D} (ne : es ≠ []) (ln : es.length ≤ 1000) (mo : Mok M H) (hp : M p) (hs : SqL K H a (ns.map V.int)) (d0 : Drw p a H) (hn : ns.length ≤ 1000) (hv : s[0]? = some (some (.ref p))) (h : forall H1, SameX p H H1 -> Drw p a H1 -> EvD M te s H1 (.lst es)) : EvC M p a (tCall (SpPick K) [] E0 (tCons (tVar 0) (tCons te tNil))) s H fun d => d ∈ es := by
  refine (ec_call mo hp hs d0 hn hv (ecs_cons hp (ec_pure h) ecs_nil) ?_).imp ?_
  · rintro ds ⟨d, e, rfl, rfl, rfl⟩
    exact ⟨_, rfl, ne, ln⟩
  · rintro d ⟨ds, ⟨d', e, rfl, rfl, rfl⟩, es', ee, hm⟩
    cases ee
    exact hm
theorem eltC_and {A B : TE} {bA : Bool} {z : D} {i : Nat} {vs : List Nat} {x : V} {Co : Option D -> Prop} (hw : wipe ((wipe s vs).set i (some x)) vs = wipe s vs) (d3 : Drw p a H3) (hA : EvD N A ((wipe s vs).set i (some x)) H3 (.bl bA)) (hB : EvC N p a B ((wipe s vs).set i (some x)) H3 fun d => exists b, d = .bl b)
    (he : forall H4, SameX p H3 H4 -> Drw p a H4 -> EvD N te ((wipe s vs).set i (some x)) H4 z) (c1 : bA = true -> Co (some z)) (c0 : Co none) : EltC N p a (gName i) (tAnd (tTest A) (tTest B)) te vs s H3 x Co := fun P S k1 k2 => ⟨hw, (et_test hA) H3 (Same.refl H3) _ fun H4 e4 => by
  cases bA with
  | false => exact iteF (iteF (k2 c0 H4 (SameX.of e4) (d3.up e4)))
  | true =>
    refine iteT (hB H4 (SameX.of e4) (d3.up e4) _ fun d v H5 ⟨b, ed⟩ e5 d5 r5 => ?_)
    subst ed
    refine ⟨b, r5, ?_⟩
    have e45 := (SameX.of e4).trans e5
    cases b with
    | false => exact iteF (k2 c0 H5 e45 d5)
    | true => exact iteT (he H5 e45 d5 H5 (Same.refl H5) _ fun y H6 e6 ry => k1 z (c1 rfl) y H6 (e45.trans (SameX.of e6)) (d5.up e6) ry)⟩
end
section
variable {P : Program} {w : World} {K : PySem.W.Frag} {mg : Str -> Option Value} {base : Heap}
theorem ok__law_schema (T : Tx K mg) : FnOk P w K mg base (L2.CX P w) 4 T.f__law_schema T.d__law_schema ["draw", "many"] (SpDr K preS RS) := by
  refine T.F__law_schema.ok sc__law_schema (fun _ _ _ _ h => SpDr.len (n := 1) (fun ds ⟨n, e, _⟩ => by rw [e] <;> rfl) h) (fun cdv A outer s H vs Q E hr h => ⟨_, (pss_cons (ps_par3 (i := 2) (j := 3) (l := 4) rfl sc__law_schema.nd rfl rfl rfl (by decide) (by decide) (by decide) rfl rfl rfl (pa_cons (pe_tup (pa_cons pe_str (pa_cons pe_str pa_nil))) (pa_cons (pe_tup (pa_cons pe_str (pa_cons pe_str pa_nil))) (pa_cons (pe_slice sl_tupA (pe_tup (pa_cons pe_str (pa_cons pe_str (pa_cons pe_str (pa_cons pe_str pa_nil))))) po_none (po_some (pv 1))) pa_nil))) rfl)
      (pss_cons (ps_asg (pe_tup (pa_cons pe_dnewK (pa_cons pe_dnewK pa_nil))) (pg_tup rfl (pgs_cons (pg_name (i := 5) sc__law_schema.nd rfl (.inr rfl)) (pgs_cons (pg_name (i := 6) sc__law_schema.nd rfl (.inl rfl)) pgs_nil))))
      (pss_cons (ps_for PassesOwn.leaving rfl (pi_any (pv 4)) (pg_name (i := 7) sc__law_schema.nd rfl (.inr rfl))
      (pss_one (ps_dput (hu_of hr) (pv 5) (pv 7) (pe_call (ok__law_take T) (hr.mono (by decide)) rfl T.g__law_take T.F__law_take.kp T.B__law_take .nil passL (pa_cons (pv 0) (pa_cons pe_int pa_nil))) rfl)))
      (pss_cons (ps_for PassesOwn.leaving rfl (pi_any (pv 4)) (pg_name (i := 7) sc__law_schema.nd rfl (.inr rfl))
      (pss_cons (ps_set (i := 8) sc__law_schema.nd rfl (.inl rfl) pe_dnewK)
      (pss_cons (ps_for PassesOwn.leaving rfl (pi_any (pv 3)) (pg_name (i := 9) sc__law_schema.nd rfl (.inl rfl))
      (pss_cons (ps_set (i := 10) sc__law_schema.nd rfl (.inl rfl) (pe_call (ok__law_take T) (hr.mono (by decide)) rfl T.g__law_take T.F__law_take.kp T.B__law_take .nil passL (pa_cons (pv 0) (pa_cons pe_int pa_nil))))
      (pss_cons (ps_if (pt_cmpR (op_eqU hr.units) (pv 10) pe_int (nomark _)) (pss_one ps_continue) pss_nil)
      (pss_cons (ps_set (i := 11) sc__law_schema.nd rfl (.inl rfl) (pe_call (ok__law_pick T) (hr.mono (by decide)) rfl T.g__law_pick T.F__law_pick.kp T.B__law_pick .nil passL (pa_cons (pv 0) (pa_cons (pe_lst (pa_cons pe_int (pa_cons pe_int (pa_cons pe_int (pa_cons pe_int (pa_cons pe_int (pa_cons pe_int pa_nil))))))) pa_nil))))
      (pss_cons (ps_set (i := 12) sc__law_schema.nd rfl (.inl rfl) (pe_call (ok__law_pick T) (hr.mono (by decide)) rfl T.g__law_pick T.F__law_pick.kp T.B__law_pick .nil passL (pa_cons (pv 0) (pa_cons (pe_lst (pa_cons pe_non (pa_cons pe_non (pa_cons (pv 11) (pa_cons (pv 11) (pa_cons (pe_op op_addU (pv 11) pe_int) (pa_cons (pe_op op_addU (pv 11) pe_int) pa_nil))))))) pa_nil))))
      (pss_cons (ps_setLc (i := 13) (own := [("one", 14)]) (g := (gName 14)) (tt := (tAnd (tTest (tOp (rI0 fun i j => .bl (decide (i ≤ j))) (tDGet (tVar 5) (tVar 14)) (tDGet (tVar 5) (tVar 7)))) (tTest (tOp (rEqU false) (tCall (SpTake K) [] E0 (tCons (tVar 0) (tCons (tC (.int 3)) tNil))) (tC (.int 0)))))) (te := (tVar 14)) rfl sc__law_schema.nd rfl rfl (sw_true rfl rfl rfl (by decide +kernel)) (pi_any (pv 4)) (blkOk_by (own := [("one", 14)]) (N := ["draw", "many", "colours", "labels", "names", "strata", "kinds", "name", "rows", "label", "kind", "low", "high", "musts", "one", "nots"]) (sc := (defScope s__law_schema)) (by decide +kernel)) (fun _ _ _ _ _ => by exact (pg_name (i := 14) sc__law_schema.nd rfl (.inl rfl))) (fun _ _ _ _ _ => by exact (pts_one (PW.pt (pw_and (pt_cmpR op_le (pe_dget (hu_of hr) (pv 5) (pv 14) (fun _ _ => rfl)) (pe_dget (hu_of hr) (pv 5) (pv 7) (fun _ _ => rfl)) (nomark _)) (pw_and1 (pt_cmpR (op_eqU hr.units) (pe_call (ok__law_take T) (hr.mono (by decide)) rfl T.g__law_take T.F__law_take.kp T.B__law_take .nil passL (pa_cons (pv 0) (pa_cons pe_int pa_nil))) pe_int (nomark _))))))) (fun _ _ _ _ _ => by exact (pv 14)))
      (pss_cons (ps_setLc (i := 15) (own := [("one", 14)]) (g := (gName 14)) (tt := (tAnd (tTest (tOp (rI0 fun i j => .bl (decide (i < j))) (tDGet (tVar 5) (tVar 14)) (tDGet (tVar 5) (tVar 7)))) (tTest (tOp (rEqU false) (tCall (SpTake K) [] E0 (tCons (tVar 0) (tCons (tC (.int 3)) tNil))) (tC (.int 0)))))) (te := (tVar 14)) rfl sc__law_schema.nd rfl rfl (sw_true rfl rfl rfl (by decide +kernel)) (pi_any (pv 4)) (blkOk_by (own := [("one", 14)]) (N := ["draw", "many", "colours", "labels", "names", "strata", "kinds", "name", "rows", "label", "kind", "low", "high", "musts", "one", "nots"]) (sc := (defScope s__law_schema)) (by decide +kernel)) (fun _ _ _ _ _ => by exact (pg_name (i := 14) sc__law_schema.nd rfl (.inl rfl))) (fun _ _ _ _ _ => by exact (pts_one (PW.pt (pw_and (pt_cmpR op_lt (pe_dget (hu_of hr) (pv 5) (pv 14) (fun _ _ => rfl)) (pe_dget (hu_of hr) (pv 5) (pv 7) (fun _ _ => rfl)) (nomark _)) (pw_and1 (pt_cmpR (op_eqU hr.units) (pe_call (ok__law_take T) (hr.mono (by decide)) rfl T.g__law_take T.F__law_take.kp T.B__law_take .nil passL (pa_cons (pv 0) (pa_cons pe_int pa_nil))) pe_int (nomark _))))))) (fun _ _ _ _ _ => by exact (pv 14)))
      (pss_one (ps_dput (hu_of hr) (pv 8) (pv 9) (pe_ifExp (pt_cmpR (op_eqU hr.units) (pv 10) pe_int (nomark _)) (pe_tup (pa_cons pe_int (pa_cons pe_non (pa_cons (pe_tup pa_nil) (pa_cons (pe_tup pa_nil) pa_nil))))) (pe_tup (pa_cons (pv 11) (pa_cons (pv 12) (pa_cons (pe_callTy call_tuple_of rfl T.n_tuple (by decide +kernel) (by exact (pa_cons (pv 13) pa_nil))) (pa_cons (pe_callTy call_tuple_of rfl T.n_tuple (by decide +kernel) (by exact (pa_cons (pv 15) pa_nil))) pa_nil)))))) rfl)))))))))
      (pss_one (ps_dput (hu_of hr) (pv 6) (pv 7) (pe_tup (pa_cons (pe_call (ok__law_pick T) (hr.mono (by decide)) rfl T.g__law_pick T.F__law_pick.kp T.B__law_pick .nil passL (pa_cons (pv 0) (pa_cons (pe_lst (pa_cons (pv 2) (pa_cons (pv 2) (pa_cons (pv 2) (pa_cons (pe_tup (pa_cons pe_str pa_nil)) (pa_cons (pe_tup (pa_cons pe_str pa_nil)) pa_nil)))))) pa_nil))) (pa_cons (pv 8) pa_nil))) rfl)))))
      (pss_one (ps_ret (pe_tup (pa_cons (pv 6) (pa_cons (pv 5) pa_nil))))))))), ?_⟩)
  obtain ⟨M, p, a, ns, ds, ws, m, hp, rfl, rs, d0, hs, hn, ⟨n, rfl, n1, n4⟩, q⟩ := h
  obtain ⟨v, rfl, r⟩ := rs.one_of
  have ev : v = V.int n := r
  subst ev
  -- colours, labels, names
  refine st_seq ((ea_cons (d := namesD [("g" : Str), "r"]) (ev_tup (ds := [.str "g", .str "r"]) m (ea_cons ev_str (ea_one ev_str)) (by simp)) (ea_cons (d := namesD [("a" : Str), "b"]) (ev_tup (ds := [.str "a", .str "b"]) m (ea_cons ev_str (ea_one ev_str)) (by simp)) (ea_one (d := namesD (N4.take n.toNat)) (Ev.to (ev_slT (lo := none) (hi := some n) m (ev_tup (ds := N4.map .str) m (ea_cons ev_str (ea_cons ev_str (ea_cons ev_str (ea_one ev_str)))) (by simp [N4])) eo_none (eo_some (M := M) (ev_var rfl rfl))) (by rw [cut4 n1 n4] <;> rfl))))) H (Same.refl H) _ fun vs H2 e2 rxs => ?_)
  obtain ⟨c, l, nm, exs, rc, rl, rnm⟩ := rxs.three_of
  subst exs
  refine ⟨c, l, nm, rfl, ?_⟩
  dsimp only
  have m2 := m.up e2
  have d2 := d0.up e2
  -- two dicts
  refine st_seq (fun ps hps => fun pk hpk => ⟨by rw [sizeLine_eq]; simp, fun tq htq => ⟨tq, _, rfl, SqT.of upd_same, rfl, _, _, rfl, _, _, rfl, rfl, ?_⟩⟩)
  have gA : Same H2 (upd (upd (upd H2 ps (.dK [])) pk (.dK [])) tq (.tup [.ref ps, .ref pk])) := (same_new hps).trans ((same_new hpk).trans (same_new htq))
  have aps : upd (upd (upd H2 ps (.dK [])) pk (.dK [])) tq (.tup [.ref ps, .ref pk]) ps = some (.dK []) := same_new htq _ _ (same_new hpk _ _ upd_same)
  have apk : upd (upd (upd H2 ps (.dK [])) pk (.dK [])) tq (.tup [.ref ps, .ref pk]) pk = some (.dK []) := same_new htq _ _ upd_same
  have npk : H2 pk = none := (same_new hps).free hpk
  have kps : pk ≠ ps := fun z => by
    rw [z, upd_same] at hpk
    cases hpk
  generalize upd (upd (upd H2 ps (.dK [])) pk (.dK [])) tq (.tup [.ref ps, .ref pk]) = A0 at gA aps apk
  clear hpk htq
  dsimp only
  have psp : ps ≠ p := fun z => d2.ne (by rw [← z]; exact hps)
  have pkp : pk ≠ p := fun z => d2.ne (by rw [← z]; exact npk)
  have hps0 : H ps = none := e2.free hps
  have hpk0 : H pk = none := e2.free npk
  have xA : SameX p H A0 := SameX.of (e2.trans gA)
  have dA := d2.up gA
  let M1 : MK := fun b => (M b ∨ b = ps) ∨ b = pk
  let N1 : MK := fun b => b = p ∨ b = ps ∨ b = pk
  have mA : Mok M1 A0 := ((m2.up gA).add aps).add apk
  have i1 : forall b, N1 b -> M1 b := fun b z => by
    rcases z with z | z | z
    · exact .inl (.inl (by rw [z]; exact hp))
    · exact .inl (.inr z)
    · exact .inr z
  have j1 : forall b, N1 b -> b = p ∨ H b = none := fun b z => by
    rcases z with z | z | z
    · exact .inl z
    · exact .inr (by rw [z]; exact hps0)
    · exact .inr (by rw [z]; exact hpk0)
  have hp1 : M1 p := .inl (.inl hp)
  have s1 : Same (msk M H2) (msk M1 A0) := SameE.msk2 (SameE.of gA) fun b z => by
    rcases z with (z | z) | z
    · exact .inl z
    · exact .inr (by rw [z]; exact hps)
    · exact .inr (by rw [z]; exact npk)
  have rcA := rc.up s1
  have rlA := rl.up s1
  have rnA := rnm.up s1
  have nd := nd4 n.toNat
  have ln := len4 n.toNat
  have sub4 := nd
  generalize hN4 : N4.take n.toNat = nms at rnA nd ln
  clear rc rl rnm s1
  -- strata
  refine st_seq (st_for (M := M1) (ds := nms.map .str) mA (ia_tup (ev_var rfl rnA)) (fun G1 i s' G' => Same A0 G1 ∧ SameE N1 G1 G' ∧ Drw p a G' ∧ exists (st : Str -> Int) (ws : List (Key × V)) (o7 : Option V), s' = Sl p ps pk n c l nm o7 none none none none none none none none ∧ (forall x, 0 ≤ st x ∧ st x ≤ 1) ∧ G' ps = some (.dK ws) ∧ RepP (msk M1 G') ((nms.take i).map fun x => ((.inr x : Key), D.int (st x))) ws ∧ G' pk = some (.dK []))
    (fun G1 g1 => ⟨g1, SameE.refl _, dA.up g1, fun _ => 0, [], none, rfl, fun _ => ⟨Int.le_refl _, show (0 : Int) ≤ 1 by decide⟩, g1 _ _ aps, .nil, g1 _ _ apk⟩) (fun G1 i s' G' ⟨g1, e, _⟩ => kp_of e i1 fun b z o u h => ?_) ?_ ?_)
  · rcases z with rfl | rfl | rfl
    · exact drw_nf (dA.up g1) o u h
    · rw [g1 _ _ aps] at h
      cases h
    · rw [g1 _ _ apk] at h
      cases h
  · rintro G1 i d x s' G' G'' g1 hi hd ⟨_, eG, dG, st, ws, o7, rfl, h01, gps, rp, gpk⟩ g2 rx
    rw [List.length_map] at hi
    have hx0 : nms[i]? = some nms[i] := List.getElem?_eq_getElem hi
    generalize nms[i] = x0 at hx0
    have ed : d = .str x0 := by
      rw [List.getElem?_map, hx0] at hd
      exact (Option.some.inj hd).symm
    subst ed
    have mG : Mok M1 G' := SameE.mok eG (mA.up g1) fun b z => by
      rcases z with rfl | rfl | rfl
      · obtain ⟨k, _, g⟩ := dG
        exact ⟨_, g, fun xs e => nomatch e⟩
      · exact ⟨_, gps, fun xs e => nomatch e⟩
      · exact ⟨_, gpk, fun xs e => nomatch e⟩
    have ex : x = V.str x0 := rx M1 mG fun _ z => .inl z
    subst ex
    have xG : SameX p H G'' := sx_of (xA.trans (SameX.of g1)) (eG.same g2) j1
    have dG2 := dG.up g2
    dsimp only [gName]
    refine st_dputC (M := M1) (p := p) (a := a) (q := ps) (k := .inr x0) (kvs := (nms.take i).map fun x => ((.inr x : Key), D.int (st x))) hp1 (i1 ps (.inr (.inl rfl))) psp rfl rfl dG2 (ec_take (m := 2) (by decide) (mG.up g2) hp1 (sql_x hs xG d0) dG2 hn rfl) (g2 _ _ gps) (rp.fx (Fx.of (msk_mono g2))) (by rw [List.length_map, List.length_take]; omega) ?_
    rintro d H5 ws2 ⟨k, rfl, k0, k2⟩ e5 d5 h5 r5
    refine ⟨g1, (eG.same g2).trans (e5.sub fun b z => z.elim .inl fun z => .inr (.inl z)), d5, fun y => if y = x0 then k else st y, ws2, some (.str x0), rfl, fun y => ?_, h5, ?_, e5 pk _ (fun z => z.elim pkp kps) (g2 _ _ gpk)⟩
    · dsimp only
      split
      · exact ⟨k0, by omega⟩
      · exact h01 y
    · have nb := not_before nd hx0
      rw [pD_new _ (by
        rw [List.map_map]
        intro z
        obtain ⟨y, hy, e⟩ := List.mem_map.mp z
        have e' : (Sum.inr y : Key) = .inr x0 := e
        exact nb (by rw [← Sum.inr.inj e']; exact hy))] at r5
      rw [take_get hx0, List.map_append]
      have e1 : ((nms.take i).map fun y => ((.inr y : Key), D.int (if y = x0 then k else st y))) = (nms.take i).map fun y => ((.inr y : Key), D.int (st y)) := List.map_congr_left fun y hy => by rw [if_neg fun e => nb (by rw [← e]; exact hy)]
      rw [e1]
      show RepP (msk M1 H5) (_ ++ [((.inr x0 : Key), D.int (if x0 = x0 then k else st x0))]) ws2
      rw [if_pos rfl]
      exact r5
  rintro G1 s' B0 g1 ⟨_, eB, dB, st, ws, o7, rfl, h01, bps, rpB, bpk⟩
  rw [List.length_map, List.take_length] at rpB
  have xB : SameX p H B0 := sx_of (xA.trans (SameX.of g1)) eB j1
  have mB1 : Mok M1 B0 := SameE.mok eB (mA.up g1) fun b z => by
    rcases z with rfl | rfl | rfl
    · obtain ⟨k, _, g⟩ := dB
      exact ⟨_, g, fun xs e => nomatch e⟩
    · exact ⟨_, bps, fun xs e => nomatch e⟩
    · exact ⟨_, bpk, fun xs e => nomatch e⟩
  have sB : Same (msk M1 A0) (msk M1 B0) := (msk_mono g1).trans (eB.sub i1).msk
  let M2 : MK := fun b => M b ∨ b = pk
  let N2 : MK := fun b => b = p ∨ b = pk
  have i21 : forall b, M2 b -> M1 b := fun b z => z.elim (fun z => .inl (.inl z)) .inr
  have l21 : Same (msk M1 B0) (msk M2 B0) := msk_less i21
  have mB : Mok M2 B0 := fun b z => mB1 b (i21 b z)
  have i2 : forall b, N2 b -> M2 b := fun b z => z.elim (fun z => .inl (by rw [z]; exact hp)) .inr
  have j2 : forall b, N2 b -> b = p ∨ H b = none := fun b z => z.elim .inl fun z => .inr (by rw [z]; exact hpk0)
  have hp2 : M2 p := .inl hp
  have rcB := (rcA.up sB).up l21
  have rlB := (rlA.up sB).up l21
  have rnB := (rnA.up sB).up l21
  have n2ps : ¬ M2 ps := fun z => by
    rcases z with z | z
    · obtain ⟨o, g, _⟩ := m ps z
      rw [hps0] at g
      cases g
    · exact kps z.symm
  have rsB : Rep (msk M2 B0) (fD nms st) (.ref ps) := ⟨ps, ws, rfl, .inl (by rw [msk_at n2ps]; exact bps), repK_iff.mpr (rpB.fx (Fx.of l21))⟩
  clear rcA rlA rnA sB l21
  dsimp only
  -- the kinds
  refine st_seq (st_for (M := M2) (ds := nms.map .str) mB (ia_tup (ev_var rfl rnB)) (fun G1 i s' G' => Same B0 G1 ∧ SameE N2 G1 G' ∧ Drw p a G' ∧ exists (kd : Str -> KindI) (wk : List (Key × V)) (o7 o8 o9 o10 o11 o12 o13 o14 o15 : Option V), s' = Sl p ps pk n c l nm o7 o8 o9 o10 o11 o12 o13 o14 o15 ∧ (forall x, x ∈ nms.take i -> KOk nms st x (kd x)) ∧ G' pk = some (.dK wk) ∧ RepP (msk M2 G') ((nms.take i).map fun x => ((.inr x : Key), kindT (kd x))) wk)
    (fun G1 g1 => ⟨g1, SameE.refl _, dB.up g1, fun _ => ⟨[], []⟩, [], o7, none, none, none, none, none, none, none, none, rfl, fun x hx => by simp at hx, g1 _ _ bpk, .nil⟩) (fun G1 i s' G' ⟨g1, e, _⟩ => kp_of e i2 fun b z o u h => ?_) ?_ ?_)
  · rcases z with rfl | rfl
    · exact drw_nf (dB.up g1) o u h
    · rw [g1 _ _ bpk] at h
      cases h
  · rintro G1 i d x s' G2 G3 g1 hi hd ⟨_, eG, dG, kd, wk, o7, o8, o9, o10, o11, o12, o13, o14, o15, rfl, hk, gpk, rpk⟩ g2 rx
    rw [List.length_map] at hi
    have hx0 : nms[i]? = some nms[i] := List.getElem?_eq_getElem hi
    generalize nms[i] = x0 at hx0
    have ed : d = .str x0 := by
      rw [List.getElem?_map, hx0] at hd
      exact (Option.some.inj hd).symm
    subst ed
    have mG : Mok M2 G2 := SameE.mok eG (mB.up g1) fun b z => by
      rcases z with rfl | rfl
      · obtain ⟨k, _, g⟩ := dG
        exact ⟨_, g, fun xs e => nomatch e⟩
      · exact ⟨_, gpk, fun xs e => nomatch e⟩
    have ex : x = V.str x0 := rx M2 mG fun _ z => .inl z
    subst ex
    have xG : SameX p H G3 := sx_of (xB.trans (SameX.of g1)) (eG.same g2) j2
    have s3 : Same (msk M2 B0) (msk M2 G3) := (msk_mono g1).trans (((eG.same g2).sub i2).msk)
    have memx : x0 ∈ nms := List.mem_of_getElem? hx0
    have dG3 := dG.up g2
    have mG3 := mG.up g2
    have gpk3 := g2 _ _ gpk
    have rpk3 := rpk.fx (Fx.of (msk_mono (M := M2) g2))
    dsimp only [gName]
    -- rows = {}
    refine st_seq (fun pr hpr => ?_)
    dsimp only [gName]
    have eU : Same G3 (upd G3 pr (.dK [])) := same_new hpr
    have upr : upd G3 pr (.dK []) pr = some (.dK []) := upd_same
    generalize upd G3 pr (.dK []) = U at eU upr
    have prp : pr ≠ p := fun z => dG3.ne (by rw [← z]; exact hpr)
    have prk : pr ≠ pk := fun z => by
      rw [z, gpk3] at hpr
      cases hpr
    have hpr0 : H pr = none := SameX.freeX xG dG3 hpr
    let M3 : MK := fun b => M2 b ∨ b = pr
    let N3 : MK := fun b => b = p ∨ b = pr
    have mU : Mok M3 U := (mG3.up eU).add upr
    have i3 : forall b, N3 b -> M3 b := fun b z => z.elim (fun z => .inl (by rw [z]; exact hp2)) .inr
    have j3 : forall b, N3 b -> b = p ∨ H b = none := fun b z => z.elim .inl fun z => .inr (by rw [z]; exact hpr0)
    have hp3 : M3 p := .inl hp2
    have sU : Same (msk M2 B0) (msk M3 U) := s3.trans (SameE.msk2 (SameE.of eU) fun b z => z.elim .inl fun z => .inr (by rw [z]; exact hpr))
    have rcU := rcB.up sU
    have rlU := rlB.up sU
    have rnU := rnB.up sU
    have rsU := rsB.up sU
    have xU : SameX p H U := xG.trans (SameX.of eU)
    have dU := dG3.up eU
    refine st_seq (st_for (M := M3) (ds := [("a" : Str), "b"].map .str) mU (ia_tup (ev_var rfl rlU)) (fun G4 j s' G5 => Same U G4 ∧ SameE N3 G4 G5 ∧ Drw p a G5 ∧ exists (rs : List (Str × RowI)) (wr : List (Key × V)) (o9 o10 o11 o12 o13 o14 o15 : Option V), s' = Sl p ps pk n c l nm (some (.str x0)) (some (.ref pr)) o9 o10 o11 o12 o13 o14 o15 ∧ (rs.map (·.1)).Sublist ([("a" : Str), "b"].take j) ∧ (forall q, q ∈ rs -> ROk nms st x0 q.2) ∧ G5 pr = some (.dK wr) ∧ RepP (msk M3 G5) (rowsT rs) wr)
      (fun G4 g4 => ⟨g4, SameE.refl _, dU.up g4, [], [], o9, o10, o11, o12, o13, o14, o15, rfl, List.Sublist.refl _, fun q hq => by simp at hq, g4 _ _ upr, .nil⟩) (fun G4 j s' G5 ⟨g4, e, _⟩ => kp_of e i3 fun b z o u h => ?_) ?_ ?_)
    · rcases z with rfl | rfl
      · exact drw_nf (dU.up g4) o u h
      · rw [g4 _ _ upr] at h
        cases h
    · rintro G4 j d y s' G5 G6 g4 hj hd ⟨_, eG5, dG5, rs, wr, o9, o10, o11, o12, o13, o14, o15, rfl, hsub, hrow, gpr, rpr⟩ g6 ry
      have hj2 : j < 2 := hj
      have hlb : [("a" : Str), "b"][j]? = some [("a" : Str), "b"][j] := List.getElem?_eq_getElem (by exact hj2)
      generalize [("a" : Str), "b"][j] = lb at hlb
      have ed : d = .str lb := by
        rw [List.getElem?_map, hlb] at hd
        exact (Option.some.inj hd).symm
      subst ed
      have mG5 : Mok M3 G5 := SameE.mok eG5 (mU.up g4) fun b z => by
        rcases z with rfl | rfl
        · obtain ⟨k, _, g⟩ := dG5
          exact ⟨_, g, fun xs e => nomatch e⟩
        · exact ⟨_, gpr, fun xs e => nomatch e⟩
      have ey : y = V.str lb := ry M3 mG5 fun _ z => .inl z
      subst ey
      have x6 : SameX p H G6 := sx_of (xU.trans (SameX.of g4)) (eG5.same g6) j3
      have s6 : Same (msk M3 U) (msk M3 G6) := (msk_mono g4).trans (((eG5.same g6).sub i3).msk)
      have d6 := dG5.up g6
      have m6 := mG5.up g6
      have rc6 := rcU.up s6
      have rn6 := rnU.up s6
      have rs6 := rsU.up s6
      have pr6 := g6 _ _ gpr
      have rp6 := rpr.fx (Fx.of (msk_mono (M := M3) g6))
      have e46 : SameE N3 G4 G6 := eG5.same g6
      have toE : forall {A B : Hp}, SameX p A B -> SameE N3 A B := fun e b o n h => e b o (fun z => n (.inl z)) h
      clear mG5 s6 rpr gpr dG5 eG5 g6 ry
      have stay : forall {s' : L2.St} {G7 : Hp}, SameX p G6 G7 -> Drw p a G7 -> (exists o9 o10 o11 o12 o13 o14 o15, s' = Sl p ps pk n c l nm (some (.str x0)) (some (.ref pr)) o9 o10 o11 o12 o13 o14 o15) -> Same U G4 ∧ SameE N3 G4 G7 ∧ Drw p a G7 ∧ exists (rs : List (Str × RowI)) (wr : List (Key × V)) (o9 o10 o11 o12 o13 o14 o15 : Option V), s' = Sl p ps pk n c l nm (some (.str x0)) (some (.ref pr)) o9 o10 o11 o12 o13 o14 o15 ∧ (rs.map (·.1)).Sublist ([("a" : Str), "b"].take (j + 1)) ∧ (forall q, q ∈ rs -> ROk nms st x0 q.2) ∧ G7 pr = some (.dK wr) ∧ RepP (msk M3 G7) (rowsT rs) wr := fun {s' G7} e7 d7 ⟨o9, o10, o11, o12, o13, o14, o15, es⟩ =>
        ⟨g4, e46.trans (toE e7), d7, rs, wr, o9, o10, o11, o12, o13, o14, o15, es, hsub.trans (by rw [take_get hlb]; exact List.sublist_append_left _ _), hrow, e7 _ _ prp pr6, rp6.fx (Fx.of (e7.msk hp3))⟩
      dsimp only [gName]
      -- kind
      refine st_seq (st_setC (M := M3) d6 (ec_take (m := 6) (by decide) m6 hp3 (sql_x hs x6 d0) d6 hn rfl) ?_)
      rintro d v H7 ⟨k, rfl, k0, k6⟩ e7 d7 r7
      have ev : v = V.int k := r7
      subst ev
      dsimp only
      refine st_seq (st_if (b := decide (k = 0)) (et_test (M := M3) (ev_eqD dInt (x := k) (y := 0) rfl rfl (ev_var rfl rfl) ev_int)) (fun hb H8 e8 => stay (e7.trans (SameX.of e8)) (d7.up e8) ⟨_, _, _, _, _, _, _, rfl⟩) fun hb H8 e8 => ?_)
      dsimp only [tNext]
      have x68 : SameX p G6 H8 := e7.trans (SameX.of e8)
      have d8 := d7.up e8
      have m8 := x68.mok d8 m6
      -- low
      refine st_seq (st_setC (M := M3) d8 (ec_pick (es := [D.int 0, .int 0, .int 0, .int 1, .int 1, .int 2]) (by simp) (by simp) m8 hp3 (sql_x hs (x6.trans x68) d0) d8 hn rfl fun H9 e9 d9 => ev_lst (e9.mok d9 m8) (ea_cons ev_int (ea_cons ev_int (ea_cons ev_int (ea_cons ev_int (ea_cons ev_int (ea_one ev_int))))))) ?_)
      rintro d v H9 hd9 e9 d9 r9
      obtain ⟨lo, rfl, lo0, lo2⟩ : exists lo : Int, d = .int lo ∧ 0 ≤ lo ∧ lo ≤ 2 := by
        simp only [List.mem_cons, List.not_mem_nil, or_false] at hd9
        rcases hd9 with rfl | rfl | rfl | rfl | rfl | rfl <;> exact ⟨_, rfl, by decide, by decide⟩
      have ev : v = V.int lo := r9
      subst ev
      dsimp only
      have x69 := x68.trans e9
      have m9 := x69.mok d9 m6
      -- high
      refine st_seq (st_setC (M := M3) d9 (ec_pick (es := [D.non, .non, .int lo, .int lo, .int (lo + 1), .int (lo + 2)]) (by simp) (by simp) m9 hp3 (sql_x hs (x6.trans x69) d0) d9 hn rfl fun HA eA dA => ev_lst (eA.mok dA m9) (ea_cons ev_non (ea_cons ev_non (ea_cons (ev_var rfl rfl) (ea_cons (ev_var rfl rfl) (ea_cons (ev_op (ev_var (d := .int lo) rfl rfl) ev_int rd_addI) (ea_one (ev_op (ev_var (d := .int lo) rfl rfl) ev_int rd_addI)))))))) ?_)
      rintro d vh HA hdA eA dA' rA
      obtain ⟨hi, rfl, hhi⟩ : exists hi : Option Int, d = hiD hi ∧ forall h, hi = some h -> lo ≤ h ∧ h ≤ lo + 2 := by
        simp only [List.mem_cons, List.not_mem_nil, or_false] at hdA
        rcases hdA with rfl | rfl | rfl | rfl | rfl | rfl
        · exact ⟨none, rfl, fun h e => nomatch e⟩
        · exact ⟨none, rfl, fun h e => nomatch e⟩
        · exact ⟨some lo, rfl, fun h e => by cases e; omega⟩
        · exact ⟨some lo, rfl, fun h e => by cases e; omega⟩
        · exact ⟨some (lo + 1), rfl, fun h e => by cases e; omega⟩
        · exact ⟨some (lo + 2), rfl, fun h e => by cases e; omega⟩
      dsimp only
      have x6A := x69.trans eA
      have mA' := x6A.mok dA' m6
      have sA := x6A.msk hp3
      -- musts, nots
      have asks : forall {G : Hp} {s' : L2.St} {te : TE} {op : Int -> Int -> Bool}, SameX p G6 G -> Drw p a G -> s'[0]? = some (some (.ref p)) -> s'[4]? = some (some nm) -> (wipe s' [14]).length = 16 -> (wipe s' [14])[0]? = some (some (.ref p)) -> (wipe s' [14])[5]? = some (some (.ref ps)) -> (wipe s' [14])[7]? = some (some (.str x0)) ->
          (forall y, wipe ((wipe s' [14]).set 14 (some y)) [14] = wipe s' [14]) ->
          EvC M3 p a (tLc (iAny K (tVar 4)) (gName 14) (tAnd (tTest (tOp (rI0 fun i j => .bl (op i j)) (tDGet (tVar 5) (tVar 14)) (tDGet (tVar 5) (tVar 7)))) (tTest (tOp (rEqU false) (tCall (SpTake K) [] E0 (tCons (tVar 0) (tCons (tC (.int 3)) tNil))) (tC (.int 0))))) (tVar 14) [14]) s' G fun d => exists l : List Str, d = .lst (l.map .str) ∧ l.Sublist nms ∧ forall z, z ∈ l -> op (st z) (st x0) = true := by
        intro G s' te op eG dG z0 z4 zl w0 w5 w7 ww
        have mG := eG.mok dG m6
        refine (ec_lc (Ce := fun d o => o = none ∨ (o = some d ∧ exists z, d = .str z ∧ op (st z) (st x0) = true)) mG hp3 dG (eci_pure fun H1 e1 d1 => ia_tup (ev_var z4 ((rn6.up (eG.msk hp3)).up (e1.msk hp3)))) (fun ds e => by rw [e, List.length_map]; omega) fun ds N HB d x cs mN hN eB dB sm hd rx => ?_).imp fun d ⟨ds, es, ed, ec, ys⟩ => ?_
        · rw [cs] at hd
          obtain ⟨z, hz, rfl⟩ := List.mem_map.mp hd
          have ex : x = V.str z := rx
          subst ex
          have g14 : ((wipe s' [14]).set 14 (some (V.str z)))[14]? = some (some (V.str z)) := by
            rw [List.getElem?_set_self (by omega)]
          have gk : forall i : Nat, i ≠ 14 -> ((wipe s' [14]).set 14 (some (V.str z)))[i]? = (wipe s' [14])[i]? := fun i hi => List.getElem?_set_ne (fun e => hi e.symm)
          have rsN : Rep (msk N HB) (fD nms st) (.ref ps) := (rs6.up (eG.msk hp3)).up sm
          have xB' := (x6.trans eG).trans eB
          exact eltC_and (z := .str z) (bA := op (st z) (st x0)) (ww _) dB (ev_op (ev_dget (c := kcK) (k := .inr z) (ev_var ((gk 5 (by decide)).trans w5) rsN) (ev_var (d := .str z) g14 rfl) (fD_val hz)) (ev_dget (c := kcK) (k := .inr x0) (ev_var ((gk 5 (by decide)).trans w5) rsN) (ev_var (d := .str x0) ((gk 7 (by decide)).trans w7) rfl) (fD_val memx)) (rd_I0 fun _ => rfl))
            ((ec_op (C := fun d => exists b, d = .bl b) hN (ec_take (m := 3) (by decide) mN hN (sql_x hs xB' d0) dB hn ((gk 0 (by decide)).trans w0)) (ec_pure fun H1 e1 d1 => ev_int) fun d e ⟨k, ek, _⟩ ee => by
              subst ek ee
              exact ⟨_, ⟨_, rfl⟩, fun H1 => rd_eqU rfl rfl⟩))
            (fun H4 e4 d4 => ev_var g14 rfl) (fun h => .inr ⟨rfl, z, rfl, h⟩) (.inl rfl)
        · subst ed ec
          obtain ⟨y1, y2⟩ := yields_sub (fun _ _ z => z) ys
          obtain ⟨l2, el, hl⟩ := sublist_map y1
          subst el
          refine ⟨l2, rfl, hl, fun z hz => ?_⟩
          obtain ⟨z', e, h⟩ := y2 (.str z) (List.mem_map.mpr ⟨z, hz, rfl⟩)
          cases e
          exact h
      refine st_seq (st_setC (M := M3) dA' (asks (op := fun i j => decide (i ≤ j)) (te := tVar 14) x6A dA' rfl rfl rfl rfl rfl rfl (fun _ => rfl)) ?_)
      rintro d vm HB ⟨mu, rfl, mu1, mu2⟩ eB dB rB
      dsimp only
      have x6B := x6A.trans eB
      refine st_seq (st_setC (M := M3) dB (asks (op := fun i j => decide (i < j)) (te := tVar 14) x6B dB rfl rfl rfl rfl rfl rfl (fun _ => rfl)) ?_)
      rintro d vn HC ⟨no, rfl, no1, no2⟩ eC dC rC
      dsimp only
      have x6C := x6B.trans eC
      have mC := x6C.mok dC m6
      have rhC := (rA.up (eB.msk hp3)).up (eC.msk hp3)
      have rmC := rB.up (eC.msk hp3)
      -- the row
      obtain ⟨r, er, okr⟩ : exists r : RowI, (if k = 1 then D.tup [.int 0, .non, .tup [], .tup []] else .tup [.int lo, hiD hi, namesD mu, namesD no]) = rowT r ∧ ROk nms st x0 r := by
        by_cases h1 : k = 1
        · exact ⟨⟨0, none, [], []⟩, by rw [if_pos h1] <;> rfl, ⟨by decide, by decide, fun h e => (nomatch e), List.nil_sublist _, fun x hx => by simp at hx, List.nil_sublist _, fun x hx => by simp at hx⟩⟩
        · exact ⟨⟨lo, hi, mu, no⟩, by rw [if_neg h1] <;> rfl, ⟨lo0, lo2, hhi, mu1, fun x hx => of_decide_eq_true (mu2 x hx), no1, fun x hx => of_decide_eq_true (no2 x hx)⟩⟩
      have ll := ln
      have lmu : mu.length ≤ 4 := Nat.le_trans mu1.length_le ln
      have lno : no.length ≤ 4 := Nat.le_trans no1.length_le ln
      have nlb : lb ∉ rs.map (·.1) := fun z => not_before (by decide) hlb (hsub.subset z)
      refine st_dputC (M := M3) (p := p) (a := a) (q := pr) (k := .inr lb) (kvs := rowsT rs) (C := fun d => d = rowT r) hp3 (i3 pr (.inr rfl)) prp rfl rfl dC (ec_pure fun H1 e1 d1 => Ev.to (ev_ifE (P := fun v G => Rep G (if k = 1 then D.tup [.int 0, .non, .tup [], .tup []] else .tup [.int lo, hiD hi, namesD mu, namesD no]) v) (b := decide (k = 1)) (et_test (M := M3) (ev_eqD dInt (x := k) (y := 1) rfl rfl (ev_var rfl rfl) ev_int)) (fun h => ?_) fun h => ?_) er) (x6C _ _ prp pr6) (rp6.fx (Fx.of (x6C.msk hp3))) ?_ ?_
      · rw [if_pos (of_decide_eq_true h)]
        exact ev_tup (e1.mok d1 mC) (ea_cons ev_int (ea_cons ev_non (ea_cons (ev_tup (ds := []) (e1.mok d1 mC) ea_nil (by simp)) (ea_one (ev_tup (ds := []) (e1.mok d1 mC) ea_nil (by simp)))))) (by simp)
      · rw [if_neg (of_decide_eq_false h)]
        exact ev_tup (e1.mok d1 mC) (ea_cons (ev_var (d := .int lo) rfl rfl) (ea_cons (ev_var rfl (rhC.up (e1.msk hp3))) (ea_cons (ev_tof (e1.mok d1 mC) (ea_one (ev_var rfl (rmC.up (e1.msk hp3)))) (.inl rfl)) (ea_one (ev_tof (e1.mok d1 mC) (ea_one (ev_var rfl (rC.up (e1.msk hp3)))) (.inl rfl)))))) (by simp)
      · have := hsub.length_le
        unfold rowsT
        rw [List.length_map]
        rw [List.length_map, List.length_take] at this
        omega
      · rintro d HD ws2 rfl eD dD hD rD
        refine ⟨g4, (e46.trans (toE x6C)).trans eD, dD, rs ++ [(lb, r)], ws2, some (.str lb), some (.int k), some (.int lo), some vh, some vm, o14, some vn, rfl, ?_, ?_, hD, ?_⟩
        · rw [List.map_append, take_get hlb]
          exact hsub.append (List.Sublist.refl _)
        · intro q hq
          rcases List.mem_append.mp hq with z | z
          · exact hrow q z
          · rw [List.mem_singleton.mp z]
            exact okr
        · rw [pD_new _ (by
            unfold rowsT
            rw [List.map_map]
            intro z
            obtain ⟨y, hy, e⟩ := List.mem_map.mp z
            have e' : (Sum.inr y.1 : Key) = .inr lb := e
            exact nlb (List.mem_map.mpr ⟨y, hy, Sum.inr.inj e'⟩))] at rD
          unfold rowsT at rD ⊢
          rw [List.map_append]
          exact rD
    rintro G4 s' F0 g4 ⟨_, eF, dF, rs, wr, o9, o10, o11, o12, o13, o14, o15, rfl, hsub, hrow, gpr, rpr⟩
    have eGF : SameE N2 G3 F0 := ((SameE.of (eU.trans g4)).trans eF : SameE N3 G3 F0).drop fun b z => z.elim (fun z => .inl (.inl z)) fun z => .inr (by rw [z]; exact hpr)
    have pkn3 : ¬ N3 pk := fun z => z.elim pkp fun z => prk z.symm
    have fpk : F0 pk = some (.dK wk) := eF _ _ pkn3 (g4 _ _ (eU _ _ gpk3))
    have xF : SameX p H F0 := sx_of (xU.trans (SameX.of g4)) eF j3
    have mF : Mok M2 F0 := SameE.mok eGF mG3 fun b z => by
      rcases z with rfl | rfl
      · obtain ⟨k, _, g⟩ := dF
        exact ⟨_, g, fun xs e => nomatch e⟩
      · exact ⟨_, fpk, fun xs e => nomatch e⟩
    have n2pr : ¬ M2 pr := fun z => by
      rcases z with z | z
      · obtain ⟨o, g, _⟩ := m pr z
        rw [hpr0] at g
        cases g
      · exact prk z
    have rcF := rcB.up (s3.trans (eGF.sub i2).msk)
    have rrF : Rep (msk M2 F0) (.dK (rowsT rs)) (.ref pr) := ⟨pr, wr, rfl, .inl (by rw [msk_at n2pr]; exact gpr), repK_iff.mpr (rpr.fx (Fx.of (msk_less fun b z => .inl z)))⟩
    refine st_dputC (M := M2) (p := p) (a := a) (q := pk) (k := .inr x0) (kvs := (nms.take i).map fun x => ((.inr x : Key), kindT (kd x))) hp2 (i2 pk (.inr rfl)) pkp rfl rfl dF (ec_tup mF (ecs_cons hp2 (ec_pick (es := [namesD [("g" : Str), "r"], namesD [("g" : Str), "r"], namesD [("g" : Str), "r"], namesD [("g" : Str)], namesD [("r" : Str)]]) (by simp) (by simp) mF hp2 (sql_x hs xF d0) dF hn rfl fun H9 e9 d9 => ev_lst (e9.mok d9 mF) (ea_cons (ev_var rfl (rcF.up (e9.msk hp2))) (ea_cons (ev_var rfl (rcF.up (e9.msk hp2))) (ea_cons (ev_var rfl (rcF.up (e9.msk hp2))) (ea_cons (ev_tup (ds := [.str "g"]) (e9.mok d9 mF) (ea_one ev_str) (by simp)) (ea_one (ev_tup (ds := [.str "r"]) (e9.mok d9 mF) (ea_one ev_str) (by simp)))))))) (ecs_cons hp2 (ec_pure fun H9 e9 d9 => ev_var rfl (rrF.up (e9.msk hp2))) ecs_nil)) ?_) fpk (rpk3.fx (Fx.of (eGF.sub i2).msk)) (by rw [List.length_map, List.length_take]; omega) ?_
    · rintro ds ⟨d1, es, rfl, hd1, d2, es2, rfl, rfl, rfl⟩
      simp
    rintro d H5 ws2 ⟨ds, rfl, d1, es, rfl, hd1, d2, es2, rfl, rfl, rfl⟩ e5 d5 h5 r5
    obtain ⟨cs, rfl, hcs⟩ : exists cs : List Str, d1 = namesD cs ∧ (cs = ([("g" : Str), "r"] : List Str) ∨ cs = ([("g" : Str)] : List Str) ∨ cs = ([("r" : Str)] : List Str)) := by
      simp only [List.mem_cons, List.not_mem_nil, or_false] at hd1
      rcases hd1 with h | h | h | h | h
      · exact ⟨_, h, .inl rfl⟩
      · exact ⟨_, h, .inl rfl⟩
      · exact ⟨_, h, .inl rfl⟩
      · exact ⟨_, h, .inr (.inl rfl)⟩
      · exact ⟨_, h, .inr (.inr rfl)⟩
    have nb := not_before nd hx0
    refine ⟨g1, (eG.same g2).trans (eGF.trans e5), d5, fun y => if y = x0 then ⟨cs, rs⟩ else kd y, ws2, _, _, _, _, _, _, _, _, _, rfl, fun y hy => ?_, h5, ?_⟩
    · rw [take_get hx0] at hy
      dsimp only
      rcases List.mem_append.mp hy with z | z
      · rw [if_neg fun e => nb (by rw [← e]; exact z)]
        exact hk y z
      · rw [List.mem_singleton.mp z, if_pos rfl]
        exact ⟨hcs, hsub.trans (List.take_sublist _ _), hrow⟩
    · rw [pD_new _ (by
        rw [List.map_map]
        intro z
        obtain ⟨y, hy, e⟩ := List.mem_map.mp z
        have e' : (Sum.inr y : Key) = .inr x0 := e
        exact nb (by rw [← Sum.inr.inj e']; exact hy))] at r5
      rw [take_get hx0, List.map_append]
      have e1 : ((nms.take i).map fun y => ((.inr y : Key), kindT (if y = x0 then ⟨cs, rs⟩ else kd y))) = (nms.take i).map fun y => ((.inr y : Key), kindT (kd y)) := List.map_congr_left fun y hy => by rw [if_neg fun e => nb (by rw [← e]; exact hy)]
      rw [e1]
      show RepP (msk M2 H5) (_ ++ [((.inr x0 : Key), kindT (if x0 = x0 then ⟨cs, rs⟩ else kd x0))]) ws2
      rw [if_pos rfl]
      exact r5
  rintro G1 s' C0 g1 ⟨_, eC, dC, kd, wk, o7', o8, o9, o10, o11, o12, o13, o14, o15, rfl, hk, cpk, rpC⟩
  rw [List.length_map, List.take_length] at rpC hk
  have xC : SameX p H C0 := sx_of (xB.trans (SameX.of g1)) eC j2
  have mC : Mok M2 C0 := SameE.mok eC (mB.up g1) fun b z => by
    rcases z with rfl | rfl
    · obtain ⟨k, _, g⟩ := dC
      exact ⟨_, g, fun xs e => nomatch e⟩
    · exact ⟨_, cpk, fun xs e => nomatch e⟩
  have mM : Mok M C0 := fun b z => mC b (.inl z)
  have lM : Same (msk M2 C0) (msk M C0) := msk_less fun b z => .inl z
  have npkM : ¬ M pk := fun z => by
    obtain ⟨o, g, _⟩ := m pk z
    rw [hpk0] at g
    cases g
  have rsC := (rsB.up ((msk_mono g1).trans (eC.sub i2).msk)).up lM
  have rkC : Rep (msk M C0) (.dK (kindsT (nms.map fun x => (x, kd x)))) (.ref pk) := ⟨pk, wk, rfl, .inl (by rw [msk_at npkM]; exact cpk), repK_iff.mpr (by
    unfold kindsT
    rw [List.map_map]
    exact rpC.fx (Fx.of lM))⟩
  have ek : (nms.map fun x => (x, kd x)).map (·.1) = nms := by
    rw [List.map_map]
    exact List.map_id _
  refine st_ret (M := M) (ev_tup mM (ea_cons (ev_var rfl rkC) (ea_one (ev_var rfl rsC))) (by simp)) fun y H5 e5 ry => ?_
  refine q _ y H5 ⟨n, nms.map fun x => (x, kd x), st, rfl, ⟨by rw [ek, hN4], h01, fun p hp => ?_⟩, rfl⟩ (xC.trans (SameX.of e5)) (dC.up e5) ?_
  · obtain ⟨x, hx, rfl⟩ := List.mem_map.mp hp
    rw [hN4]
    exact hk x hx
  · rw [ek]
    exact ry
end

end K02
namespace K02
open PySem PySem.Spec PyProof.Rows L2 Ak
/-! ### neat kinds -/
theorem least_some {N : List Str} {mu no : Str -> List Str} (cl : forall m, m ∈ N -> (forall x, x ∈ mu m -> x ∈ N) ∧ forall x, x ∈ no m -> x ∈ N) {st : Str -> Int} (hs : Sol N mu no st) : exists f, Least N mu no f := by
  have go : forall (k : Nat) (f : Str -> Int), mes N N.length f ≤ k -> Below N mu no f -> exists f, Least N mu no f := by
    intro k
    induction k with
    | zero =>
      intro f hm B
      refine ⟨f, fun n hn => ?_, B.le⟩
      obtain ⟨a, b, t⟩ := two_some mu no f n
      rcases Int.lt_or_le (f n) b with h | h
      · have hb : b < N.length := by
          rcases Int.lt_or_le b N.length with z | z
          · exact z
          · exact absurd hs (no_sol cl B t hn z st)
        have := mes_lt (N := N) h (Int.le_of_lt hb) hn
        omega
      · exact ⟨B.nn n hn, (t.ok h).1, (t.ok h).2⟩
    | succ k ih =>
      intro f hm B
      rcases Classical.em (forall n, n ∈ N -> (forall m, m ∈ mu n -> f m ≤ f n) ∧ forall o, o ∈ no n -> f o + 1 ≤ f n) with z | z
      · exact ⟨f, fun n hn => ⟨B.nn n hn, (z n hn).1, (z n hn).2⟩, B.le⟩
      · obtain ⟨n, z⟩ := Classical.not_forall.mp z
        obtain ⟨hn, z⟩ := Classical.not_imp.mp z
        obtain ⟨a, b, t⟩ := two_some mu no f n
        rcases Int.lt_or_le (f n) b with h | h
        · have hb : b < N.length := by
            rcases Int.lt_or_le b N.length with y | y
            · exact y
            · exact absurd hs (no_sol cl B t hn y st)
          have := mes_lt (N := N) h (Int.le_of_lt hb) hn
          exact ih (upF f n b) (by omega) (B.up t cl hn hb)
        · exact absurd (t.ok h) z
  refine go _ (fun _ => 0) (Nat.le_refl _) ⟨fun n hn => Int.le_refl _, fun n hn => ?_, fun st' hs' n hn => (hs' n hn).1⟩
  have := List.length_pos_of_mem hn
  show (0 : Int) < (N.length : Int)
  omega
theorem sortS_id {l : List Str} (h : l.Pairwise fun a b => leS a b = true) : sortS l = l := List.mergeSort_of_pairwise h
theorem n4_le : N4.Pairwise fun a b => leS a b = true := by decide +kernel
theorem ab_le : ([("a" : Str), "b"] : List Str).Pairwise fun a b => leS a b = true := by decide +kernel
theorem gr_le : ([("g" : Str), "r"] : List Str).Pairwise fun a b => leS a b = true := by decide +kernel
structure NeatR (N : List Str) (r : RowI) : Prop where
  lo0 : 0 ≤ r.lo
  lo9 : r.lo ≤ 9
  hi : forall h, r.hi = some h -> r.lo ≤ h ∧ h ≤ 9
  mu : r.mu.Sublist N
  no : r.no.Sublist N
structure NeatK (N : List Str) (k : KindI) : Prop where
  cs : k.cs = ([("g" : Str), "r"] : List Str) ∨ k.cs = ([("g" : Str)] : List Str) ∨ k.cs = ([("r" : Str)] : List Str)
  keys : (k.rows.map (·.1)).Sublist ([("a" : Str), "b"] : List Str)
  row : forall q, q ∈ k.rows -> NeatR N q.2
structure Neat (ks : Kinds) : Prop where
  nm : (ks.map (·.1)).Sublist N4
  kind : forall p, p ∈ ks -> NeatK (ks.map (·.1)) p.2
theorem DrawnOk.neat {n : Int} {ks : Kinds} {st : Str -> Int} (h : DrawnOk n ks st) : Neat ks := by
  refine ⟨by rw [h.nm]; exact List.take_sublist _ _, fun p hp => ?_⟩
  have k := h.kind p hp
  rw [← h.nm] at k
  refine ⟨k.cs, k.keys, fun q hq => ?_⟩
  have r := k.row q hq
  have := r.lo2
  exact ⟨r.lo0, by omega, fun x e => ⟨(r.hi x e).1, by have := (r.hi x e).2; omega⟩, r.mu, r.no⟩
theorem Neat.nd {ks : Kinds} (h : Neat ks) : (ks.map (·.1)).Nodup := List.Nodup.sublist h.nm (by decide)
theorem Neat.le {ks : Kinds} (h : Neat ks) : (ks.map (·.1)).Pairwise fun a b => leS a b = true := List.Pairwise.sublist h.nm n4_le
theorem Neat.few {ks : Kinds} (h : Neat ks) : ks.length ≤ 4 := by
  have := h.nm.length_le
  rw [List.length_map] at this
  exact this
theorem NeatK.few {N : List Str} {k : KindI} (h : NeatK N k) : k.rows.length ≤ 2 := by
  have := h.keys.length_le
  rw [List.length_map] at this
  exact this
theorem Neat.fits {ks : Kinds} (h : Neat ks) : Fits ks := by
  have few := h.few
  have ln : (ks.map (·.1)).length ≤ 4 := by rw [List.length_map]; exact few
  refine ⟨h.nd, by omega, fun p hp => by have := (h.kind p hp).few; omega, fun p hp q hq => ?_, fun p hp => ⟨fun x hx => ?_, fun x hx => ?_⟩⟩
  · have r := (h.kind p hp).row q hq
    have h1 := r.mu.length_le
    have h2 := r.no.length_le
    exact ⟨by omega, by omega⟩
  · obtain ⟨l, hl, hx⟩ := List.mem_flatten.mp hx
    obtain ⟨q, hq, e⟩ := List.mem_map.mp hl
    exact ((h.kind p hp).row q hq).mu.subset (by rw [e]; exact hx)
  · obtain ⟨l, hl, hx⟩ := List.mem_flatten.mp hx
    obtain ⟨q, hq, e⟩ := List.mem_map.mp hl
    exact ((h.kind p hp).row q hq).no.subset (by rw [e]; exact hx)
/-! what is drawn can be told in strata -/
theorem DrawnOk.sol {n : Int} {ks : Kinds} {st : Str -> Int} (h : DrawnOk n ks st) : Sol (ks.map (·.1)) ks.mu ks.no st := fun x hx => by
  obtain ⟨p, hp, e⟩ := List.mem_map.mp hx
  obtain ⟨i, hi, ei⟩ := List.mem_iff_getElem.mp hp
  obtain ⟨px, k⟩ := p
  have e : px = x := e
  subst e
  obtain ⟨e1, e2⟩ := h.neat.fits.asks (i := i) (n := px) (k := k) (by rw [List.getElem?_eq_getElem hi, ei])
  have kk := h.kind _ hp
  refine ⟨(h.st01 px).1, fun m hm => ?_, fun o ho => ?_⟩
  · rw [e1] at hm
    obtain ⟨l, hl, hm⟩ := List.mem_flatten.mp hm
    obtain ⟨q, hq, e⟩ := List.mem_map.mp hl
    exact (kk.row q hq).mus m (by rw [e]; exact hm)
  · rw [e2] at ho
    obtain ⟨l, hl, ho⟩ := List.mem_flatten.mp ho
    obtain ⟨q, hq, e⟩ := List.mem_map.mp hl
    have z : st o < st px := (kk.row q hq).nos o (by rw [e]; exact ho)
    show st o + 1 ≤ st px
    omega
theorem DrawnOk.least {n : Int} {ks : Kinds} {st : Str -> Int} (h : DrawnOk n ks st) : exists f, Least (ks.map (·.1)) ks.mu ks.no f := least_some h.neat.fits.closed h.sol
/-! ### sorted already -/
theorem normN_id {l : List Str} {k : Int} (h : l.Pairwise fun a b => leS a b = true) : normN (namesD l) k = namesD l := by
  show (if areN (.tup (l.map .str)) k = true then D.tup (sortD (l.map .str)) else .tup (l.map .str)) = _
  rw [sortD_strs, sortS_id h]
  split <;> rfl
theorem vD_at {kvs : List (Key × D)} (nd : (kvs.map (·.1)).Nodup) {p : Key × D} (hp : p ∈ kvs) : vD kvs p.1 = some p.2 := by
  unfold vD
  cases g : kvs.find? fun kv => decide (kv.1 = p.1) with
  | none => exact absurd (decide_eq_true rfl) (List.find?_eq_none.mp g p hp)
  | some q =>
    have h1 := List.mem_of_find?_eq_some g
    have h3 := List.find?_some (p := fun kv : Key × D => decide (kv.1 = p.1)) g
    have h2 : q.1 = p.1 := of_decide_eq_true h3
    have e : q = p := by
      clear g
      induction kvs with
      | nil => cases h1
      | cons x kvs ih =>
        rw [List.map_cons, List.nodup_cons] at nd
        rcases List.mem_cons.mp h1 with a | a
        · rcases List.mem_cons.mp hp with b | b
          · rw [a, b]
          · exact absurd (by rw [← a, h2]; exact List.mem_map.mpr ⟨p, b, rfl⟩) nd.1
        · rcases List.mem_cons.mp hp with b | b
          · exact absurd (by rw [← b, ← h2]; exact List.mem_map.mpr ⟨q, a, rfl⟩) nd.1
          · exact ih nd.2 b a
    rw [e] <;> rfl
theorem keysS_strs {α : Type} (l : List (Str × α)) (f : α -> D) : keysS (l.map fun p => ((.inr p.1 : Key), f p.2)) = l.map (·.1) := by
  unfold keysS
  rw [List.filterMap_map]
  show l.filterMap (fun p => some p.1) = _
  exact congrFun List.filterMap_eq_map l
theorem sortKV_id {α : Type} {l : List (Str × α)} {f : α -> D} (h : (l.map (·.1)).Pairwise fun a b => leS a b = true) (nd : (l.map (·.1)).Nodup) : sortKV (l.map fun p => ((.inr p.1 : Key), f p.2)) = l.map fun p => ((.inr p.1 : Key), f p.2) := by
  have nd2 : ((l.map fun p => ((.inr p.1 : Key), f p.2)).map (·.1)).Nodup := by
    have e : (l.map fun p => ((.inr p.1 : Key), f p.2)).map (·.1) = (l.map (·.1)).map Sum.inr := by
      rw [List.map_map, List.map_map] <;> rfl
    rw [e]
    exact List.Pairwise.map _ (fun a b hab z => hab (Sum.inr.inj z)) nd
  unfold sortKV
  rw [keysS_strs, sortS_id h, List.map_map]
  refine List.map_congr_left fun p hp => ?_
  show ((Sum.inr p.1 : Key), (vD (l.map fun p => ((.inr p.1 : Key), f p.2)) (Sum.inr p.1 : Key)).getD .non) = _
  rw [vD_at nd2 (p := ((Sum.inr p.1 : Key), f p.2)) (List.mem_map.mpr ⟨p, hp, rfl⟩)] <;> rfl

end K02
namespace K02
open PySem PySem.Spec PyProof.Rows L2 Ak
/-! ### a schema that is made of neat kinds -/
theorem fis_strs : forall {l : List Str}, (forall x, x ∈ l -> x.length ≤ 10000) -> D.fis (l.map .str) = true
  | [], _ => rfl
  | x :: l, h => by
    show (D.fi (.str x) && D.fis (l.map .str)) = true
    rw [fis_strs fun y hy => h y (List.mem_cons_of_mem _ hy), Bool.and_true]
    exact decide_eq_true (h x List.mem_cons_self)
theorem fi_names {l : List Str} (h : forall x, x ∈ l -> x.length ≤ 10000) (hl : l.length ≤ 100000) : (namesD l).fi = true := by
  show (decide ((l.map D.str).length ≤ 100000) && D.fis (l.map .str)) = true
  rw [fis_strs h, List.length_map, decide_eq_true hl] <;> rfl
theorem n4_nm : forall x, x ∈ N4 -> nameS x = true ∧ x.length ≤ 10000 := by decide +kernel
theorem ab_nm : forall x, x ∈ ([("a" : Str), "b"] : List Str) -> nameS x = true ∧ x.length ≤ 10000 := by decide +kernel
theorem areN_of {l : List Str} {k : Int} (h : forall x, x ∈ l -> nameS x = true) (nd : l.Nodup) (hl : (l.length : Int) ≤ k) : areN (namesD l) k = true := by
  show (decide (((l.map D.str).length : Int) ≤ k) && ((l.map D.str).all isNm && decide (strsOf (l.map .str)).Nodup)) = true
  rw [List.length_map, decide_eq_true hl, strsOf_map, decide_eq_true nd, Bool.true_and, Bool.and_true, List.all_map]
  exact List.all_eq_true.mpr h
theorem labsB_of {α : Type} {l : List (Str × α)} {f : α -> D} (h : forall p, p ∈ l -> nameS p.1 = true) : labsB (l.map fun p => ((.inr p.1 : Key), f p.2)) = true := by
  unfold labsB
  rw [List.all_map]
  exact List.all_eq_true.mpr h
theorem keys_inr {α : Type} (l : List (Str × α)) (f : α -> D) : (l.map fun p => ((.inr p.1 : Key), f p.2)).map (·.1) = (l.map (·.1)).map Sum.inr := by
  rw [List.map_map, List.map_map] <;> rfl
theorem nd_inr {l : List Str} (nd : l.Nodup) : (l.map (Sum.inr : Str -> Key)).Nodup := List.Pairwise.map _ (fun a b hab z => hab (Sum.inr.inj z)) nd
section
variable {P : Program} {w : World} {K : PySem.W.Frag} {mg : Str -> Option Value} {base : Heap}
theorem Neat.mem {ks : Kinds} (h : Neat ks) {x : Str} (hx : x ∈ ks.map (·.1)) : nameS x = true ∧ x.length ≤ 10000 := n4_nm x (h.nm.subset hx)
theorem NeatR.nmu {ks : Kinds} (h : Neat ks) {l : List Str} (hl : l.Sublist (ks.map (·.1))) : (forall x, x ∈ l -> nameS x = true ∧ x.length ≤ 10000) ∧ l.Nodup ∧ l.length ≤ 4 ∧ l.Pairwise (fun a b => leS a b = true) := by
  refine ⟨fun x hx => h.mem (hl.subset hx), h.nd.sublist hl, ?_, h.le.sublist hl⟩
  have := hl.length_le
  have := h.few
  rw [List.length_map] at *
  omega
theorem kinds_has {T : Tx K mg} {ks : Kinds} {x : Str} (hx : x ∈ ks.map (·.1)) : (vD (kindsI T ks) (.inr x)).isSome = true := by
  have : (.inr x : Key) ∈ (kindsI T ks).map (·.1) := by
    unfold kindsI
    rw [List.map_map]
    obtain ⟨p, hp, e⟩ := List.mem_map.mp hx
    exact List.mem_map.mpr ⟨p, hp, by rw [← e] <;> rfl⟩
  obtain ⟨d, hd⟩ := vD_mem this
  rw [hd] <;> rfl
theorem names_in {kvs : List (Key × D)} {N l : List Str} (has : forall x, x ∈ N -> (vD kvs (.inr x)).isSome = true) (hl : l.Sublist N) : namesIn (namesD l) kvs = true := by
  show (l.map D.str).all (fun e => (vD kvs (keyD e)).isSome) = true
  rw [List.all_map]
  exact List.all_eq_true.mpr fun x hx => has x (hl.subset hx)
theorem neat_row {T : Tx K mg} {ks : Kinds} {kvs : List (Key × D)} (has : forall x, x ∈ ks.map (·.1) -> (vD kvs (.inr x)).isSome = true) (h : Neat ks) {r : RowI} (hr : NeatR (ks.map (·.1)) r) : rowB (rowI T r) kvs 9 = true := by
  obtain ⟨a1, a2, a3, _⟩ := NeatR.nmu h hr.mu
  obtain ⟨b1, b2, b3, _⟩ := NeatR.nmu h hr.no
  show (decide (0 ≤ r.lo) && (decide (r.lo ≤ 9) && (highB r.lo (hiD r.hi) 9 && (areN (namesD r.mu) 16 && (areN (namesD r.no) 16 && (namesIn (namesD r.mu) kvs && namesIn (namesD r.no) kvs)))))) = true
  rw [decide_eq_true hr.lo0, decide_eq_true hr.lo9, names_in has hr.mu, names_in has hr.no, areN_of (fun x hx => (a1 x hx).1) a2 (by omega), areN_of (fun x hx => (b1 x hx).1) b2 (by omega)]
  simp only [Bool.true_and, Bool.and_true]
  cases z : r.hi with
  | none => rfl
  | some x =>
    show (decide (r.lo ≤ x) && decide (x ≤ 9)) = true
    obtain ⟨z1, z2⟩ := hr.hi x z
    rw [decide_eq_true z1, decide_eq_true z2] <;> rfl
theorem neat_verdict {T : Tx K mg} {ks : Kinds} {kvs : List (Key × D)} {ls : List Str} (has : forall x, x ∈ ks.map (·.1) -> (vD kvs (.inr x)).isSome = true) (hls : forall x, x ∈ ([("a" : Str), "b"] : List Str) -> x ∈ ls) (h : Neat ks) {k : KindI} (hk : NeatK (ks.map (·.1)) k) : verdict ([("g" : Str), "r"] : List Str) ls kvs (kindI T k) = none := by
  show (if colsB _ (namesD k.cs) = true then (if kLabs _ (.dK (rowsI T k.rows)) = true then ((badRow kvs 9 (rowsI T k.rows)).map kD) else some (.str "labels")) else some (.str "colours")) = none
  have h1 : colsB ([("g" : Str), "r"] : List Str) (namesD k.cs) = true := by
    rcases hk.cs with e | e | e <;> rw [e] <;> decide +kernel
  have h2 : kLabs ls (.dK (rowsI T k.rows)) = true := by
    show (labsB (rowsI T k.rows) && (keysS (rowsI T k.rows)).all fun x => decide (x ∈ ls)) = true
    unfold rowsI
    rw [labsB_of (f := rowI T) fun p hp => (ab_nm p.1 (hk.keys.subset (List.mem_map.mpr ⟨p, hp, rfl⟩))).1, keysS_strs k.rows (rowI T), Bool.true_and]
    exact List.all_eq_true.mpr fun x hx => decide_eq_true (hls x (hk.keys.subset hx))
  rw [if_pos h1, if_pos h2, badRow_none.mpr]
  · rfl
  · intro p hp
    obtain ⟨q, hq, rfl⟩ := List.mem_map.mp hp
    exact neat_row has h (hk.row q hq)
theorem Neat.sort {T : Tx K mg} {ks : Kinds} (h : Neat ks) : sortKV (kindsI T ks) = kindsI T ks := sortKV_id (f := kindI T) h.le h.nd
theorem NeatK.nd {N : List Str} {k : KindI} (h : NeatK N k) : (k.rows.map (·.1)).Nodup := List.Nodup.sublist h.keys (by decide)
theorem NeatK.le {N : List Str} {k : KindI} (h : NeatK N k) : (k.rows.map (·.1)).Pairwise fun a b => leS a b = true := List.Pairwise.sublist h.keys ab_le
theorem NeatK.sort {T : Tx K mg} {N : List Str} {k : KindI} (h : NeatK N k) : normR (.dK (rowsI T k.rows)) = .dK (rowsI T k.rows) := by
  show (if labsB (rowsI T k.rows) = true then D.dK (sortKV (rowsI T k.rows)) else .dK (rowsI T k.rows)) = _
  rw [show sortKV (rowsI T k.rows) = rowsI T k.rows from sortKV_id (f := rowI T) h.le h.nd]
  split <;> rfl
theorem neat_okR {T : Tx K mg} {N : List Str} {k : KindI} (h : NeatK N k) : okR (.dK (rowsI T k.rows)) := by
  refine .inr ⟨_, rfl, ?_, fun p hp => ?_, ?_⟩
  · unfold rowsI
    rw [List.length_map]
    have := h.few
    omega
  · obtain ⟨q, hq, rfl⟩ := List.mem_map.mp hp
    exact decide_eq_true (ab_nm q.1 (h.keys.subset (List.mem_map.mpr ⟨q, hq, rfl⟩))).2
  · unfold rowsI
    rw [keys_inr k.rows (rowI T)]
    exact nd_inr h.nd
theorem hi_fi (o : Option Int) : (hiD o).fi = true := by cases o <;> rfl
theorem neat_cs {N : List Str} {k : KindI} (h : NeatK N k) : (namesD k.cs).fi = true := by
  rcases h.cs with e | e | e <;> rw [e] <;> decide +kernel
theorem neat_okKind {T : Tx K mg} {ks : Kinds} (h : Neat ks) {k : KindI} (hk : NeatK (ks.map (·.1)) k) : okKindD T (kindI T k) := by
  refine .inr ⟨_, _, rfl, neat_cs hk, neat_okR hk, fun rows e p hp => ?_⟩
  cases e
  obtain ⟨q, hq, rfl⟩ := List.mem_map.mp hp
  obtain ⟨a1, a2, a3, _⟩ := NeatR.nmu h (hk.row q hq).mu
  obtain ⟨b1, b2, b3, _⟩ := NeatR.nmu h (hk.row q hq).no
  exact .inr ⟨_, _, _, _, rfl, rfl, hi_fi _, fi_names (fun x hx => (a1 x hx).2) (by omega), fi_names (fun x hx => (b1 x hx).2) (by omega)⟩
theorem neat_okKs {T : Tx K mg} {ks : Kinds} (h : Neat ks) : okKs T (kindsI T ks) := by
  refine ⟨?_, fun p hp => ?_, ?_, fun p hp => ?_⟩
  · unfold kindsI
    rw [List.length_map]
    have := h.few
    omega
  · obtain ⟨q, hq, rfl⟩ := List.mem_map.mp hp
    exact decide_eq_true (h.mem (List.mem_map.mpr ⟨q, hq, rfl⟩)).2
  · unfold kindsI
    rw [keys_inr ks (kindI T)]
    exact nd_inr h.nd
  · obtain ⟨q, hq, rfl⟩ := List.mem_map.mp hp
    exact neat_okKind h (h.kind q hq)
theorem neat_G2 {T : Tx K mg} {ks : Kinds} (h : Neat ks) : G2 (.dK (kindsI T ks)) (kindsI T ks) := by
  refine ⟨rfl, ?_, ?_⟩
  · unfold kindsI
    rw [List.length_map]
    have := h.few
    omega
  · unfold kindsI
    exact labsB_of (f := kindI T) fun p hp => (h.mem (List.mem_map.mpr ⟨p, hp, rfl⟩)).1
theorem sortS_eq {l1 l2 : List Str} (p : l1.Perm l2) : sortS l1 = sortS l2 := by
  have h : (sortS l1).map D.str = (sortS l2).map D.str := by
    rw [← sortD_strs, ← sortD_strs]
    exact sortD_eq (fun a b ha hb e => by
      obtain ⟨x, _, rfl⟩ := List.mem_map.mp ha
      obtain ⟨y, _, rfl⟩ := List.mem_map.mp hb
      exact toks_str e) (p.map D.str)
  exact (List.map_inj_right fun a b h => by injection h).mp h
theorem sort_rg : sortS ([("r" : Str), "g"] : List Str) = ([("g" : Str), "r"] : List Str) := (sortS_eq (List.Perm.swap _ _ _)).trans (sortS_id gr_le)
theorem neat_schema {T : Tx K mg} {ks : Kinds} (h : Neat ks) {f : Str -> Int} (hf : Least (ks.map (·.1)) ks.mu ks.no f) {c l : D} {lc ll : List Str} (fc : c.fi = true) (fl : l.fi = true) (g0 : G0 c lc) (g1 : G1 l ll) (e0 : sortS lc = ([("g" : Str), "r"] : List Str)) {ls : List Str} (e1 : sortS ll = ls) (hls : forall x, x ∈ ([("a" : Str), "b"] : List Str) -> x ∈ ls) : R_schema T [c, l, .dK (kindsI T ks)] (schF T ([("g" : Str), "r"] : List Str) ls ks f) := by
  refine ⟨c, l, _, lc, ll, kindsI T ks, ks, f, rfl, ⟨fc, fl, .inr ⟨_, rfl, neat_okKs h⟩⟩, g0, g1, neat_G2 h, ?_, h.sort, h.fits, hf, by rw [e0, e1]⟩
  rw [e0, e1, h.sort]
  intro p hp
  obtain ⟨q, hq, rfl⟩ := List.mem_map.mp hp
  exact neat_verdict (fun x hx => kinds_has hx) hls h (h.kind q hq)
end

end K02
namespace K02
open PySem PySem.Spec PyProof.Rows L2 Ak
/-! ### _law_make -/
abbrev Sm (k : V) (pm : Addr) (o2 o3 o4 o5 o6 o7 o8 o9 : Option V) : L2.St := [some k, some (.ref pm), o2, o3, o4, o5, o6, o7, o8, o9]
section
variable {P : Program} {w : World} {K : PySem.W.Frag} {mg : Str -> Option Value} {base : Heap}
def R_make (T : Tx K mg) : List D -> D -> Prop := fun ds z => exists ks f, ds = [.dK (kindsT ks)] ∧ Neat ks ∧ Least (ks.map (·.1)) ks.mu ks.no f ∧ z = schD T ([("g" : Str), "r"] : List Str) ([("a" : Str), "b"] : List Str) ks f
theorem ok__law_make (T : Tx K mg) : FnOk P w K mg base (L2.CX P w) 8 T.f__law_make T.d__law_make ["kinds"] (SpR (R_make T)) := by
  refine T.F__law_make.ok sc__law_make (fun _ _ _ _ h => SpR.len (n := 1) (fun ds z ⟨_, _, e, _⟩ => by rw [e] <;> rfl) h) (fun cdv A outer s H vs Q E hr h => ⟨_, (pss_cons (ps_set (i := 1) sc__law_make.nd rfl (.inl rfl) pe_dnewK)
      (pss_cons (ps_lockS (ps_for PassesOwn.leaving rfl (pi_items (pv 0)) (pg_tup rfl (pgs_cons (pg_name (i := 2) sc__law_make.nd rfl (.inl rfl)) (pgs_cons (pg_tup rfl (pgs_cons (pg_name (i := 3) sc__law_make.nd rfl (.inl rfl)) (pgs_cons (pg_name (i := 4) sc__law_make.nd rfl (.inl rfl)) pgs_nil))) pgs_nil)))
      (pss_one (ps_dput (hu_of hr) (pv 1) (pv 2) (pe_make T.mk_Kind (ok_Kind_init T) (hr.mono (by decide)) rfl T.g_Kind T.B_Kind_init .nil passL (pa_cons (pv 3) (pa_cons (pe_callTy (call_dictP rfl) rfl T.n_dict (by decide +kernel) (by exact (pa_cons (pe_lockU (pe_lc (own := [("label", 5), ("low", 6), ("high", 7), ("musts", 8), ("nots", 9)]) (g := (gTup K 2 (gCons (gName 5) (gCons (gTup K 4 (gCons (gName 6) (gCons (gName 7) (gCons (gName 8) (gCons (gName 9) gNil))))) gNil)))) (tt := tYes) (te := (tTup (tCons (tVar 5) (tCons (tMake T.C_Row (SpI T.C_Row (R_row K) nox) [] E0 (tCons (tVar 6) (tCons (tVar 7) (tCons (tVar 8) (tCons (tVar 9) tNil))))) tNil)))) rfl sc__law_make.nd (pi_items (pv 4)) (blkOk_by (own := [("label", 5), ("low", 6), ("high", 7), ("musts", 8), ("nots", 9)]) (N := ["kinds", "made", "name", "colours", "rows", "label", "low", "high", "musts", "nots"]) (sc := (defScope s__law_make)) (by decide +kernel)) (fun _ _ _ _ _ => by exact (pg_tup rfl (pgs_cons (pg_name (i := 5) sc__law_make.nd rfl (.inl rfl)) (pgs_cons (pg_tup rfl (pgs_cons (pg_name (i := 6) sc__law_make.nd rfl (.inl rfl)) (pgs_cons (pg_name (i := 7) sc__law_make.nd rfl (.inl rfl)) (pgs_cons (pg_name (i := 8) sc__law_make.nd rfl (.inl rfl)) (pgs_cons (pg_name (i := 9) sc__law_make.nd rfl (.inl rfl)) pgs_nil))))) pgs_nil)))) (fun _ _ _ _ _ => by exact pts_nil) (fun _ _ _ _ _ => by exact (pe_tup (pa_cons (pv 5) (pa_cons (pe_make T.mk_Row (ok_Row_init T) (hr.mono (by decide)) rfl T.g_Row T.B_Row_init_5.choose_spec.2 T.B_Row_init_5.choose_spec.1 passL (pa_cons (pv 6) (pa_cons (pv 7) (pa_cons (pv 8) (pa_cons (pv 9) pa_nil))))) pa_nil)))))) pa_nil))) pa_nil))) rfl))))
      (pss_one (ps_ret (pe_make T.mk_Schema (ok_Schema_init T) (hr.mono (by decide)) rfl T.g_Schema T.B_Schema_init .nil passL (pa_cons (pe_tup (pa_cons pe_str (pa_cons pe_str pa_nil))) (pa_cons (pe_tup (pa_cons pe_str (pa_cons pe_str pa_nil))) (pa_cons (pv 1) pa_nil)))))))), ?_⟩)
  obtain ⟨M, ds, z, m, rs, ⟨ks, f, rfl, neat, hf, rfl⟩, q⟩ := h
  obtain ⟨v, rfl, r⟩ := rs.one_of
  refine st_seq (fun pm hpm => ?_)
  dsimp only [gName]
  have eA : Same H (upd H pm (.dK [])) := same_new hpm
  have apm : upd H pm (.dK []) pm = some (.dK []) := upd_same
  generalize upd H pm (.dK []) = A0 at eA apm
  have nM : ¬ M pm := m.new hpm
  let N : MK := fun b => M b ∨ b = pm
  have mA : Mok N A0 := (m.up eA).add apm
  have sA : Same (msk M H) (msk N A0) := fun b o h => by
    obtain ⟨n, h⟩ := msk_of h
    rw [msk_at fun z => z.elim n fun z => by rw [z, hpm] at h; cases h]
    exact eA b o h
  have rA : Rep (msk N A0) (.dK (kindsT ks)) v := r.up sA
  have lnk := neat.few
  show tSeq _ _ _ (Sm v pm none none none none none none none none) A0
  refine st_seq (st_lockS (M := N) mA rA fun Hl b od ws back E' ml fl fe eb nmb hb rp ul el offs lk => ?_)
  have pmb : pm ≠ b := fun z => nmb (.inr z.symm)
  have hlpm : Hl pm = some (.dK []) := by rw [offs pm (.inr rfl)]; exact apm
  refine st_for (M := N) (ds := (kindsT ks).map pairD) ml (ia_items (a := b) (od := od) (ws := ws) (fun H1 e1 Q q => ⟨_, rfl, q _ H1 (Same.refl H1) eb⟩) hb rp) (fun G1 i s' G' => Same Hl G1 ∧ SameE (fun c => c = pm) G1 G' ∧ exists (wm : List (Key × V)) (o2 o3 o4 o5 o6 o7 o8 o9 : Option V), s' = Sm v pm o2 o3 o4 o5 o6 o7 o8 o9 ∧ G' pm = some (.dK wm) ∧ RepP (msk N G') (kindsI T (ks.take i)) wm)
    (fun G1 g1 => ⟨g1, SameE.refl _, [], none, none, none, none, none, none, none, none, rfl, g1 _ _ hlpm, .nil⟩) (fun G1 i s' G' ⟨g1, e, _⟩ => kp_of e (fun c z => .inr z) fun c z o u h => ?_) ?_ ?_
  · have z' : c = pm := z
    rw [z', g1 _ _ hlpm] at h
    cases h
  · rintro G1 i d x s' G' G'' g1 hi hd ⟨_, eG, wm, o2, o3, o4, o5, o6, o7, o8, o9, rfl, gpm, rpm⟩ g2 rx
    rw [List.length_map] at hi
    unfold kindsT at hi
    rw [List.length_map] at hi
    obtain ⟨nm, k, hk0⟩ : exists nm k, ks[i]? = some (nm, k) := ⟨ks[i].1, ks[i].2, by rw [List.getElem?_eq_getElem hi]⟩
    have ed : d = .tup [.str nm, .tup [namesD k.cs, .dK (rowsT k.rows)]] := by
      unfold kindsT at hd
      rw [List.getElem?_map, List.getElem?_map, hk0] at hd
      exact (Option.some.inj hd).symm
    subst ed
    have memk : (nm, k) ∈ ks := List.mem_of_getElem? hk0
    have nk := neat.kind _ memk
    have mG : Mok N G' := SameE.mok eG (ml.up g1) fun c z => by
      have z' : c = pm := z
      rw [z']
      exact ⟨_, gpm, fun xs e => nomatch e⟩
    have mG2 := mG.up g2
    have rx0 := rx N mG fun _ z => .inl z
    obtain ⟨t, xs, et, ht, rxs⟩ := rx0
    obtain ⟨u1, u2, exs, ru1, ru2⟩ := rxs.two_of
    subst exs et
    obtain ⟨t2, ys, et2, ht2, rys⟩ := ru2
    obtain ⟨y1, y2, eys, ry1, ry2⟩ := rys.two_of
    subst eys et2
    refine ⟨t, _, rfl, SqT.of (msk_same _ _ ht), rfl, _, _, rfl, _, [], rfl, ⟨t2, _, rfl, SqT.of (msk_same _ _ ht2), rfl, y1, _, rfl, y2, _, rfl, rfl, ?_⟩⟩
    refine ⟨rfl, ?_⟩
    show sDPut _ _ _ _ (Sm v pm (some u1) (some y1) (some y2) o5 o6 o7 o8 o9) G''
    have lr : k.rows.length ≤ 2 := nk.few
    have rows : EvD N (tCB (rDictP K) (tCons (tLockU (tLc (iItems (tVar 4)) (gTup K 2 (gCons (gName 5) (gCons (gTup K 4 (gCons (gName 6) (gCons (gName 7) (gCons (gName 8) (gCons (gName 9) gNil))))) gNil))) tYes (tTup (tCons (tVar 5) (tCons (tMake T.C_Row (SpI T.C_Row (R_row K) nox) [] E0 (tCons (tVar 6) (tCons (tVar 7) (tCons (tVar 8) (tCons (tVar 9) tNil))))) tNil))) [5, 6, 7, 8, 9])) tNil)) (Sm v pm (some u1) (some y1) (some y2) o5 o6 o7 o8 o9) G'' (.dK (rowsI T k.rows)) := by
      refine Ev.to (ev_dictP (kvs := rowsI T k.rows) mG2 (ea_one (ev_lock (c := kcK) (kvs := rowsT k.rows) mG2 ry2 fun Hl b od ws ml fl ea nmb hb rp => ?_))) ?_
      · refine Ev.to (ev_lcm (ds := (rowsT k.rows).map pairD) (fun d => match d with
          | .tup [.str l, .tup [lo, hi, mu, no]] => .tup [.str l, rowD T lo hi (normN mu 16) (normN no 16)]
          | _ => .non) ml (ia_items (a := b) (od := od) (ws := ws) (fun H1 e1 Q q => ⟨_, rfl, q _ H1 (Same.refl H1) ea⟩) hb rp) (by unfold rowsT; rw [List.length_map, List.length_map]; omega) fun N2 H3 d x mN eN hd rd => ?_) ?_
        · obtain ⟨p, hp, rfl⟩ := List.mem_map.mp hd
          obtain ⟨q, hq, rfl⟩ := List.mem_map.mp hp
          obtain ⟨ra1, ra2, ra3, _⟩ := NeatR.nmu neat (nk.row q hq).mu
          obtain ⟨rb1, rb2, rb3, _⟩ := NeatR.nmu neat (nk.row q hq).no
          obtain ⟨t, xs, et, ht, rxs⟩ := rd
          obtain ⟨x1, x2, exs, rx1, rx2⟩ := rxs.two_of
          subst exs et
          obtain ⟨t2, zs, et2, ht2, rzs⟩ := rx2
          obtain ⟨z1, zs1, ez, rz1, rzs⟩ := rzs
          obtain ⟨z2, z3, z4, ez2, rz2, rz3, rz4⟩ := Reps.three_of (show Reps (msk N2 H3) [hiD q.2.hi, namesD q.2.mu, namesD q.2.no] zs1 from rzs)
          subst ez ez2 et2
          refine elt_all (s2 := Sm v pm (some u1) (some y1) (some y2) (some x1) (some z1) (some z2) (some z3) (some z4)) (fun Q q => ⟨t, _, rfl, SqT.of (msk_same _ _ ht), rfl, x1, _, rfl, _, [], rfl, ⟨t2, _, rfl, SqT.of (msk_same _ _ ht2), rfl, z1, _, rfl, z2, _, rfl, z3, _, rfl, z4, _, rfl, rfl, rfl, q⟩⟩) rfl ?_
          exact ev_tup mN (ea_cons (ev_var rfl rx1) (ea_one (ev_make (C := T.C_Row) mN (ea_cons (ev_var rfl rz1) (ea_cons (ev_var rfl rz2) (ea_cons (ev_var rfl rz3) (ea_one (ev_var rfl rz4))))) ⟨_, _, _, _, rfl, .inl (fi_names (fun x hx => (ra1 x hx).2) (by omega)), .inl (fi_names (fun x hx => (rb1 x hx).2) (by omega)), rfl⟩))) (by simp)
        · unfold rowsT rowsI
          rw [List.map_map, List.map_map, List.map_map]
          congr 1
          refine List.map_congr_left fun q hq => ?_
          obtain ⟨_, _, _, ra4⟩ := NeatR.nmu neat (nk.row q hq).mu
          obtain ⟨_, _, _, rb4⟩ := NeatR.nmu neat (nk.row q hq).no
          show D.tup [.str q.1, rowD T (.int q.2.lo) (hiD q.2.hi) (normN (namesD q.2.mu) 16) (normN (namesD q.2.no) 16)] = .tup [.str q.1, rowI T q.2]
          rw [normN_id ra4, normN_id rb4] <;> rfl
      · rw [foldP_nodup]
        unfold rowsI
        rw [keys_inr k.rows (rowI T)]
        exact nd_inr nk.nd
    refine st_dputM (M := N) (p := pm) (k := .inr nm) (kvs := kindsI T (ks.take i)) (d := kindI T k) (.inr rfl) (fun H1 e1 Q q => ⟨_, rfl, q⟩) (Ev.to (ev_make (C := T.C_Kind) mG2 (ea_cons (ev_var rfl (ry1.up (msk_mono (Same.refl _)))) (ea_one rows)) ⟨_, _, rfl, .inl (neat_cs nk), neat_okR nk, rfl⟩) ?_) (ev_var rfl ru1) (g2 _ _ gpm) (rpm.fx (Fx.of (msk_mono g2))) (by unfold kindsI; rw [List.length_map, List.length_take]; omega) ?_
    · have ncs : normN (namesD k.cs) 6 = namesD k.cs := normN_id (by
        rcases nk.cs with e | e | e <;> rw [e]
        · exact gr_le
        · exact List.pairwise_singleton _ _
        · exact List.pairwise_singleton _ _)
      rw [ncs, nk.sort] <;> rfl
    · rintro H5 ws2 e5 h5 r5
      refine ⟨g1, (eG.same g2).trans (SameE.x e5 rfl), ws2, _, _, _, _, _, _, _, _, rfl, h5, ?_⟩
      rw [pD_new _ (by
        unfold kindsI
        rw [List.map_map]
        intro z
        obtain ⟨y, hy, e⟩ := List.mem_map.mp z
        have e' : (Sum.inr y.1 : Key) = .inr nm := e
        refine not_before neat.nd (i := i) (x := nm) (by rw [List.getElem?_map, hk0] <;> rfl) ?_
        rw [← List.map_take]
        exact List.mem_map.mpr ⟨y, hy, Sum.inr.inj e'⟩)] at r5
      rw [take_get hk0]
      unfold kindsI at r5 ⊢
      rw [List.map_append]
      exact r5
  · rintro G1 s' G' g1 ⟨_, eG, wm, o2, o3, o4, o5, o6, o7, o8, o9, rfl, gpm, rpm⟩
    have eN : SameE N Hl G' := (SameE.of g1).trans (eG.sub fun c z => .inr z)
    refine el.nx _ G' eN ?_
    rw [List.length_map] at rpm
    unfold kindsT at rpm
    rw [List.length_map, List.take_length] at rpm
    have bpm : back G' pm = some (.dK wm) := by rw [ul.off G' pm (.inr rfl)]; exact gpm
    have rpb := rpm.fx (ul.fx G' eN)
    have eB : SameE (fun c => c = pm) A0 (back G') := fun c o n h => by
      rcases Classical.em (M c) with z | z
      · rw [ul.off G' c (.inl z)]
        exact eG c o n (g1 _ _ (by rw [offs c (.inl z)]; exact h))
      · exact ul.same G' eN c o (fun y => y.elim z n) h
    generalize back G' = B0 at bpm rpb eB
    have eH : Same H B0 := fun c o h => eB c o (fun z => by rw [z, hpm] at h; cases h) (eA c o h)
    have mB : Mok M B0 := m.up eH
    have rk : Rep (msk M B0) (.dK (kindsI T ks)) (.ref pm) := ⟨pm, wm, rfl, .inl (by rw [msk_at nM]; exact bpm), repK_iff.mpr (rpb.fx (Fx.of (msk_less fun c z => .inl z)))⟩
    exact st_ret (M := M) (ev_makeL mB (ea_cons (ev_tup (ds := [("r" : Str), "g"].map .str) mB (ea_cons ev_str (ea_one ev_str)) (by simp)) (ea_cons (ev_tup (ds := [("a" : Str), "b"].map .str) mB (ea_cons ev_str (ea_one ev_str)) (by simp)) (ea_one (ev_var rfl rk)))) (neat_schema neat hf (lc := [("r" : Str), "g"]) (ll := [("a" : Str), "b"]) (by decide +kernel) (by decide +kernel) ⟨by decide +kernel, rfl, by simp⟩ ⟨by decide +kernel, rfl⟩ sort_rg (sortS_id ab_le) fun x hx => hx)) fun y H5 e5 ry => q y H5 (eH.trans e5) ry
end

end K02
namespace K02
open PySem PySem.Spec PyProof.Rows L2 Ak
/-! ### what is refused -/
section
variable {P : Program} {w : World} {K : PySem.W.Frag} {mg : Str -> Option Value} {base : Heap}
def faultS1 (T : Tx K mg) : SuiteT := fun a cls d => tRet (tTup (tCons (tXf a cls d T.C_BadSchema "kind" (tVar 1)) (tCons (tXf a cls d T.C_BadSchema "part" (tVar 1)) tNil)))
def faultS2 (T : Tx K mg) : SuiteT := fun a cls d => tRet (tXf a cls d T.C_BadName "name" (tVar 1))
def faultL (T : Tx K mg) : List (Value × SuiteT) := [(.ref T.C_BadSchema, faultS1 T), (.ref T.C_BadName, faultS2 T)]
/-- the promise of f in the frame Z, within its try -/
def FP (Z : Cx) (f : Addr) (σ : L2.St) (H : Hp) (Q : VK) (E : XK) : Prop := forall (pn : List (Addr × Obj)) (xe : Value -> Shared -> Prop), Prom (L2.CX Z.prog Z.w) (Z.tr pn xe) f [] σ H Q E
def faultT (Z : Cx) : WX -> TS := fun W D σ H => exists f F ex E, σ[0]? = some (some (.ref f)) ∧ H f = some (LamO f F ex) ∧ (forall cls d H', E cls d H' -> W cls d σ H') ∧ FP Z f σ H (fun _ H' => D.nx σ H') E
theorem faultB {Z : Cx} {W : WX} {pn : List (Addr × Obj)} {xe : Value -> Shared -> Prop} {p p2 p3 : Pos} (tk : Takes (Z.tr pn xe) W) (hN : Z.N[0]? = some ("deed" : Str)) (hv : Vis Z.env.scope ("deed" : Str)) (hs : swapsWith (.Call (.Name "deed" p) [] [] p2) none p3.line Z.env = pure false) : PSs (Z.tr pn xe) [.Expr (.Call (.Name "deed" p) [] [] p2) p3] (faultT Z W) := by
  refine ⟨fun pins s σ H D I h => ?_⟩
  obtain ⟨f, F, ex, E, hs0, hf, hW, fp⟩ := h
  exact (pss_one (ps_expr (pe_act0 (X := Z.tr pn xe) (CX := L2.CX Z.prog Z.w) hN hv) hs)).run pins s σ H D I ⟨f, F, ex, hs0, hf, hf, E, passes_at tk hW, fp pn xe⟩
/-- what the caller wishes of the exceptions -/
def FaultQ (T : Tx K mg) (Q : VK) : XK := fun cls d H => exists dd fs, d = some dd ∧ H dd = some (.xd fs) ∧
  ((cls = .ref T.C_BadSchema ∧ exists x y, fs.lookup ("kind" : Str) = some x ∧ fs.lookup ("part" : Str) = some y ∧ forall p, H p = none -> Q (.ref p) (upd H p (.tup [x, y]))) ∨
   (cls = .ref T.C_BadName ∧ exists x, fs.lookup ("name" : Str) = some x ∧ Q x H))
theorem faultW (T : Tx K mg) {Q : VK} {D : Ends} {v : V} {cls : Value} {d : Option Addr} {H : Hp} (hD : D.rt = Q) (h : FaultQ T Q cls d H) : wAll K (fun _ _ _ _ => False) D 1 (faultL T) cls d [some v, none] H := by
  obtain ⟨dd, fs, ed, ea, h⟩ := h
  subst ed hD
  rcases h with ⟨e, x, y, l1, l2, q⟩ | ⟨e, x, l1, q⟩
  · subst e
    exact ⟨true, T.exm_BadSchema_BadSchema, fun _ a na => ⟨_, rfl, rfl, rfl, dd, fs, x, rfl, ea, l1, _, rfl, rfl, rfl, dd, fs, y, rfl, ea, l2, by rw [sizeLine_eq]; simp, fun p hp => q p hp⟩, fun z => nomatch z⟩
  · subst e
    exact ⟨false, T.exm_BadName_BadSchema, (fun z => nomatch z), fun _ => ⟨true, T.exm_BadName_BadName, fun _ a na => ⟨_, rfl, rfl, rfl, dd, fs, x, rfl, ea, l1, q⟩, fun z => nomatch z⟩⟩
/-- THE BODY, told of the very state -/
theorem fault_ok (T : Tx K mg) {A : Around} {outer : List Env} {s : Shared} {H : Hp} {cdv : Value} {f : Addr} {F : NdefX.NF} {ex : Expr} {Q : VK} (hf : H f = some (LamO f F ex))
    (h : FP (cxOf (L2.CX P w) P w K mg base ["deed", "fault"] "_law_fault" (defScope s__law_fault) T.f__law_fault cdv A outer s H E0) f (L2.start ["deed", "fault"] [.ref f]) H (fun _ H' => Q (.str "none") H') (FaultQ T Q)) :
    exists t, PSs (cxOf (L2.CX P w) P w K mg base ["deed", "fault"] "_law_fault" (defScope s__law_fault) T.f__law_fault cdv A outer s H E0) (defBody s__law_fault) t ∧ t { nx := fun _ H' => Q .non H', rt := Q } (L2.start ["deed", "fault"] [.ref f]) H := by
  refine ⟨_, (pss_cons (ps_try_all (i := 1) (l := faultL T) (tb := faultT (cxOf (L2.CX P w) P w K mg base ["deed", "fault"] "_law_fault" (defScope s__law_fault) T.f__law_fault cdv A outer s H E0)) rfl rfl sc__law_fault.nd rfl rfl LamX.takes0 (fun W pn xe tk _ => faultB tk rfl (.inl rfl) rfl)
        (Clauses.cons ⟨rfl, rfl, .inl T.g_BadSchema⟩ (fun _ _ _ _ _ hz hf => by exact (pss_one (ps_ret (pe_tup (pa_cons (pe_xf T.xf_BadSchema T.na_BadSchema_kind hz hf (pv 1)) (pa_cons (pe_xf T.xf_BadSchema T.na_BadSchema_part hz hf (pv 1)) pa_nil))))))
        (Clauses.cons ⟨rfl, rfl, .inl T.g_BadName⟩ (fun _ _ _ _ _ hz hf => by exact (pss_one (ps_ret (pe_xf T.xf_BadName T.na_BadName_name hz hf (pv 1)))))
        Clauses.nil)))
      (pss_one (ps_ret pe_str))), ?_⟩
  exact ⟨f, F, ex, FaultQ T Q, rfl, hf, fun cls d H' q => faultW T rfl q, h⟩
end

end K02
namespace K02
open PySem PySem.Spec PyProof.Rows L2 Ak
/-! ### a lambda without parameters is handed to _law_fault -/
open NdefX (NF envF ncx NScope CellsAt Caps startF slotAt nscope_by cells_of)
open LamX (CodeO TabS Tabs ExtN TabB)
abbrev NL : List Str := ["script", "draw", "kinds", "strata", "schema", "names", "name", "colours", "rows", "mine", "label", "low", "high", "musts", "nots", "row", "number", "again", "told", "parts", "one", "odd", "wrong", "part", "ring", "straight", "labels", "some", "due"]
section
variable {P : Program} {w : World} {K : PySem.W.Frag} {mg : Str -> Option Value} {base : Heap}
abbrev LC (P : Program) (w : World) (base : Heap) (T : Tx K mg) (cdv : Value) (A : Around) (outer : List Env) (s : Shared) (H : Hp) (E : XK) : Cx := cxOf (L2.CX P w) P w K mg base NL "law" (defScope s_law) T.f_law cdv A outer s H E
/-- what the call wishes of the lambda: te, its body's reading; js, where its captured names stand -/
def toldW (T : Tx K mg) (X : Cx) (params : Arguments) (scope : Scope) (ex : Expr) (N : List Str) (js : List Nat) (te : XK -> TE) : L2.St -> V -> Hp -> VK -> Prop := fun σ v H Q => exists f c, v = .ref f ∧ H f = some (LamO f (mkL X params scope c) ex) ∧ H c = some (CodeO c (X.env.qual ++ "<lambda>")) ∧
  te (FaultQ T Q) (startF N [] (js.map (slotAt σ))) H fun _ H' => Q (.str "none") H'
theorem fault_told (T : Tx K mg) {X : Cx} {params : Arguments} {ex : Expr} {scope : Scope} {N fr : List Str} {js : List Nat} {te : XK -> TE} (hP : X.prog = P) (hw : X.w = w) (hK : X.K = K) (hg : X.mg = mg) (hb0 : X.base = base) (S : NScope N [] fr scope)
    (hb : forall (q : Str) (cl : List (Str × Addr)) (pm cv ctv : Value), bindArgs (PySem.W.kla_fn "<lambda>" q params ex scope cl pm cv ctv) ⟨[], []⟩ = pure []) (cp : X.Ok -> Caps X (cloFrom X.env.cells scope.names []) fr js)
    (body : forall (c f : Addr) (A : Around) (outer : List Env) (s : Shared) (H : Hp) (E : XK), Room 7 (A.deeper (envF (mkL X params scope c) f s.heap.objs.size)) -> PE (ncx (L2.CX P w) P w K mg base N (mkL X params scope c) f A outer s H E) ex (te E))
    (pins : List (Addr × Obj)) (σ : L2.St) (s : Shared) (H : Hp) (v : V) (Q : VK) (cdv : Value) (I : Inv X pins σ H s) (h : toldW T X params scope ex N js te σ v H Q) (hr : Room 8 (X.A.deeper (envOfC "_law_fault" (defScope s__law_fault) s.heap.objs.size T.f__law_fault cdv))) :
    exists t, PSs (cxOf (L2.CX P w) X.prog X.w X.K X.mg X.base ["deed", "fault"] "_law_fault" (defScope s__law_fault) T.f__law_fault cdv X.A X.stack s H E0) (defBody s__law_fault) t ∧ t { nx := fun _ H' => Q .non H', rt := Q } (L2.start ["deed", "fault"] [v]) H := by
  subst hP hw hK hg hb0
  obtain ⟨f, c, rfl, hf, hc, wish⟩ := h
  refine fault_ok T hf fun pn xe pins' s' us I' r => ?_
  cases r
  refine lam_run (k := 7) (F := mkL X params scope c) (ps := []) S (fun pm ctv us hl => ?_) hr I'.env0 hf hc (cells_on (cells_of I (cp I.ok)) rfl I') .nil rfl fun hr2 => ⟨te (FaultQ T Q), body c f _ _ _ _ _ hr2, wish⟩
  have e : us = [] := List.eq_nil_of_length_eq_zero hl
  subst e
  exact hb _ _ _ _ _
end
/-! ### the law's frame: what its steps keep -/
open NdefX (NF envF ncx NScope CellsAt Caps startF slotAt slotAt_of nscope_by cells_of)
open LamX (CodeO TabS Tabs ExtN TabB)
abbrev lawQ : Str := (("law" : Str) ++ (".<locals>." : Str)) ++ ("<lambda>" : Str)
section
variable {K : PySem.W.Frag} {mg : Str -> Option Value} {p a P0 : Addr} {ns : List Int} {s : L2.St} {H : Hp} {ta tb te : TE} {d e : D}
def tFault (P0 : Addr) (mk : Addr -> NF) (ex : Expr) (told : L2.St -> V -> Hp -> VK -> Prop) : TE := fun σ H Q => tCons (tLamV P0 [(P0, lawQ)] mk ex) tNil σ H fun vs H1 => exists v, vs = [v] ∧ told σ v H1 Q
theorem ef_told {mk : Addr -> NF} {ex : Expr} {told : L2.St -> V -> Hp -> VK -> Prop}
    (h : forall H1, LkX P0 H H1 -> Lw K p a P0 lawQ ns H1 -> forall (f c : Addr) (Q : VK), H1 f = some (LamO f (mk c) ex) -> H1 c = some (CodeO c (mk c).qual) -> (forall v H2, Lk H1 H2 -> Rep (msk (LM p P0) H2) d v -> Q v H2) -> told s (.ref f) H1 Q) :
    EvF K p a P0 lawQ ns (tFault P0 mk ex told) s H d := fun H1 e1 l1 Q q => ⟨l1.tabs, fun f c H2 e2 t2 _ hf hc => ⟨.ref f, rfl, h H2 (LkX.trans e1 (LkX.of e2)) (l1.ext e2 t2) f c Q hf hc fun v H3 e3 r => q v H3 (LkX.trans (LkX.of e2) (LkX.ofL e3)) ((l1.ext e2 t2).upL e3) r⟩⟩
theorem rd_self {M : MK} {neg : Bool} {d : D} (h : d.ok = true) (H1 : Hp) : RD M (rEqU neg) H1 d d (.bl (!neg)) := by
  have z := rd_eqU (neg := neg) (M := M) (H := H1) h h
  rw [eqv_self d (D.ok_pl h)] at z
  cases neg <;> exact z
end
section
variable {P : Program} {w : World} {K : PySem.W.Frag} {mg : Str -> Option Value} {base : Heap}
theorem pe_faultW (T : Tx K mg) {A : Around} {outer : List Env} {s : Shared} {H : Hp} {E : XK} {tp : Addr} (TB : TabB base mg T.c_law tp) (hr : Room 9 (A.deeper (envOfC "law" (defScope s_law) s.heap.objs.size T.f_law (.ref T.c_law)))) {params : Arguments} {ex : Expr} {scope : Scope} {lpos p pos : Pos} {N fr : List Str} {js : List Nat} {te : XK -> TE}
    (S : NScope N [] fr scope) (hb : forall (q : Str) (cl : List (Str × Addr)) (pm cv ctv : Value), bindArgs (PySem.W.kla_fn "<lambda>" q params ex scope cl pm cv ctv) ⟨[], []⟩ = pure []) (hn : NdefX.ndefB (defScope s_law) scope fr = true) (hj : js.map (fun j => NL[j]?) = fr.map some)
    (hdef : defaultsOf params (LC P w base T (.ref T.c_law) A outer s H E).env = ([], []))
    (body : forall (c f : Addr) (A' : Around) (outer' : List Env) (s' : Shared) (H' : Hp) (E' : XK), Room 7 (A'.deeper (envF (mkL (LC P w base T (.ref T.c_law) A outer s H E) params scope c) f s'.heap.objs.size)) -> PE (ncx (L2.CX P w) P w K mg base N (mkL (LC P w base T (.ref T.c_law) A outer s H E) params scope c) f A' outer' s' H' E') ex (te E'))
    (he : starEach [Expr.Lambda params ex scope lpos] (LC P w base T (.ref T.c_law) A outer s H E).env = (false, eval (.Lambda params ex scope lpos) (LC P w base T (.ref T.c_law) A outer s H E).env) :: starEach [] (LC P w base T (.ref T.c_law) A outer s H E).env := by rfl) :
    PE (LC P w base T (.ref T.c_law) A outer s H E) (.Call (.Name "_law_fault" p) [.Lambda params ex scope lpos] [] pos) (tFault tp (mkL (LC P w base T (.ref T.c_law) A outer s H E) params scope) ex (toldW T (LC P w base T (.ref T.c_law) A outer s H E) params scope ex N js te)) :=
  pe_told (k := 8) T.F__law_fault rfl T.g__law_fault T.B__law_fault sc__law_fault hr passL (pa_cons (pe_lam (T := [(tp, lawQ)]) TB rfl List.mem_cons_self (fun x hx _ => by rw [List.mem_singleton.mp hx] <;> rfl) (NdefX.ndef_free (sc := defScope s_law) (fr := fr) hn) hdef) pa_nil)
    (fun pins σ s1 H1 v Q cdv I h hr => fault_told T rfl rfl rfl rfl rfl S hb (fun ok => NdefX.Caps.made ok (NdefX.ndef_free (sc := defScope s_law) hn) (NdefX.ndef_fr (sc := defScope s_law) hn) hj) body pins σ s1 H1 v Q cdv I h hr) (by decide) he rfl
end

end K02
namespace K02
open PySem PySem.Spec PyProof.Rows L2 Ak
/-! ### the law: its last two statements -/
open NdefX (NF envF ncx NScope CellsAt Caps startF slotAt slotAt_of nscope_by cells_of)
open LamX (CodeO TabS Tabs ExtN TabB)
abbrev SL (o0 o1 o2 o3 o4 o5 o6 o7 o8 o9 o10 o11 o12 o13 o14 o15 o16 o17 o18 o19 o20 o21 o22 o23 o24 o25 o26 o27 o28 : Option V) : L2.St := [o0, o1, o2, o3, o4, o5, o6, o7, o8, o9, o10, o11, o12, o13, o14, o15, o16, o17, o18, o19, o20, o21, o22, o23, o24, o25, o26, o27, o28]
section
variable {P : Program} {w : World} {K : PySem.W.Frag} {mg : Str -> Option Value} {base : Heap} {M : MK} {H : Hp} {E : XK} {σ0 : L2.St} {to : TE} {tr : TA} {ds : List D} {Q Q' : VK}
theorem Told.key {T : Tx K mg} {c l k : D} {nm : Str} {part : D} (ok : okIn T c l k) (h : Told T c l k nm part) : exists key, part = kD key := by
  cases h with
  | colours h => exact ⟨.inr "colours", rfl⟩
  | labels h h1 => exact ⟨.inr "labels", rfl⟩
  | kinds h h1 h2 => exact ⟨.inr "kinds", rfl⟩
  | ring h h1 h2 h3 h4 h5 h6 => exact ⟨.inr "not", rfl⟩
  | @kind lc ll kvs nm part h h1 h2 h3 =>
    obtain ⟨i, kd, hi, hv, _⟩ := h3
    rcases ok.2.2 with hf | ⟨kvs2, e, okv⟩
    · rw [h2.1] at hf
      cases hf
    · rw [h2.1] at e
      cases e
      obtain ⟨nm', e'⟩ := sortKV_at hi
      have e2 : kd = (vD kvs (.inr nm')).getD .non := (Prod.ext_iff.mp e').2
      exact verdict_key (okK_vD okv (.inr nm')) (e2 ▸ hv)
/-- Schema(..) within the lambda, refused -/
theorem wish_schema (T : Tx K mg) {c l k : D} {nm : Str} {part : D} (m : Mok M H) (h : EvDs M tr σ0 H [c, l, k]) (ok : okIn T c l k) (td : Told T c l k nm part) (q : forall v H2, Lk H H2 -> Rep (msk M H2) (.tup [.str nm, part]) v -> Q v H2) :
    tMake T.C_Schema (SpIL T.C_Schema (R_schema T) (X_schema T)) [] (FaultQ T Q) tr σ0 H Q' := h H (Same.refl H) _ fun vs H2 e2 rs x dx hx hdx hne => by
  rw [List.append_nil]
  refine make_errL (m.up e2) rs (C' := T.C_BadSchema) (fs := badF nm part) ⟨c, l, k, nm, part, rfl, ok, td, rfl, rfl⟩ (fun dy ys H' e3 _ h3 r => ?_) hx hdx hne
  obtain ⟨key, ek⟩ := td.key ok
  subst ek
  obtain ⟨x, xs, rfl, rx, y, zs, rfl, ry, rfl⟩ := r
  have e23 : Lk H H' := (Lk.of e2).trans e3
  have m' : Mok M H' := fun b z => by
    obtain ⟨o, g, nt⟩ := m b z
    rcases e23 b o g with g' | ⟨_, od, g'⟩
    · exact ⟨o, g', nt⟩
    · exact ⟨_, g', fun xs e => nomatch e⟩
  exact ⟨dy, _, rfl, h3, .inl ⟨rfl, y, x, rfl, rfl, fun p hp => q _ _ (e23.trans (Lk.of (same_new hp))) ⟨p, [y, x], rfl, msk_new m' hp, y, [x], rfl, ry, x, [], rfl, rep_key rx, rfl⟩⟩⟩
theorem wish_meth {C C' : Addr} {nm : Str} {R : List D -> D -> Prop} {X : List D -> Addr -> List (Str × D) -> Prop} {fs fx : List (Str × D)} (m : Mok M H) (ho : EvD M to σ0 H (.ins C fs)) (hl : fs.lookup nm = none) (h : EvDs M tr σ0 H ds) (hX : X (.ins C fs :: ds) C' fx)
    (q : forall dx ws H', Same H H' -> H' dx = some (.xd ws) -> RepF (msk M H') fx ws -> E (.ref C') (some dx) H') : tMeth C nm (SpE R X) [] E to tr σ0 H Q := ho H (Same.refl H) _ fun v H2 e2 r => by
  obtain ⟨a, dx, vs, ev, ha, rf⟩ := id r
  refine ⟨a, dx, vs, ev, msk_same _ _ ha, rf.none hl, h H2 e2 _ fun ws H3 e3 rs => ?_⟩
  exact ⟨M, .ins C fs :: ds, (m.up e2).up e3, ⟨v, ws, by rw [List.append_nil], r.up (msk_mono e3), rs⟩, .inr ⟨C', fx, hX, fun dx ws H' e4 _ h4 r4 => q dx ws H' ((e2.trans e3).trans e4) h4 r4⟩⟩
theorem wish_check (T : Tx K mg) {c l st : D} {kvs : List (Key × D)} {es : List D} {e : Str} (m : Mok M H) (ho : EvD M to σ0 H (sD T c l (.dK kvs) st)) (h : EvDs M tr σ0 H [.lst es]) (hf : forall e, e ∈ es -> e.fi = true) (fd : (D.lst es).fi = true) (out : FirstOut kvs es (.str e)) (q : forall v H2, Lk H H2 -> Rep (msk M H2) (.str e) v -> Q v H2) :
    tMeth T.C_Schema "check" (SpE (R_check T) (X_check T)) [] (FaultQ T Q) to tr σ0 H Q' := wish_meth (C' := T.C_BadName) (fx := [("name", .str e)]) m ho rfl h ⟨c, l, kvs, st, es, .lst es, .str e, rfl, rfl, hf, fd, out, rfl, rfl⟩ fun dx ws H' e' h' r => by
  obtain ⟨x, xs, rfl, rx, rfl⟩ := r
  exact ⟨dx, _, rfl, h', .inr ⟨rfl, x, rfl, q x H' (Lk.of e') rx⟩⟩
/-- k0 .. k16 -/
def many17 : List (Key × D) := foldP ((List.range 17).map fun (i : Nat) => ((.inr (("k" : Str) ++ (toString ((i : Nat) : Int))) : Key), D.non))
theorem len17 : forall j : Nat, j ∈ List.range 17 -> ((toString ((j : Nat) : Int) : Str)).length ≤ 5 := by decide +kernel
theorem many17_len : many17.length = 17 := by decide +kernel
theorem many17_nd : (many17.map (·.1)).Nodup := by decide +kernel
theorem many17_fi : (many17.all fun p => (kD p.1).fi && (match p.2 with
  | .non => true
  | _ => false)) = true := by decide +kernel
theorem many17_ok (T : Tx K mg) : okKs T many17 := by
  refine ⟨by rw [many17_len]; decide, fun p hp => ?_, many17_nd, fun p hp => ?_⟩
  · have := List.all_eq_true.mp many17_fi p hp
    rw [Bool.and_eq_true] at this
    exact this.1
  · have := List.all_eq_true.mp many17_fi p hp
    rw [Bool.and_eq_true] at this
    obtain ⟨k, d⟩ := p
    cases d with
    | non => exact .inl rfl
    | _ => cases this.2
theorem toldK (T : Tx K mg) {c l k : D} {lc ll : List Str} (g0 : G0 c lc) (g1 : G1 l ll) (h : forall kvs, k = .dK kvs -> ¬ (kvs.length ≤ 16 ∧ labsB kvs = true)) : Told T c l k "" (.str "kinds") := .kinds g0 g1 fun kvs ⟨e, h1, h2⟩ => h kvs e ⟨h1, h2⟩
theorem lkx_kp {p a P0 : Addr} {ns : List Int} {H H' : Hp} (l : Lw K p a P0 lawQ ns H) (e : LkX P0 H H') : Kp (LM p P0) H H' := LkX.kp e (.inr rfl) fun o u h => by
  obtain ⟨ps, g, _⟩ := l.tab
  rw [g] at h
  cases h
theorem upK {p P0 : Addr} {d : D} {v : V} {H H' : Hp} (e : LkX P0 H H') (r : Rep (msk (LM p P0) H) d v) : Rep (msk (LM p P0) H') d v := Rep.fx (LkX.fx e (.inr rfl)) _ r
theorem law6 (T : Tx K mg) {A : Around} {outer : List Env} {s : Shared} {H : Hp} {E : XK} {tp : Addr} (TB : TabB base mg T.c_law tp) (hr : Room 11 (A.deeper (envOfC "law" (defScope s_law) s.heap.objs.size T.f_law (.ref T.c_law)))) {Q : VK} (hQ : forall H2, Q (.bl true) H2) :
    exists t, PSs (LC P w base T (.ref T.c_law) A outer s H E) (List.drop 22 (defBody s_law)) t ∧ forall (p a : Addr) (ns : List Int) (ks : Kinds) (f : Str -> Int) (vs vn : V) (o0 o2 o3 o6 o7 o8 o9 o10 o11 o12 o13 o14 o15 o16 o17 o18 o19 o20 o21 o22 o23 o24 o25 o26 o27 o28 : Option V) (H1 : Hp),
      Lw K p a tp lawQ ns H1 -> ks ≠ [] -> Neat ks -> Rep (msk (LM p tp) H1) (schD T ([("g" : Str), "r"] : List Str) ([("a" : Str), "b"] : List Str) ks f) vs -> Rep (msk (LM p tp) H1) (.lst ((ks.map (·.1)).map .str)) vn ->
      t { nx := fun _ H' => Q .non H', rt := Q } (SL o0 (some (.ref p)) o2 o3 (some vs) (some vn) o6 o7 o8 o9 o10 o11 o12 o13 o14 o15 o16 o17 o18 o19 o20 o21 o22 o23 o24 o25 o26 o27 o28) H1 := by
  refine ⟨_, (pss_cons (ps_if (pt_cmpR (op_neU hr.units) (pe_faultW T TB (hr.mono (by decide)) (N := ["at"]) (fr := []) (js := []) (te := fun E => (tMake T.C_Schema (SpIL T.C_Schema (R_schema T) (X_schema T)) [] E (tCons (tTup (tCons (tC (.str "r")) tNil)) (tCons (tTup tNil) (tCons (tCB (rDictP K) (tCons (tLc (iRng1 (tCons (tC (.int 17)) tNil)) (gName 0) tYes (tTup (tCons (tOp (rAddU K) (tC (.str "k")) (tCB (rStr) (tCons (tVar 0) tNil))) (tCons (tC .non) tNil))) [0]) tNil)) tNil))))) (NdefX.nscope_by (by decide +kernel)) (fun _ _ _ _ _ => rfl) (by decide +kernel) rfl rfl (fun c f A outer s H E hr => by exact (pe_make T.mk_Schema (ok_Schema_init T) (hr.mono (by decide)) rfl T.g_Schema T.B_Schema_init .nil (passes_call (takes_of rfl rfl rfl rfl) (fun _ _ _ _ h => h)) (pa_cons (pe_tup (pa_cons pe_str pa_nil)) (pa_cons (pe_tup pa_nil) (pa_cons (pe_callTy (call_dictP rfl) rfl T.n_dict (by decide +kernel) (by exact (pa_cons (pe_lc (own := [("at", 0)]) (g := (gName 0)) (tt := tYes) (te := (tTup (tCons (tOp (rAddU K) (tC (.str "k")) (tCB (rStr) (tCons (tVar 0) tNil))) (tCons (tC .non) tNil)))) rfl (show (["at"] : List Str).Nodup by decide) (pi_range1 rfl T.n_range (pa_cons pe_int pa_nil)) (blkOk_by (own := [("at", 0)]) (N := ["at"]) (by rfl)) (fun _ _ _ _ _ => by exact (pg_name (i := 0) (show (["at"] : List Str).Nodup by decide) rfl (.inl rfl))) (fun _ _ _ _ _ => by exact pts_nil) (fun _ _ _ _ _ => by exact (pe_tup (pa_cons (pe_op op_addU pe_str (pe_callTy call_strI rfl T.n_str (by decide +kernel) (by exact (pa_cons (pv 0) pa_nil)))) (pa_cons pe_non pa_nil))))) pa_nil))) pa_nil)))))) (pe_tup (pa_cons pe_str (pa_cons pe_str pa_nil))) (nomark _)) (pss_one (ps_ret pe_bl)) pss_nil)
      (pss_one (ps_ret (pe_cmpR (op_eqU hr.units) (pe_faultW T TB (hr.mono (by decide)) (N := ["schema", "names"]) (fr := ["schema", "names"]) (js := [4, 5]) (te := fun E => (tMeth T.C_Schema "check" (SpE (R_check T) (X_check T)) [] E (tVar 0) (tCons (tLst (tCons (tOp (rIx K) (tVar 1) (tC (.int 0))) (tCons (tC (.str "zz")) (tCons (tC (.int 5)) tNil)))) tNil))) (NdefX.nscope_by (by decide +kernel)) (fun _ _ _ _ _ => rfl) (by decide +kernel) rfl rfl (fun c f A outer s H E hr => by exact (pe_meth (pv 0) T.cls_Schema T.m_Schema_check (ok_Schema_check T) (hr.mono (by decide)) T.B_Schema_check .nil (passes_call (takes_of rfl rfl rfl rfl) (fun _ _ _ _ h => h)) (pa_cons (pe_lst (pa_cons (pe_ix ix_seq (pv 1) pe_int (fun _ _ => rfl)) (pa_cons pe_str (pa_cons pe_int pa_nil)))) pa_nil)))) pe_str (nomark _))))), ?_⟩
  intro p a ns ks f vs vn o0 o2 o3 o6 o7 o8 o9 o10 o11 o12 o13 o14 o15 o16 o17 o18 o19 o20 o21 o22 o23 o24 o25 o26 o27 o28 H1 l hn neat rs rn
  refine st_seq (ef_if (d := .tup [.str "", .str "kinds"]) (e := .tup [.str "", .str "kinds"]) (b := false) l (ef_told fun H9 e9 l9 f c Q hf hc q => ⟨f, c, rfl, hf, hc, ?_⟩)
      (fun H9 e9 l9 => ev_tup l9.mok (ea_cons ev_str (ea_one ev_str))) (rd_self (neg := true) (by decide)) (fun z => nomatch z) fun _ H2 e2 l2 => ?_)
  · refine wish_schema T (c := .tup [.str "r"]) (l := .tup []) (k := .dK many17) l9.mok (ea_cons (ev_tup l9.mok (ea_one ev_str)) (ea_cons (ev_tup l9.mok ea_nil) (ea_one (ev_dictP (kvs := (List.range 17).map fun (i : Nat) => ((.inr (("k" : Str) ++ (toString ((i : Nat) : Int))) : Key), D.non)) l9.mok (ea_one (Ev.to (ev_lcm (ds := rngD 0 17) (fun d => match d with
      | .int i => .tup [.str (("k" : Str) ++ (toString i)), .non]
      | _ => .non) l9.mok (ei_rng1 (j := 17) (ea_one ev_int) (by decide) (by decide)) (by rw [rngD_len]; decide) fun N H3 d x mN eN hd rd => ?_) ?_)))))) ⟨by decide, by decide, .inr ⟨_, rfl, many17_ok T⟩⟩ (toldK T (lc := ["r"]) (ll := []) ⟨by decide +kernel, rfl, by simp⟩ ⟨by decide +kernel, rfl⟩ fun kvs e h => ?_) q
    · obtain ⟨j, hj, rfl⟩ := List.mem_map.mp hd
      have ex : x = V.int (0 + (j : Int)) := rd
      subst ex
      rw [Int.zero_add]
      have hj := List.mem_range.mp hj
      have l2 : (((j : Nat) : Int)).natAbs.log2 < 1920 := by
        rw [Int.natAbs_natCast]
        exact Nat.lt_of_le_of_lt (Nat.log2_le_self j) (by omega)
      have len : (("k" : Str)).length + ((toString ((j : Nat) : Int) : Str)).length ≤ sizeLine := by
        have := len17 j (List.mem_range.mpr hj)
        have h1 : (("k" : Str)).length = 1 := by decide
        rw [h1, sizeLine_eq]
        omega
      exact elt_all (s2 := [some (V.int j)]) (fun Q q => q) rfl (ev_tup mN (ea_cons (ev_op ev_str (ev_str_int l2 (ea_one (ev_var (d := .int j) rfl rfl))) (rd_addS len)) (ea_one ev_non)) (by simp))
    · unfold rngD
      rw [List.map_map, List.map_map]
      refine congrArg D.lst (List.map_congr_left fun i hi => ?_)
      show D.tup [.str (("k" : Str) ++ (toString (0 + ((i : Nat) : Int)))), .non] = .tup [.str (("k" : Str) ++ (toString ((i : Nat) : Int))), .non]
      rw [Int.zero_add]
    · cases e
      have := many17_len
      omega
  dsimp only [tNext]
  obtain ⟨n0, r, ek⟩ : exists n0 r, ks = n0 :: r := List.exists_cons_of_ne_nil hn
  have mem0 : n0.1 ∈ ks.map (·.1) := by rw [ek]; exact List.mem_cons_self
  have kin : forall x, x ∈ ks.map (·.1) -> kindIn (kindsI T ks) (.str x) = true := fun x hx => by
    have : (.inr x : Key) ∈ (kindsI T ks).map (·.1) := by
      unfold kindsI
      rw [keys_inr ks (kindI T)]
      exact List.mem_map.mpr ⟨x, hx, rfl⟩
    obtain ⟨d, hd⟩ := vD_mem this
    show (vD (kindsI T ks) (.inr x)).isSome = true
    rw [hd] <;> rfl
  have kout : kindIn (kindsI T ks) (.str "zz") = false := by
    show (vD (kindsI T ks) (.inr "zz")).isSome = false
    cases g : vD (kindsI T ks) (.inr "zz") with
    | none => rfl
    | some d =>
      unfold vD at g
      cases g2 : (kindsI T ks).find? fun kv => decide (kv.1 = .inr "zz") with
      | none =>
        rw [g2] at g
        cases g
      | some p =>
        have h1 := List.mem_of_find?_eq_some g2
        have h2 := List.find?_some (p := fun kv : Key × D => decide (kv.1 = .inr "zz")) g2
        have h3 : p.1 = .inr "zz" := of_decide_eq_true h2
        obtain ⟨q, hq, rfl⟩ := List.mem_map.mp h1
        have h4 : q.1 = "zz" := Sum.inr.inj h3
        have h5 := neat.nm.subset (List.mem_map.mpr ⟨q, hq, rfl⟩)
        rw [h4] at h5
        exact absurd h5 (by decide +kernel)
  have f0 := (neat.mem mem0).2
  refine ef_ret (d := .str "zz") (e := .str "zz") (b := true) l2 (ef_told fun H9 e9 l9 f c Q hf hc q => ⟨f, c, rfl, hf, hc, ?_⟩) (fun H9 e9 l9 => ev_str) (rd_self (neg := false) (by decide)) hQ
  have e19 := LkX.trans e2 e9
  refine wish_check T (es := [.str n0.1, .str "zz", .int 5]) (e := "zz") l9.mok (ev_var rfl (upK e19 rs)) (ea_one (ev_lst l9.mok (ea_cons (ev_op (ev_var rfl (upK e19 rn)) ev_int (rd_ixL (i := 0) (z := .str n0.1) (by rw [ek]; exact atI_nat (j := 0) rfl))) (ea_cons ev_str (ea_one ev_int))))) (fun e he => ?_) ?_ ⟨1, rfl, kout, fun j x hj hx => ?_⟩ q
  · simp only [List.mem_cons, List.not_mem_nil, or_false] at he
    rcases he with rfl | rfl | rfl
    · exact decide_eq_true f0
    · decide
    · rfl
  · show (decide (3 ≤ 100000) && ((D.str n0.1).fi && ((D.str "zz").fi && ((D.int 5).fi && true)))) = true
    rw [show (D.str n0.1).fi = true from decide_eq_true f0]
    decide
  · have e0 : j = 0 := by omega
    subst e0
    cases hx
    exact kin _ mem0
end

end K02
namespace K02
open PySem PySem.Spec PyProof.Rows L2 Ak
/-! ### the law, statement 21 -/
open NdefX (NF envF ncx NScope CellsAt Caps startF slotAt slotAt_of nscope_by cells_of)
open LamX (CodeO TabS Tabs ExtN TabB)
section
variable {P : Program} {w : World} {K : PySem.W.Frag} {mg : Str -> Option Value} {base : Heap}
def fiveD : List (D × D × D × Str) := [(.tup [], .tup [], .dK [], "colours"), (.tup [.str "R"], .tup [], .dK [], "colours"), (.tup [.str "r"], .tup [.str "a", .str "a"], .dK [], "labels"), (.tup [.str "r"], .tup [], .dK [(.inr "K", .non)], "kinds"), (.tup [.str "r"], .tup [], .non, "kinds")]
def fiveT (q : D × D × D × Str) : D := .tup [q.1, q.2.1, q.2.2.1, .str q.2.2.2]
theorem five_told (T : Tx K mg) {q : D × D × D × Str} (h : q ∈ fiveD) : okIn T q.1 q.2.1 q.2.2.1 ∧ Told T q.1 q.2.1 q.2.2.1 "" (.str q.2.2.2) := by
  have e : okKs T [] := ⟨by decide, (fun p hp => by cases hp), List.nodup_nil, fun p hp => by cases hp⟩
  have e1 : okKs T [((.inr "K" : Key), D.non)] := ⟨by decide, (fun p hp => by rw [List.mem_singleton.mp hp]; decide), (by decide), fun p hp => by rw [List.mem_singleton.mp hp]; exact .inl rfl⟩
  have gr : G0 (.tup [.str "r"]) ["r"] := ⟨by decide +kernel, rfl, by simp⟩
  have g1 : G1 (.tup []) [] := ⟨by decide +kernel, rfl⟩
  unfold fiveD at h
  simp only [List.mem_cons, List.not_mem_nil, or_false] at h
  rcases h with rfl | rfl | rfl | rfl | rfl
  · exact ⟨⟨by decide, by decide, .inr ⟨[], rfl, e⟩⟩, .colours (.inr rfl)⟩
  · exact ⟨⟨by decide, by decide, .inr ⟨[], rfl, e⟩⟩, .colours (.inl (by decide +kernel))⟩
  · exact ⟨⟨by decide, by decide, .inr ⟨[], rfl, e⟩⟩, .labels gr (by decide +kernel)⟩
  · refine ⟨⟨by decide, by decide, .inr ⟨_, rfl, e1⟩⟩, toldK T gr g1 fun kvs ek h => ?_⟩
    cases ek
    exact absurd h.2 (by decide +kernel)
  · exact ⟨⟨by decide, by decide, .inl rfl⟩, toldK T gr g1 fun kvs ek h => nomatch ek⟩
theorem five_ok {q : D × D × D × Str} (h : q ∈ fiveD) : (D.tup [.str "", .str q.2.2.2]).ok = true := by
  unfold fiveD at h
  simp only [List.mem_cons, List.not_mem_nil, or_false] at h
  rcases h with rfl | rfl | rfl | rfl | rfl <;> decide
theorem law5 (T : Tx K mg) {A : Around} {outer : List Env} {s : Shared} {H : Hp} {E : XK} {tp : Addr} (TB : TabB base mg T.c_law tp) (hr : Room 11 (A.deeper (envOfC "law" (defScope s_law) s.heap.objs.size T.f_law (.ref T.c_law)))) {Q : VK} (hQ : forall H2, Q (.bl true) H2) :
    exists t, PSs (LC P w base T (.ref T.c_law) A outer s H E) (List.drop 21 (defBody s_law)) t ∧ forall (p a : Addr) (ns : List Int) (ks : Kinds) (f : Str -> Int) (vs vn : V) (o0 o2 o3 o6 o7 o8 o9 o10 o11 o12 o13 o14 o15 o16 o17 o18 o19 o20 o21 o22 o23 o24 o25 o26 o27 o28 : Option V) (H1 : Hp),
      Lw K p a tp lawQ ns H1 -> ks ≠ [] -> Neat ks -> Rep (msk (LM p tp) H1) (schD T ([("g" : Str), "r"] : List Str) ([("a" : Str), "b"] : List Str) ks f) vs -> Rep (msk (LM p tp) H1) (.lst ((ks.map (·.1)).map .str)) vn ->
      t { nx := fun _ H' => Q .non H', rt := Q } (SL o0 (some (.ref p)) o2 o3 (some vs) (some vn) o6 o7 o8 o9 o10 o11 o12 o13 o14 o15 o16 o17 o18 o19 o20 o21 o22 o23 o24 o25 o26 o27 o28) H1 := by
  obtain ⟨t6, h6, k6⟩ := law6 (P := P) (w := w) (base := base) (outer := outer) (H := H) (E := E) T TB hr hQ
  refine ⟨_, (pss_cons (ps_for PassesOwn.leaving rfl (pi_any (pe_tup (pa_cons (pe_tup (pa_cons (pe_tup pa_nil) (pa_cons (pe_tup pa_nil) (pa_cons pe_dnewK (pa_cons pe_str pa_nil))))) (pa_cons (pe_tup (pa_cons (pe_tup (pa_cons pe_str pa_nil)) (pa_cons (pe_tup pa_nil) (pa_cons pe_dnewK (pa_cons pe_str pa_nil))))) (pa_cons (pe_tup (pa_cons (pe_tup (pa_cons pe_str pa_nil)) (pa_cons (pe_tup (pa_cons pe_str (pa_cons pe_str pa_nil))) (pa_cons pe_dnewK (pa_cons pe_str pa_nil))))) (pa_cons (pe_tup (pa_cons (pe_tup (pa_cons pe_str pa_nil)) (pa_cons (pe_tup pa_nil) (pa_cons (pe_disp (pps_cons pe_str pe_non pps_nil) (by rfl) (by rfl) (fun z => by cases z) (by decide)) (pa_cons pe_str pa_nil))))) (pa_cons (pe_tup (pa_cons (pe_tup (pa_cons pe_str pa_nil)) (pa_cons (pe_tup pa_nil) (pa_cons pe_non (pa_cons pe_str pa_nil))))) pa_nil))))))) (pg_tup rfl (pgs_cons (pg_name (i := 7) sc_law.nd rfl (.inr rfl)) (pgs_cons (pg_name (i := 26) sc_law.nd rfl (.inr rfl)) (pgs_cons (pg_name (i := 27) sc_law.nd rfl (.inr rfl)) (pgs_cons (pg_name (i := 28) sc_law.nd rfl (.inl rfl)) pgs_nil)))))
      (pss_one (ps_if (pt_cmpR (op_neU hr.units) (pe_faultW T TB (hr.mono (by decide)) (N := ["colours", "labels", "some"]) (fr := ["colours", "labels", "some"]) (js := [7, 26, 27]) (te := fun E => (tMake T.C_Schema (SpIL T.C_Schema (R_schema T) (X_schema T)) [] E (tCons (tVar 0) (tCons (tVar 1) (tCons (tVar 2) tNil))))) (NdefX.nscope_by (by decide +kernel)) (fun _ _ _ _ _ => rfl) (by decide +kernel) rfl rfl (fun c f A outer s H E hr => by exact (pe_make T.mk_Schema (ok_Schema_init T) (hr.mono (by decide)) rfl T.g_Schema T.B_Schema_init .nil (passes_call (takes_of rfl rfl rfl rfl) (fun _ _ _ _ h => h)) (pa_cons (pv 0) (pa_cons (pv 1) (pa_cons (pv 2) pa_nil)))))) (pe_tup (pa_cons pe_str (pa_cons (pv 28) pa_nil))) (nomark _)) (pss_one (ps_ret pe_bl)) pss_nil)))
      h6), ?_⟩
  intro p a ns ks f vs vn o0 o2 o3 o6 o7 o8 o9 o10 o11 o12 o13 o14 o15 o16 o17 o18 o19 o20 o21 o22 o23 o24 o25 o26 o27 o28 H1 l hn neat rs rn
  have m1 := l.mok
  refine st_seq (st_for (M := LM p tp) (ds := fiveD.map fiveT) m1 (ia_tup (ev_tup (ds := fiveD.map fiveT) m1 (ea_cons (ev_tup m1 (ea_cons (ev_tup m1 ea_nil) (ea_cons (ev_tup m1 ea_nil) (ea_cons (ev_dnew m1) (ea_one ev_str))))) (ea_cons (ev_tup m1 (ea_cons (ev_tup m1 (ea_one ev_str)) (ea_cons (ev_tup m1 ea_nil) (ea_cons (ev_dnew m1) (ea_one ev_str)))))
      (ea_cons (ev_tup m1 (ea_cons (ev_tup m1 (ea_one ev_str)) (ea_cons (ev_tup m1 (ea_cons ev_str (ea_one ev_str))) (ea_cons (ev_dnew m1) (ea_one ev_str))))) (ea_cons (ev_tup m1 (ea_cons (ev_tup m1 (ea_one ev_str)) (ea_cons (ev_tup m1 ea_nil) (ea_cons (ev_disp (kvs := [((.inr "K" : Key), D.non)]) m1 (by decide) fun N H' mN e => evps_cons (k := .inr "K") ev_str ev_non evps_nil) (ea_one ev_str)))))
      (ea_one (ev_tup m1 (ea_cons (ev_tup m1 (ea_one ev_str)) (ea_cons (ev_tup m1 ea_nil) (ea_cons ev_non (ea_one ev_str))))))))))))
    (fun H6 i s' H' => Lw K p a tp lawQ ns H6 ∧ LkX tp H6 H' ∧ Lw K p a tp lawQ ns H' ∧ exists o7 o26 o27 o28, s' = SL o0 (some (.ref p)) o2 o3 (some vs) (some vn) o6 o7 o8 o9 o10 o11 o12 o13 o14 o15 o16 o17 o18 o19 o20 o21 o22 o23 o24 o25 o26 o27 o28)
    (fun H6 e6 => ⟨l.up e6, LkX.refl _, l.up e6, o7, o26, o27, o28, rfl⟩) (fun H6 i s' H' h => lkx_kp h.1 h.2.1) ?_ ?_)
  · rintro H6 i d x s' H' H'' e6 hi hd ⟨l6, e7, l7, p7, p26, p27, p28, rfl⟩ e8 rx
    rw [List.getElem?_map] at hd
    rw [List.length_map] at hi
    have hq : fiveD[i]? = some fiveD[i] := List.getElem?_eq_getElem hi
    generalize fiveD[i] = q at hq
    rw [hq] at hd
    have ed : d = fiveT q := (Option.some.inj hd).symm
    subst ed
    have mem := List.mem_of_getElem? hq
    have l8 := l7.up e8
    obtain ⟨t, xs, et, ht, rxs⟩ := rx (LM p tp) l7.mok fun _ z => .inl z
    obtain ⟨x1, xs1, ex1, r1, rxs⟩ := rxs
    obtain ⟨x2, x3, x4, ex2, r2, r3, r4⟩ := Reps.three_of (show Reps (msk (LM p tp) H'') [q.2.1, q.2.2.1, .str q.2.2.2] xs1 from rxs)
    subst et ex1 ex2
    refine ⟨t, _, rfl, SqT.of (msk_same _ _ ht), rfl, x1, _, rfl, x2, _, rfl, x3, _, rfl, x4, _, rfl, rfl, ?_⟩
    have told := five_told T mem
    refine ef_if (d := .tup [.str "", .str q.2.2.2]) (e := .tup [.str "", .str q.2.2.2]) (b := false) l8 (ef_told fun H9 e9 l9 f c Q hf hc qq => ⟨f, c, rfl, hf, hc, wish_schema T l9.mok (ea_cons (ev_var rfl (upK e9 r1)) (ea_cons (ev_var rfl (upK e9 r2)) (ea_one (ev_var rfl (upK e9 r3))))) told.1 told.2 qq⟩)
      (fun H9 e9 l9 => ev_tup l9.mok (ea_cons ev_str (ea_one (ev_var rfl (upK e9 r4))))) (rd_self (neg := true) (five_ok mem)) (fun z => nomatch z) fun _ H9 e9 l9 => ?_
    exact ⟨l6, LkX.trans e7 (LkX.trans (LkX.ofL (Lk.of e8)) e9), l9, _, _, _, _, rfl⟩
  · rintro H6 s' H' e6 ⟨l6, e7, l7, p7, p26, p27, p28, rfl⟩
    dsimp only
    have e17 : LkX tp H1 H' := LkX.trans (LkX.ofL (Lk.of e6)) e7
    exact k6 p a ns ks f vs vn _ _ _ _ _ _ _ _ _ _ _ _ _ _ _ _ _ _ _ _ _ _ _ _ _ _ H' l7 hn neat (upK e17 rs) (upK e17 rn)
end

end K02
namespace K02
open PySem PySem.Spec PyProof.Rows L2 Ak
/-! ### the law, statements 19, 20 -/
open NdefX (NF envF ncx NScope CellsAt Caps startF slotAt slotAt_of nscope_by cells_of)
open LamX (CodeO TabS Tabs ExtN TabB)
def kind1 (mu no : List Str) : KindI := ⟨["r"], [("a", ⟨0, none, mu, no⟩)]⟩
section
variable {P : Program} {w : World} {K : PySem.W.Frag} {mg : Str -> Option Value} {base : Heap} {M : MK} {s : L2.St} {H : Hp} {te tr : TE}
theorem et_row (T : Tx K mg) (G : Hp) : Reps G [.oth (.ref T.e_Row_init_1)] [.ref T.e_Row_init_1] := ⟨_, _, rfl, rfl, rfl⟩
theorem ev_row1 (T : Tx K mg) {l : List Str} (m : Mok M H) (h : EvD M te s H (namesD l)) (hs : l.Pairwise fun a b => leS a b = true) (hf : (namesD l).fi = true) : EvD M (tMake T.C_Row (SpI T.C_Row (R_row K) nox) [.ref T.e_Row_init_1] E0 (tCons (tC (.int 0)) (tCons (tC .non) (tCons te tNil)))) s H (rowI T ⟨0, none, l, []⟩) := by
  refine Ev.to (ev_makeD (C := T.C_Row) (dds := [.oth (.ref T.e_Row_init_1)]) m (et_row T) (ea_cons ev_int (ea_cons ev_non (ea_one h))) ⟨_, _, _, _, rfl, .inl hf, .inr ⟨_, rfl, T.E_Row_init_1⟩, rfl⟩) ?_
  rw [normN_id hs] <;> rfl
theorem ev_row2 (T : Tx K mg) {l1 l2 : List Str} (m : Mok M H) (h1 : EvD M te s H (namesD l1)) (h2 : EvD M tr s H (namesD l2)) (hs1 : l1.Pairwise fun a b => leS a b = true) (hs2 : l2.Pairwise fun a b => leS a b = true) (hf1 : (namesD l1).fi = true) (hf2 : (namesD l2).fi = true) : EvD M (tMake T.C_Row (SpI T.C_Row (R_row K) nox) [] E0 (tCons (tC (.int 0)) (tCons (tC .non) (tCons te (tCons tr tNil))))) s H (rowI T ⟨0, none, l1, l2⟩) := by
  refine Ev.to (ev_make (C := T.C_Row) m (ea_cons ev_int (ea_cons ev_non (ea_cons h1 (ea_one h2)))) ⟨_, _, _, _, rfl, .inl hf1, .inl hf2, rfl⟩) ?_
  rw [normN_id hs1, normN_id hs2] <;> rfl
theorem okR1 (T : Tx K mg) (r : RowI) : okR (.dK (rowsI T [("a", r)])) := .inr ⟨_, rfl, (show (1 : Nat) ≤ 60 by decide), (fun p hp => by rw [List.mem_singleton.mp (show p ∈ [_] from hp)]; exact (show (D.str "a").fi = true by decide)), (show [(Sum.inr "a" : Key)].Nodup by decide)⟩
theorem norm1 (T : Tx K mg) (mu no : List Str) : kindF (normN (namesD ["r"]) 6) (normR (.dK (rowsI T [("a", ⟨0, none, mu, no⟩)]))) = kindF (namesD ["r"]) (.dK (rowsI T [("a", ⟨0, none, mu, no⟩)])) := by
  rw [normN_id (List.pairwise_singleton _ _)]
  show kindF _ (if labsB (rowsI T [("a", ⟨0, none, mu, no⟩)]) = true then D.dK (sortKV (rowsI T [("a", ⟨0, none, mu, no⟩)])) else .dK (rowsI T [("a", ⟨0, none, mu, no⟩)])) = _
  rw [show sortKV (rowsI T [("a", ⟨0, none, mu, no⟩)]) = rowsI T [("a", ⟨0, none, mu, no⟩)] from sortKV_id (f := rowI T) (l := [(("a" : Str), (⟨0, none, mu, no⟩ : RowI))]) (List.pairwise_singleton _ _) (show [("a" : Str)].Nodup by decide)]
  split <;> rfl
theorem ev_kind1 (T : Tx K mg) {mu no : List Str} (m : Mok M H) (h : forall (N : MK) H', Mok N H' -> Same (msk M H) (msk N H') -> EvD N te s H' (rowI T ⟨0, none, mu, no⟩)) : EvD M (tMake T.C_Kind (SpI T.C_Kind (R_kind K) nox) [] E0 (tCons (tTup (tCons (tC (.str "r")) tNil)) (tCons (tDisp [(tC (.str "a"), te)]) tNil))) s H (kindI T (kind1 mu no)) := by
  refine Ev.to (ev_make (C := T.C_Kind) m (ea_cons (ev_tup (ds := [.str "r"]) m (ea_one ev_str)) (ea_one (ev_disp (kvs := rowsI T [("a", ⟨0, none, mu, no⟩)]) m (show (1 : Nat) ≤ 15 by decide) fun N H' mN e => evps_cons (k := .inr "a") ev_str (h N H' mN e) evps_nil))) ⟨_, _, rfl, .inl (by decide), okR1 T _, rfl⟩) ?_
  show D.ins T.C_Kind (kindF (normN (namesD ["r"]) 6) (normR (.dK (rowsI T [("a", ⟨0, none, mu, no⟩)])))) = _
  rw [norm1] <;> rfl
def ks4 : Kinds := [("p", kind1 ["q"] []), ("q", kind1 [] ["s"]), ("s", kind1 ["s"] []), ("t", kind1 [] ["p"])]
def f4 : Str -> Int := fun x => if x = "p" then 1 else if x = "q" then 1 else if x = "t" then 2 else 0
theorem ks4_sol : Sol (ks4.map (·.1)) ks4.mu ks4.no f4 := by
  unfold Sol
  decide +kernel
theorem ks4_least : Least (ks4.map (·.1)) ks4.mu ks4.no f4 := by
  refine ⟨ks4_sol, fun st hs n hn => ?_⟩
  have h1 := hs "p" (by decide)
  have h2 := hs "q" (by decide)
  have h3 := hs "s" (by decide)
  have h4 := hs "t" (by decide)
  have a1 := h1.2.1 "q" (by decide +kernel)
  have a2 := h2.2.2 "s" (by decide +kernel)
  have a4 := h4.2.2 "p" (by decide +kernel)
  have a3 := h3.1
  have e : n = "p" ∨ n = "q" ∨ n = "s" ∨ n = "t" := by
    have z : n ∈ (["p", "q", "s", "t"] : List Str) := hn
    simpa using z
  rcases e with rfl | rfl | rfl | rfl
  · have z : f4 "p" = 1 := by decide +kernel
    omega
  · have z : f4 "q" = 1 := by decide +kernel
    omega
  · have z : f4 "s" = 0 := by decide +kernel
    omega
  · have z : f4 "t" = 2 := by decide +kernel
    omega
end
section
variable {K : PySem.W.Frag} {mg : Str -> Option Value}
/-- kinds with one row each, over r and a -/
structure One (ks : Kinds) : Prop where
  kind : forall p, p ∈ ks -> exists mu no, p.2 = kind1 mu no ∧ (mu ++ no).length ≤ 16 ∧ mu.Nodup ∧ no.Nodup ∧ forall x, x ∈ mu ++ no -> x ∈ ks.map (·.1)
  le : (ks.map (·.1)).Pairwise fun a b => leS a b = true
  nd : (ks.map (·.1)).Nodup
  nm : forall x, x ∈ ks.map (·.1) -> nameS x = true ∧ x.length ≤ 10000
  few : ks.length ≤ 16
theorem One.names_in {T : Tx K mg} {ks : Kinds} {l : List Str} (hl : forall x, x ∈ l -> x ∈ ks.map (·.1)) : namesIn (namesD l) (kindsI T ks) = true := by
  show (l.map D.str).all (fun e => (vD (kindsI T ks) (keyD e)).isSome) = true
  rw [List.all_map]
  refine List.all_eq_true.mpr fun x hx => ?_
  have : (.inr x : Key) ∈ (kindsI T ks).map (·.1) := by
    unfold kindsI
    rw [keys_inr ks (kindI T)]
    exact List.mem_map.mpr ⟨x, hl x hx, rfl⟩
  obtain ⟨d, hd⟩ := vD_mem this
  show (vD (kindsI T ks) (.inr x)).isSome = true
  rw [hd] <;> rfl
theorem One.verdict {T : Tx K mg} {ks : Kinds} (h : One ks) {p : Str × KindI} (hp : p ∈ ks) : K02.verdict ["r"] ["a"] (kindsI T ks) (kindI T p.2) = none := by
  obtain ⟨mu, no, e, l, n1, n2, hm⟩ := h.kind p hp
  rw [e]
  rw [List.length_append] at l
  show (if colsB (["r"] : List Str) (namesD ["r"]) = true then (if kLabs (["a"] : List Str) (.dK (rowsI T [("a", ⟨0, none, mu, no⟩)])) = true then ((badRow (kindsI T ks) 9 (rowsI T [("a", ⟨0, none, mu, no⟩)])).map kD) else some (.str "labels")) else some (.str "colours")) = none
  have h2 : kLabs (["a"] : List Str) (.dK (rowsI T [("a", ⟨0, none, mu, no⟩)])) = true := rfl
  rw [if_pos (by decide +kernel), if_pos h2, badRow_none.mpr]
  · rfl
  · intro q hq
    rw [List.mem_singleton.mp (show q ∈ [((Sum.inr "a" : Key), rowI T ⟨0, none, mu, no⟩)] from hq)]
    show (decide ((0 : Int) ≤ 0) && (decide ((0 : Int) ≤ 9) && (true && (areN (namesD mu) 16 && (areN (namesD no) 16 && (namesIn (namesD mu) (kindsI T ks) && namesIn (namesD no) (kindsI T ks))))))) = true
    rw [One.names_in fun x hx => hm x (List.mem_append_left _ hx), One.names_in fun x hx => hm x (List.mem_append_right _ hx), areN_of (fun x hx => (h.nm x (hm x (List.mem_append_left _ hx))).1) n1 (by omega), areN_of (fun x hx => (h.nm x (hm x (List.mem_append_right _ hx))).1) n2 (by omega)] <;> decide
theorem One.okKs {T : Tx K mg} {ks : Kinds} (h : One ks) : K02.okKs T (kindsI T ks) := by
  have few := h.few
  refine ⟨by unfold kindsI; rw [List.length_map]; omega, fun p hp => ?_, ?_, fun p hp => ?_⟩
  · obtain ⟨q, hq, rfl⟩ := List.mem_map.mp hp
    exact decide_eq_true (h.nm _ (List.mem_map.mpr ⟨q, hq, rfl⟩)).2
  · unfold kindsI
    rw [keys_inr ks (kindI T)]
    exact nd_inr h.nd
  · obtain ⟨q, hq, rfl⟩ := List.mem_map.mp hp
    obtain ⟨mu, no, e, l, n1, n2, hm⟩ := h.kind q hq
    rw [List.length_append] at l
    refine .inr ⟨namesD ["r"], .dK (rowsI T [("a", ⟨0, none, mu, no⟩)]), by show kindI T q.2 = _; rw [e] <;> rfl, by decide, okR1 T _, fun rows er p hp => ?_⟩
    cases er
    rw [List.mem_singleton.mp (show p ∈ [((Sum.inr "a" : Key), rowI T ⟨0, none, mu, no⟩)] from hp)]
    exact .inr ⟨_, _, _, _, rfl, rfl, rfl, fi_names (fun x hx => (h.nm x (hm x (List.mem_append_left _ hx))).2) (by show mu.length ≤ 100000; omega), fi_names (fun x hx => (h.nm x (hm x (List.mem_append_right _ hx))).2) (by show no.length ≤ 100000; omega)⟩
theorem One.G2 {T : Tx K mg} {ks : Kinds} (h : One ks) : K02.G2 (.dK (kindsI T ks)) (kindsI T ks) := by
  refine ⟨rfl, by unfold kindsI; rw [List.length_map]; exact h.few, ?_⟩
  unfold kindsI
  exact labsB_of (f := kindI T) fun p hp => (h.nm _ (List.mem_map.mpr ⟨p, hp, rfl⟩)).1
theorem One.sort {T : Tx K mg} {ks : Kinds} (h : One ks) : sortKV (kindsI T ks) = kindsI T ks := sortKV_id (f := kindI T) h.le h.nd
theorem One.fits {ks : Kinds} (h : One ks) : Fits ks := by
  have few := h.few
  refine ⟨h.nd, by omega, fun p hp => ?_, fun p hp q hq => ?_, fun p hp => ?_⟩
  · obtain ⟨mu, no, e, _⟩ := h.kind p hp
    rw [e]
    exact (show (1 : Nat) ≤ 60 by decide)
  · obtain ⟨mu, no, e, l, _⟩ := h.kind p hp
    rw [List.length_append] at l
    rw [e] at hq
    rw [List.mem_singleton.mp (show q ∈ [(("a" : Str), (⟨0, none, mu, no⟩ : RowI))] from hq)]
    exact ⟨by show mu.length ≤ 16; omega, by show no.length ≤ 16; omega⟩
  · obtain ⟨mu, no, e, l, _, _, hm⟩ := h.kind p hp
    have e1 : p.2.mus = mu := by
      rw [e]
      exact List.append_nil _
    have e2 : p.2.nos = no := by
      rw [e]
      exact List.append_nil _
    rw [e1, e2]
    exact ⟨fun x hx => hm x (List.mem_append_left _ hx), fun x hx => hm x (List.mem_append_right _ hx)⟩
theorem One.good {T : Tx K mg} {ks : Kinds} (h : One ks) : AllGood (sortS ["r"]) (sortS ["a"]) (sortKV (kindsI T ks)) := by
  rw [h.sort, sortS_id (List.pairwise_singleton _ _), sortS_id (List.pairwise_singleton _ _)]
  intro p hp
  obtain ⟨q, hq, rfl⟩ := List.mem_map.mp hp
  exact h.verdict hq
theorem one_ra : (namesD ["r"]).fi = true ∧ (namesD ["a"]).fi = true ∧ G0 (namesD ["r"]) ["r"] ∧ G1 (namesD ["a"]) ["a"] := ⟨by decide, by decide, ⟨by decide +kernel, rfl, by simp⟩, ⟨by decide +kernel, rfl⟩⟩
theorem One.schema {T : Tx K mg} {ks : Kinds} (h : One ks) {f : Str -> Int} (hf : Least (ks.map (·.1)) ks.mu ks.no f) : R_schema T [namesD ["r"], namesD ["a"], .dK (kindsI T ks)] (schF T ["r"] ["a"] ks f) := by
  obtain ⟨f1, f2, g0, g1⟩ := one_ra
  exact ⟨_, _, _, ["r"], ["a"], kindsI T ks, ks, f, rfl, ⟨f1, f2, .inr ⟨_, rfl, h.okKs⟩⟩, g0, g1, h.G2, h.good, h.sort, h.fits, hf, by rw [sortS_id (List.pairwise_singleton _ _), sortS_id (List.pairwise_singleton _ _)]⟩
theorem One.ring {T : Tx K mg} {ks : Kinds} (h : One ks) (hf : forall st, ¬ Sol (ks.map (·.1)) ks.mu ks.no st) : okIn T (namesD ["r"]) (namesD ["a"]) (.dK (kindsI T ks)) ∧ Told T (namesD ["r"]) (namesD ["a"]) (.dK (kindsI T ks)) "" (.str "not") := by
  obtain ⟨f1, f2, g0, g1⟩ := one_ra
  exact ⟨⟨f1, f2, .inr ⟨_, rfl, h.okKs⟩⟩, .ring g0 g1 h.G2 h.good h.sort h.fits hf⟩
end
/-! the two statements -/
section
variable {P : Program} {w : World} {K : PySem.W.Frag} {mg : Str -> Option Value} {base : Heap}
theorem ks4_one : One ks4 := by
  refine ⟨fun p hp => ?_, by decide +kernel, by decide, by decide +kernel, by decide⟩
  have h : p = (("p" : Str), kind1 ["q"] []) ∨ p = (("q" : Str), kind1 [] ["s"]) ∨ p = (("s" : Str), kind1 ["s"] []) ∨ p = (("t" : Str), kind1 [] ["p"]) := by
    unfold ks4 at hp
    simpa using hp
  rcases h with rfl | rfl | rfl | rfl
  · exact ⟨_, _, rfl, by decide, by decide, by decide, by decide⟩
  · exact ⟨_, _, rfl, by decide, by decide, by decide, by decide⟩
  · exact ⟨_, _, rfl, by decide, by decide, by decide, by decide⟩
  · exact ⟨_, _, rfl, by decide, by decide, by decide, by decide⟩
def straightD : List (Key × D) := [(.inr "p", .int 1), (.inr "q", .int 1), (.inr "s", .int 0), (.inr "t", .int 2)]
theorem f4_map : (ks4.map (·.1)).map (fun x => ((.inr x : Key), D.int (f4 x))) = straightD := by
  have h1 : f4 "p" = 1 := by decide +kernel
  have h2 : f4 "q" = 1 := by decide +kernel
  have h3 : f4 "s" = 0 := by decide +kernel
  have h4 : f4 "t" = 2 := by decide +kernel
  show [((.inr "p" : Key), D.int (f4 "p")), (.inr "q", .int (f4 "q")), (.inr "s", .int (f4 "s")), (.inr "t", .int (f4 "t"))] = _
  rw [h1, h2, h3, h4] <;> rfl
theorem law4 (T : Tx K mg) {A : Around} {outer : List Env} {s : Shared} {H : Hp} {E : XK} {tp : Addr} (TB : TabB base mg T.c_law tp) (hr : Room 11 (A.deeper (envOfC "law" (defScope s_law) s.heap.objs.size T.f_law (.ref T.c_law)))) {Q : VK} (hQ : forall H2, Q (.bl true) H2) :
    exists t, PSs (LC P w base T (.ref T.c_law) A outer s H E) (List.drop 19 (defBody s_law)) t ∧ forall (p a : Addr) (ns : List Int) (ks : Kinds) (f : Str -> Int) (vs vn vr : V) (l3 : List Str) (o0 o2 o3 o6 o7 o8 o9 o10 o11 o12 o13 o14 o15 o16 o17 o18 o19 o20 o21 o22 o23 o25 o26 o27 o28 : Option V) (H1 : Hp),
      Lw K p a tp lawQ ns H1 -> ks ≠ [] -> Neat ks -> Rep (msk (LM p tp) H1) (schD T ([("g" : Str), "r"] : List Str) ([("a" : Str), "b"] : List Str) ks f) vs -> Rep (msk (LM p tp) H1) (.lst ((ks.map (·.1)).map .str)) vn ->
      Rep (msk (LM p tp) H1) (.dK (kindsI T [("p", kind1 ["q"] []), ("q", kind1 [] ["s"]), ("s", kind1 l3 [])])) vr ->
      t { nx := fun _ H' => Q .non H', rt := Q } (SL o0 (some (.ref p)) o2 o3 (some vs) (some vn) o6 o7 o8 o9 o10 o11 o12 o13 o14 o15 o16 o17 o18 o19 o20 o21 o22 o23 (some vr) o25 o26 o27 o28) H1 := by
  obtain ⟨t5, h5, k5⟩ := law5 (P := P) (w := w) (base := base) (outer := outer) (H := H) (E := E) T TB hr hQ
  refine ⟨_, (pss_cons (ps_set (i := 25) sc_law.nd rfl (.inl rfl) (pe_disp (pps_cons pe_str (pe_dget (hu_of hr) (pv 24) pe_str (fun _ _ => rfl)) (pps_cons pe_str (pe_dget (hu_of hr) (pv 24) pe_str (fun _ _ => rfl)) (pps_cons pe_str (pe_make T.mk_Kind (ok_Kind_init T) (hr.mono (by decide)) rfl T.g_Kind T.B_Kind_init .nil passL (pa_cons (pe_tup (pa_cons pe_str pa_nil)) (pa_cons (pe_disp (pps_cons pe_str (pe_make T.mk_Row (ok_Row_init T) (hr.mono (by decide)) rfl T.g_Row T.B_Row_init_4.choose_spec.2 T.B_Row_init_4.choose_spec.1 passL (pa_cons pe_int (pa_cons pe_non (pa_cons (pe_tup (pa_cons pe_str pa_nil)) pa_nil)))) pps_nil) (by rfl) (by rfl) (fun z => by cases z) (by decide)) pa_nil))) (pps_cons pe_str (pe_make T.mk_Kind (ok_Kind_init T) (hr.mono (by decide)) rfl T.g_Kind T.B_Kind_init .nil passL (pa_cons (pe_tup (pa_cons pe_str pa_nil)) (pa_cons (pe_disp (pps_cons pe_str (pe_make T.mk_Row (ok_Row_init T) (hr.mono (by decide)) rfl T.g_Row T.B_Row_init_5.choose_spec.2 T.B_Row_init_5.choose_spec.1 passL (pa_cons pe_int (pa_cons pe_non (pa_cons (pe_tup pa_nil) (pa_cons (pe_tup (pa_cons pe_str pa_nil)) pa_nil))))) pps_nil) (by rfl) (by rfl) (fun z => by cases z) (by decide)) pa_nil))) pps_nil)))) (by rfl) (by rfl) (fun z => by cases z) (by decide)))
      (pss_cons (ps_if (pt_cmpR (op_neDF (Nat.lt_of_succ_lt (hu_of hr))) (pe_fld (pe_make T.mk_Schema (ok_Schema_init T) (hr.mono (by decide)) rfl T.g_Schema T.B_Schema_init .nil passL (pa_cons (pe_tup (pa_cons pe_str pa_nil)) (pa_cons (pe_tup (pa_cons pe_str pa_nil)) (pa_cons (pv 25) pa_nil)))) rfl) (pe_disp (pps_cons pe_str pe_int (pps_cons pe_str pe_int (pps_cons pe_str pe_int (pps_cons pe_str pe_int pps_nil)))) (by rfl) (by rfl) (fun z => by cases z) (by decide)) (nomark _)) (pss_one (ps_ret pe_bl)) pss_nil)
      h5)), ?_⟩
  intro p a ns ks f vs vn vr l3 o0 o2 o3 o6 o7 o8 o9 o10 o11 o12 o13 o14 o15 o16 o17 o18 o19 o20 o21 o22 o23 o25 o26 o27 o28 H1 l hn neat rs rn rr
  have m1 := l.mok
  refine st_seq (st_set (M := LM p tp) (P := fun y G => Rep G (.dK (kindsI T ks4)) y) (ev_disp (kvs := kindsI T ks4) m1 (show (4 : Nat) ≤ 15 by decide) fun N H' mN e => evps_cons (k := .inr "p") ev_str (ev_dget (c := kcK) (k := .inr "p") (ev_var rfl (rr.up e)) ev_str rfl) (evps_cons (k := .inr "q") ev_str (ev_dget (c := kcK) (k := .inr "q") (ev_var rfl (rr.up e)) ev_str rfl)
    (evps_cons (k := .inr "s") ev_str (ev_kind1 T mN fun N2 H2 m2 e2 => ev_row1 T m2 (ev_tup (ds := [.str "s"]) m2 (ea_one ev_str)) (List.pairwise_singleton _ _) (by decide)) (evps_cons (k := .inr "t") ev_str (ev_kind1 T mN fun N2 H2 m2 e2 => ev_row2 T m2 (ev_tup (ds := []) m2 ea_nil) (ev_tup (ds := [.str "p"]) m2 (ea_one ev_str)) List.Pairwise.nil (List.pairwise_singleton _ _) (by decide) (by decide)) evps_nil)))) fun v H2 e2 rv => ?_)
  dsimp only
  have l2 := l.up e2
  have m2 := l2.mok
  refine st_seq (st_ifF (et_test (M := LM p tp) (ev_op (ev_fld (ev_makeL (C := T.C_Schema) (R := R_schema T) (X := X_schema T) m2 (ea_cons (ev_tup (ds := [.str "r"]) m2 (ea_one ev_str)) (ea_cons (ev_tup (ds := [.str "a"]) m2 (ea_one ev_str)) (ea_one (ev_var rfl rv)))) (ks4_one.schema ks4_least)) T.cls_Schema T.na_Schema_strata rfl)
    (ev_disp (kvs := straightD) m2 (by decide) fun N H' mN e => evps_cons (k := .inr "p") ev_str ev_int (evps_cons (k := .inr "q") ev_str ev_int (evps_cons (k := .inr "s") ev_str ev_int (evps_cons (k := .inr "t") ev_str ev_int evps_nil)))) (rd_neDF ?_ ?_))) fun H3 e3 => ?_)
  · decide +kernel
  · intro q hq
    have e1 : foldP straightD = straightD := foldP_nodup (by decide)
    rw [f4_map] at hq
    rw [e1]
    unfold straightD at hq
    simp only [List.mem_cons, List.not_mem_nil, or_false] at hq
    rcases hq with rfl | rfl | rfl | rfl <;> exact ⟨_, rfl, rfl⟩
  dsimp only [tNext]
  have e13 := e2.trans e3
  exact k5 p a ns ks f vs vn _ _ _ _ _ _ _ _ _ _ _ _ _ _ _ _ _ _ _ _ _ _ _ _ _ _ H3 (l.up e13) hn neat (rs.up (msk_mono e13)) (rn.up (msk_mono e13))
end

end K02
namespace K02
open PySem PySem.Spec PyProof.Rows L2 Ak
/-! ### the law, statements 17, 18 -/
open NdefX (NF envF ncx NScope CellsAt Caps startF slotAt slotAt_of nscope_by cells_of)
open LamX (CodeO TabS Tabs ExtN TabB)
def ks3 (l : List Str) : Kinds := [("p", kind1 ["q"] []), ("q", kind1 [] ["s"]), ("s", kind1 l [])]
def L3 (l : List Str) : Prop := l = (["p"] : List Str) ∨ l = (["q"] : List Str) ∨ l = (["p", "s"] : List Str)
theorem ks3_one {l : List Str} (h : L3 l) : One (ks3 l) := by
  refine ⟨fun p hp => ?_, by show (["p", "q", "s"] : List Str).Pairwise _; decide +kernel, by show (["p", "q", "s"] : List Str).Nodup; decide, by show forall x, x ∈ (["p", "q", "s"] : List Str) -> _; decide +kernel, by show (3 : Nat) ≤ 16; decide⟩
  have hp2 : p = (("p" : Str), kind1 ["q"] []) ∨ p = (("q" : Str), kind1 [] ["s"]) ∨ p = (("s" : Str), kind1 l []) := by
    unfold ks3 at hp
    simpa using hp
  rcases hp2 with rfl | rfl | rfl
  · exact ⟨_, _, rfl, by decide, by decide, by decide, fun x hx => by show x ∈ (["p", "q", "s"] : List Str); revert x; decide⟩
  · exact ⟨_, _, rfl, by decide, by decide, by decide, fun x hx => by show x ∈ (["p", "q", "s"] : List Str); revert x; decide⟩
  · refine ⟨_, _, rfl, ?_, ?_, by decide, fun x hx => ?_⟩
    · rcases h with rfl | rfl | rfl <;> decide
    · rcases h with rfl | rfl | rfl <;> decide
    · show x ∈ (["p", "q", "s"] : List Str)
      rcases h with rfl | rfl | rfl <;> revert x <;> decide
theorem ks3_ring {l : List Str} (h : L3 l) (st : Str -> Int) : ¬ Sol ((ks3 l).map (·.1)) (ks3 l).mu (ks3 l).no st := fun hs => by
  have h1 := hs "p" (show ("p" : Str) ∈ (["p", "q", "s"] : List Str) by decide)
  have h2 := hs "q" (show ("q" : Str) ∈ (["p", "q", "s"] : List Str) by decide)
  have h3 := hs "s" (show ("s" : Str) ∈ (["p", "q", "s"] : List Str) by decide)
  rcases h with rfl | rfl | rfl
  · have a1 := h1.2.1 "q" (by decide +kernel)
    have a2 := h2.2.2 "s" (by decide +kernel)
    have a3 := h3.2.1 "p" (by decide +kernel)
    omega
  · have a1 := h1.2.1 "q" (by decide +kernel)
    have a2 := h2.2.2 "s" (by decide +kernel)
    have a3 := h3.2.1 "q" (by decide +kernel)
    omega
  · have a1 := h1.2.1 "q" (by decide +kernel)
    have a2 := h2.2.2 "s" (by decide +kernel)
    have a3 := h3.2.1 "p" (by decide +kernel)
    omega
theorem sort_sp : sortS (["s", "p"] : List Str) = (["p", "s"] : List Str) := (sortS_eq (List.Perm.swap _ _ _)).trans (sortS_id (by decide +kernel))
section
variable {P : Program} {w : World} {K : PySem.W.Frag} {mg : Str -> Option Value} {base : Heap}
def rowOf : List D -> List (Str × D)
  | [a, b, c] => rowF a b (normN c 16) (.tup [])
  | _ => []
def kindOf : List D -> List (Str × D)
  | [c, r] => kindF (normN c 6) (normR r)
  | _ => []
theorem norm_l3 {d : D} (h : d = namesD ["p"] ∨ d = namesD ["q"] ∨ d = namesD ["s", "p"]) : exists l, L3 l ∧ normN d 16 = namesD l ∧ d.fi = true := by
  rcases h with rfl | rfl | rfl
  · exact ⟨["p"], .inl rfl, normN_id (List.pairwise_singleton _ _), by decide⟩
  · exact ⟨["q"], .inr (.inl rfl), normN_id (List.pairwise_singleton _ _), by decide⟩
  · refine ⟨["p", "s"], .inr (.inr rfl), ?_, by decide⟩
    show (if areN (.tup ((["s", "p"] : List Str).map .str)) 16 = true then D.tup (sortD ((["s", "p"] : List Str).map .str)) else .tup ((["s", "p"] : List Str).map .str)) = _
    rw [if_pos (by decide +kernel), sortD_strs, sort_sp] <;> rfl
theorem law3 (T : Tx K mg) {A : Around} {outer : List Env} {s : Shared} {H : Hp} {E : XK} {tp : Addr} (TB : TabB base mg T.c_law tp) (hr : Room 11 (A.deeper (envOfC "law" (defScope s_law) s.heap.objs.size T.f_law (.ref T.c_law)))) {Q : VK} (hQ : forall H2, Q (.bl true) H2) :
    exists t, PSs (LC P w base T (.ref T.c_law) A outer s H E) (List.drop 17 (defBody s_law)) t ∧ forall (p a : Addr) (ns : List Int) (ks : Kinds) (f : Str -> Int) (vs vn : V) (o0 o2 o3 o6 o7 o8 o9 o10 o11 o12 o13 o14 o15 o16 o17 o18 o19 o20 o21 o22 o23 o24 o25 o26 o27 o28 : Option V) (H1 : Hp),
      Lw K p a tp lawQ ns H1 -> ns.length ≤ 1000 -> ks ≠ [] -> Neat ks -> Rep (msk (LM p tp) H1) (schD T ([("g" : Str), "r"] : List Str) ([("a" : Str), "b"] : List Str) ks f) vs -> Rep (msk (LM p tp) H1) (.lst ((ks.map (·.1)).map .str)) vn ->
      t { nx := fun _ H' => Q .non H', rt := Q } (SL o0 (some (.ref p)) o2 o3 (some vs) (some vn) o6 o7 o8 o9 o10 o11 o12 o13 o14 o15 o16 o17 o18 o19 o20 o21 o22 o23 o24 o25 o26 o27 o28) H1 := by
  obtain ⟨t4, h4, k4⟩ := law4 (P := P) (w := w) (base := base) (outer := outer) (H := H) (E := E) T TB hr hQ
  refine ⟨_, (pss_cons (ps_set (i := 24) sc_law.nd rfl (.inr rfl) (pe_disp (pps_cons pe_str (pe_make T.mk_Kind (ok_Kind_init T) (hr.mono (by decide)) rfl T.g_Kind T.B_Kind_init .nil passL (pa_cons (pe_tup (pa_cons pe_str pa_nil)) (pa_cons (pe_disp (pps_cons pe_str (pe_make T.mk_Row (ok_Row_init T) (hr.mono (by decide)) rfl T.g_Row T.B_Row_init_4.choose_spec.2 T.B_Row_init_4.choose_spec.1 passL (pa_cons pe_int (pa_cons pe_non (pa_cons (pe_tup (pa_cons pe_str pa_nil)) pa_nil)))) pps_nil) (by rfl) (by rfl) (fun z => by cases z) (by decide)) pa_nil))) (pps_cons pe_str (pe_make T.mk_Kind (ok_Kind_init T) (hr.mono (by decide)) rfl T.g_Kind T.B_Kind_init .nil passL (pa_cons (pe_tup (pa_cons pe_str pa_nil)) (pa_cons (pe_disp (pps_cons pe_str (pe_make T.mk_Row (ok_Row_init T) (hr.mono (by decide)) rfl T.g_Row T.B_Row_init_5.choose_spec.2 T.B_Row_init_5.choose_spec.1 passL (pa_cons pe_int (pa_cons pe_non (pa_cons (pe_tup pa_nil) (pa_cons (pe_tup (pa_cons pe_str pa_nil)) pa_nil))))) pps_nil) (by rfl) (by rfl) (fun z => by cases z) (by decide)) pa_nil))) (pps_cons pe_str (pe_make T.mk_Kind (ok_Kind_init T) (hr.mono (by decide)) rfl T.g_Kind T.B_Kind_init .nil passL (pa_cons (pe_tup (pa_cons pe_str pa_nil)) (pa_cons (pe_disp (pps_cons pe_str (pe_make T.mk_Row (ok_Row_init T) (hr.mono (by decide)) rfl T.g_Row T.B_Row_init_4.choose_spec.2 T.B_Row_init_4.choose_spec.1 passL (pa_cons pe_int (pa_cons pe_non (pa_cons (pe_call (ok__law_pick T) (hr.mono (by decide)) rfl T.g__law_pick T.F__law_pick.kp T.B__law_pick .nil passL (pa_cons (pv 1) (pa_cons (pe_lst (pa_cons (pe_tup (pa_cons pe_str pa_nil)) (pa_cons (pe_tup (pa_cons pe_str pa_nil)) (pa_cons (pe_tup (pa_cons pe_str (pa_cons pe_str pa_nil))) pa_nil)))) pa_nil))) pa_nil)))) pps_nil) (by rfl) (by rfl) (fun z => by cases z) (by decide)) pa_nil))) pps_nil))) (by rfl) (by rfl) (fun z => by cases z) (by decide)))
      (pss_cons (ps_if (pt_cmpR (op_neU hr.units) (pe_faultW T TB (hr.mono (by decide)) (N := ["ring"]) (fr := ["ring"]) (js := [24]) (te := fun E => (tMake T.C_Schema (SpIL T.C_Schema (R_schema T) (X_schema T)) [] E (tCons (tTup (tCons (tC (.str "r")) tNil)) (tCons (tTup (tCons (tC (.str "a")) tNil)) (tCons (tVar 0) tNil))))) (NdefX.nscope_by (by decide +kernel)) (fun _ _ _ _ _ => rfl) (by decide +kernel) rfl rfl (fun c f A outer s H E hr => by exact (pe_make T.mk_Schema (ok_Schema_init T) (hr.mono (by decide)) rfl T.g_Schema T.B_Schema_init .nil (passes_call (takes_of rfl rfl rfl rfl) (fun _ _ _ _ h => h)) (pa_cons (pe_tup (pa_cons pe_str pa_nil)) (pa_cons (pe_tup (pa_cons pe_str pa_nil)) (pa_cons (pv 0) pa_nil)))))) (pe_tup (pa_cons pe_str (pa_cons pe_str pa_nil))) (nomark _)) (pss_one (ps_ret pe_bl)) pss_nil)
      h4)), ?_⟩
  intro p a ns ks f vs vn o0 o2 o3 o6 o7 o8 o9 o10 o11 o12 o13 o14 o15 o16 o17 o18 o19 o20 o21 o22 o23 o24 o25 o26 o27 o28 H1 l hn nk neat rs rn
  have m1 := l.mok
  refine st_seq (st_setC (M := LM p tp) (C := fun d => exists l3, L3 l3 ∧ d = .dK (kindsI T (ks3 l3))) l.drw (EvC.imp (ec_disp (C := fun kvs => exists l3, L3 l3 ∧ kvs = kindsI T (ks3 l3)) m1 lm_p (fun kvs ⟨l3, _, e⟩ => by rw [e]; exact (show (3 : Nat) ≤ 15 by decide)) fun N H2 mN hN e2 d2 sm => ?_) ?_) ?_)
  · have scr : forall {G : Hp}, SameX p H2 G -> SqL K G a (ns.map V.int) := fun e => sql_x l.scr (e2.trans e) l.drw
    refine fun H3 e3 d3 Q q => ecp_cons (k := .inr "p") hN (ec_pure fun H1 e1 d1 => ev_str) (ec_pure (z := kindI T (kind1 ["q"] [])) fun H1 e1 d1 => ev_kind1 T (e1.mok d1 mN) fun N2 H2 m2 e2 => ev_row1 T m2 (ev_tup (ds := [.str "q"]) m2 (ea_one ev_str)) (List.pairwise_singleton _ _) (by decide))
      (ecp_cons (k := .inr "q") hN (ec_pure fun H1 e1 d1 => ev_str) (ec_pure (z := kindI T (kind1 [] ["s"])) fun H1 e1 d1 => ev_kind1 T (e1.mok d1 mN) fun N2 H2 m2 e2 => ev_row2 T m2 (ev_tup (ds := []) m2 ea_nil) (ev_tup (ds := [.str "s"]) m2 (ea_one ev_str)) List.Pairwise.nil (List.pairwise_singleton _ _) (by decide) (by decide))
      (ecp_cons (k := .inr "s") (C1 := fun d => exists l3, L3 l3 ∧ d = kindI T (kind1 l3 [])) hN (ec_pure fun H1 e1 d1 => ev_str) (EvC.imp (ec_makeD (C := T.C_Kind) (F := kindOf) (dds := []) mN hN (fun G => rfl) (ecs_cons hN (ec_pure (z := namesD ["r"]) fun H1 e1 d1 => ev_tup (ds := [.str "r"]) (e1.mok d1 mN) (ea_one ev_str)) (ecs_cons hN (C := fun d => exists l3, L3 l3 ∧ d = .dK (rowsI T [("a", ⟨0, none, l3, []⟩)])) (EvC.imp (ec_disp (C := fun kvs => exists l3, L3 l3 ∧ kvs = rowsI T [("a", ⟨0, none, l3, []⟩)]) mN hN (fun kvs ⟨l3, _, e⟩ => by rw [e]; exact (show (1 : Nat) ≤ 15 by decide)) fun N2 H4 mN2 hN2 e4 d4 sm2 => ?_) ?_) ecs_nil)) ?_) ?_) ecp_nil)) H3 e3 d3 Q fun kvs ws H4 c => q kvs ws H4 ?_
    · -- the row
      refine fun H3 e3 d3 Q q => ecp_cons (k := .inr "a") (C1 := fun d => exists l3, L3 l3 ∧ d = rowI T ⟨0, none, l3, []⟩) hN2 (ec_pure fun H1 e1 d1 => ev_str) (EvC.imp (ec_makeD (C := T.C_Row) (F := rowOf) (dds := [.oth (.ref T.e_Row_init_1)]) mN2 hN2 (et_row T) (ecs_cons hN2 (ec_pure fun H1 e1 d1 => ev_int (i := 0)) (ecs_cons hN2 (ec_pure fun H1 e1 d1 => ev_non) (ecs_cons hN2 (ec_call mN2 hN2 (scr e4) d4 (by assumption) (i := 1) rfl (ecs_cons hN2 (ec_pure (z := .lst [namesD ["p"], namesD ["q"], namesD ["s", "p"]]) fun H1 e1 d1 => ev_lst (e1.mok d1 mN2) (ea_cons (ev_tup (ds := [.str "p"]) (e1.mok d1 mN2) (ea_one ev_str)) (ea_cons (ev_tup (ds := [.str "q"]) (e1.mok d1 mN2) (ea_one ev_str)) (ea_one (ev_tup (ds := [.str "s", .str "p"]) (e1.mok d1 mN2) (ea_cons ev_str (ea_one ev_str))))))) ecs_nil) ?_) ecs_nil))) ?_) ?_) ecp_nil H3 e3 d3 Q fun kvs ws H4 c => q kvs ws H4 ?_
      · rintro ds ⟨d, e, rfl, rfl, rfl⟩
        exact ⟨_, rfl, by simp, by simp⟩
      · rintro ds ⟨d1, es1, rfl, rfl, d2, es2, rfl, rfl, d3, es3, rfl, ⟨ds', ⟨z1, zs, rfl, rfl, rfl⟩, es, ee, hm⟩, rfl⟩
        cases ee
        obtain ⟨l3, h3, e3, f3⟩ := norm_l3 (by simpa using hm)
        exact ⟨_, _, _, _, rfl, .inl f3, .inr ⟨_, rfl, T.E_Row_init_1⟩, rfl⟩
      · rintro d ⟨ds, ⟨d1, es1, rfl, rfl, d2, es2, rfl, rfl, d3, es3, rfl, ⟨ds', ⟨z1, zs, rfl, rfl, rfl⟩, es, ee, hm⟩, rfl⟩, rfl⟩
        cases ee
        obtain ⟨l3, h3, e3, f3⟩ := norm_l3 (by simpa using hm)
        refine ⟨l3, h3, ?_⟩
        show D.ins T.C_Row (rowF (.int 0) .non (normN d3 16) (.tup [])) = _
        rw [e3] <;> rfl
      · obtain ⟨d, kvs', rfl, ⟨l3, h3, rfl⟩, rfl⟩ := c
        exact ⟨l3, h3, rfl⟩
    · rintro d ⟨kvs, ⟨l3, h3, rfl⟩, rfl⟩
      exact ⟨l3, h3, by rw [foldP_nodup]; exact (show [(Sum.inr "a" : Key)].Nodup by decide)⟩
    · rintro ds ⟨d1, es1, rfl, rfl, d2, es2, rfl, ⟨l3, h3, rfl⟩, rfl⟩
      exact ⟨_, _, rfl, .inl (by decide), okR1 T _, rfl⟩
    · rintro d ⟨ds, ⟨d1, es1, rfl, rfl, d2, es2, rfl, ⟨l3, h3, rfl⟩, rfl⟩, rfl⟩
      refine ⟨l3, h3, ?_⟩
      show D.ins T.C_Kind (kindF (normN (namesD ["r"]) 6) (normR (.dK (rowsI T [("a", ⟨0, none, l3, []⟩)])))) = _
      rw [norm1] <;> rfl
    · obtain ⟨d1, r1, rfl, rfl, d2, r2, rfl, rfl, d3, r3, rfl, ⟨l3, h3, rfl⟩, rfl⟩ := c
      exact ⟨l3, h3, rfl⟩
  · rintro d ⟨kvs, ⟨l3, h3, rfl⟩, rfl⟩
    exact ⟨l3, h3, by rw [foldP_nodup]; exact (show [(Sum.inr "p" : Key), .inr "q", .inr "s"].Nodup by decide)⟩
  rintro d vr H2 ⟨l3, h3, rfl⟩ e2 d2 rr
  have l2 := l.upx e2 d2
  dsimp only
  have ring := (ks3_one h3).ring (T := T) (ks3_ring h3)
  refine st_seq (ef_if (d := .tup [.str "", .str "not"]) (e := .tup [.str "", .str "not"]) (b := false) l2 (ef_told fun H9 e9 l9 f c Q hf hc q => ⟨f, c, rfl, hf, hc, wish_schema T l9.mok (ea_cons (ev_tup (ds := [.str "r"]) l9.mok (ea_one ev_str)) (ea_cons (ev_tup (ds := [.str "a"]) l9.mok (ea_one ev_str)) (ea_one (ev_var rfl (upK e9 rr))))) ring.1 ring.2 q⟩)
      (fun H9 e9 l9 => ev_tup l9.mok (ea_cons ev_str (ea_one ev_str))) (rd_self (neg := true) (by decide)) (fun z => nomatch z) fun _ H3 e3 l3' => ?_)
  dsimp only [tNext]
  exact k4 p a ns ks f vs vn vr l3 _ _ _ _ _ _ _ _ _ _ _ _ _ _ _ _ _ _ _ _ _ _ _ _ _ H3 l3' nk neat (upK e3 (rs.up (e2.msk lm_p))) (upK e3 (rn.up (e2.msk lm_p))) (upK e3 rr)
end

end K02
namespace K02
open PySem PySem.Spec PyProof.Rows L2 Ak
/-! ### kinds that are none -/
section
variable {P : Program} {w : World} {K : PySem.W.Frag} {mg : Str -> Option Value} {base : Heap} {M : MK} {s : L2.St} {H : Hp} {te tr ta tb : TE} {c r a b d e : D} {l : Str}
abbrev GR : List Str := [("g" : Str), "r"]
abbrev AB : List Str := [("a" : Str), "b"]
theorem ev_kindX (T : Tx K mg) {c' r' : D} (m : Mok M H) (hc : EvD M te s H c) (hr : EvD M tr s H r) (oc : c.fi = true) (orr : okR r) (ec : normN c 6 = c') (er : normR r = r') : EvD M (tMake T.C_Kind (SpI T.C_Kind (R_kind K) nox) [] E0 (tCons te (tCons tr tNil))) s H (kindD T c' r') := by
  refine Ev.to (ev_make (C := T.C_Kind) m (ea_cons hc (ea_one hr)) ⟨_, _, rfl, .inl oc, orr, rfl⟩) ?_
  rw [ec, er] <;> rfl
theorem ev_one (m : Mok M H) (h : forall (N : MK) H', Mok N H' -> Same (msk M H) (msk N H') -> EvD N te s H' d) : EvD M (tDisp [(tC (.str l), te)]) s H (.dK [(.inr l, d)]) := ev_disp (kvs := [(.inr l, d)]) m (show (1 : Nat) ≤ 15 by decide) fun N H' mN e => evps_cons (k := .inr l) ev_str (h N H' mN e) evps_nil
theorem ev_row0 (T : Tx K mg) (m : Mok M H) (h1 : EvD M ta s H a) (h2 : EvD M tb s H b) : EvD M (tMake T.C_Row (SpI T.C_Row (R_row K) nox) [.ref T.e_Row_init_0, .ref T.e_Row_init_1] E0 (tCons ta (tCons tb tNil))) s H (rowD T a b (.tup []) (.tup [])) :=
  ev_makeD (C := T.C_Row) (dds := [.oth (.ref T.e_Row_init_0), .oth (.ref T.e_Row_init_1)]) m (fun G => ⟨_, _, rfl, rfl, _, _, rfl, rfl, rfl⟩) (ea_cons h1 (ea_one h2)) ⟨_, _, _, _, rfl, .inr ⟨_, rfl, T.E_Row_init_0⟩, .inr ⟨_, rfl, T.E_Row_init_1⟩, rfl⟩
theorem okR_one (hl : l.length ≤ 10000) : okR (.dK [(.inr l, d)]) := .inr ⟨_, rfl, (show (1 : Nat) ≤ 60 by decide), (fun p hp => by rw [List.mem_singleton.mp hp]; exact decide_eq_true hl), List.nodup_cons.mpr ⟨(fun z => nomatch z), List.nodup_nil⟩⟩
theorem normR_one : normR (.dK [(.inr l, d)]) = .dK [(.inr l, d)] := by
  show (if labsB [((.inr l : Key), d)] = true then D.dK (sortKV [(.inr l, d)]) else .dK [(.inr l, d)]) = _
  rw [show sortKV [((.inr l : Key), d)] = [(.inr l, d)] from sortKV_id (f := fun d : D => d) (l := [(l, d)]) (List.pairwise_singleton _ _) (List.nodup_cons.mpr ⟨(fun z => nomatch z), List.nodup_nil⟩)]
  split <;> rfl
theorem okR_nil : okR (.dK []) := .inr ⟨[], rfl, (by decide), (fun p hp => by cases hp), List.nodup_nil⟩
theorem normR_nil : normR (.dK []) = .dK [] := by
  show D.dK (sortKV []) = .dK []
  unfold sortKV
  rw [show sortS (keysS []) = [] from sortS_id (l := []) List.Pairwise.nil] <;> rfl
def oddT (T : Tx K mg) (nm : Str) : List (D × Str) := [
  (kindD T (.tup []) (.dK []), "colours"),
  (kindD T (.tup [.str "x"]) (.dK []), "colours"),
  (kindD T (.str "r") (.dK []), "colours"),
  (kindD T (.tup [.str "r", .str "r"]) (.dK []), "colours"),
  (.non, "colours"),
  (kindD T (.tup [.str "r"]) (.dK [(.inr "c", rowD T (.int 0) (.int 0) (.tup []) (.tup []))]), "labels"),
  (kindD T (.tup [.str "r"]) (.dK [(.inr "A", rowD T (.int 0) (.int 0) (.tup []) (.tup []))]), "labels"),
  (kindD T (.tup [.str "r"]) .non, "labels"),
  (kindD T (.tup [.str "r"]) (.dK [(.inr "a", rowD T (.int 2) (.int 1) (.tup []) (.tup []))]), "a"),
  (kindD T (.tup [.str "r"]) (.dK [(.inr "b", rowD T (.int (-1)) (.int 1) (.tup []) (.tup []))]), "b"),
  (kindD T (.tup [.str "r"]) (.dK [(.inr "a", rowD T (.int 10) .non (.tup []) (.tup []))]), "a"),
  (kindD T (.tup [.str "r"]) (.dK [(.inr "a", rowD T (.int 0) (.int 10) (.tup []) (.tup []))]), "a"),
  (kindD T (.tup [.str "r"]) (.dK [(.inr "a", rowD T (.int 0) .non (.tup [.str "zz"]) (.tup []))]), "a"),
  (kindD T (.tup [.str "r"]) (.dK [(.inr "a", rowD T (.int 0) .non (.tup []) (.tup [.str nm, .str nm]))]), "a"),
  (kindD T (.tup [.str "r"]) (.dK [(.inr "a", .tup [.int 0, .int 1])]), "a"),
  (kindD T (.tup [.str "r"]) (.dK [(.inr "a", rowD T (.bl true) (.int 1) (.tup []) (.tup []))]), "a")]
theorem areN_two (nm : Str) : areN (.tup [.str nm, .str nm]) 16 = false := by
  show (decide ((2 : Int) ≤ 16) && (([D.str nm, D.str nm] : List D).all isNm && decide (strsOf (([nm, nm] : List Str).map D.str)).Nodup)) = false
  rw [strsOf_map, decide_eq_false (p := ([nm, nm] : List Str).Nodup) (fun h => (List.nodup_cons.mp h).1 List.mem_cons_self), Bool.and_false, Bool.and_false]
theorem verdict_row {T : Tx K mg} {kvs : List (Key × D)} {row : D} (hl : l ∈ AB) (hr : rowB row kvs 9 = false) : verdict GR AB kvs (kindD T (.tup [.str "r"]) (.dK [(.inr l, row)])) = some (.str l) := by
  show (if colsB GR (.tup [.str "r"]) = true then (if kLabs AB (.dK [(.inr l, row)]) = true then ((badRow kvs 9 [((.inr l : Key), row)]).map kD) else some (.str "labels")) else some (.str "colours")) = _
  have h2 : kLabs AB (.dK [(.inr l, row)]) = true := by
    show ((nameS l && true) && (decide (l ∈ AB) && true)) = true
    rw [(ab_nm l hl).1, decide_eq_true hl] <;> rfl
  rw [if_pos (by decide +kernel), if_pos h2]
  unfold badRow
  rw [if_neg (by rw [hr]; exact Bool.false_ne_true)] <;> rfl
theorem verdict_lab {T : Tx K mg} {kvs : List (Key × D)} {r : D} (h : kLabs AB r = false) : verdict GR AB kvs (kindD T (.tup [.str "r"]) r) = some (.str "labels") := by
  show (if colsB GR (.tup [.str "r"]) = true then (if kLabs AB r = true then (match r with
    | .dK rows => (badRow kvs 9 rows).map kD
    | _ => none) else some (.str "labels")) else some (.str "colours")) = _
  rw [if_pos (by decide +kernel), if_neg (by rw [h]; exact Bool.false_ne_true)]
theorem verdict_col {T : Tx K mg} {kvs : List (Key × D)} {c r : D} (h : colsB GR c = false) : verdict GR AB kvs (kindD T c r) = some (.str "colours") := by
  exact if_neg (c := colsB GR c = true) (by rw [h]; exact Bool.false_ne_true)
theorem odd_verdict {T : Tx K mg} {nm : Str} {kvs : List (Key × D)} (hz : vD kvs (.inr "zz") = none) {q : D × Str} (hq : q ∈ oddT T nm) : verdict GR AB kvs q.1 = some (.str q.2) := by
  unfold oddT at hq
  simp only [List.mem_cons, List.not_mem_nil, or_false] at hq
  rcases hq with rfl | rfl | rfl | rfl | rfl | rfl | rfl | rfl | rfl | rfl | rfl | rfl | rfl | rfl | rfl | rfl
  · exact verdict_col (by decide +kernel)
  · exact verdict_col (by decide +kernel)
  · exact verdict_col (by decide +kernel)
  · exact verdict_col (by decide +kernel)
  · rfl
  · exact verdict_lab rfl
  · exact verdict_lab rfl
  · exact verdict_lab rfl
  · exact verdict_row (by decide) rfl
  · exact verdict_row (by decide) rfl
  · exact verdict_row (by decide) rfl
  · exact verdict_row (by decide) rfl
  · refine verdict_row (by decide) ?_
    show (true && (true && (true && (areN (.tup [.str "zz"]) 16 && (areN (.tup []) 16 && (((vD kvs (.inr "zz")).isSome && true) && true)))))) = false
    rw [hz]
    decide +kernel
  · refine verdict_row (by decide) ?_
    show (true && (true && (true && (areN (.tup []) 16 && (areN (.tup [.str nm, .str nm]) 16 && (true && _)))))) = false
    rw [areN_two, Bool.false_and, Bool.and_false] <;> rfl
  · exact verdict_row (by decide) rfl
  · exact verdict_row (by decide) rfl
theorem odd_okD {T : Tx K mg} {nm : Str} (hn : nm.length ≤ 10000) {q : D × Str} (hq : q ∈ oddT T nm) : okKindD T q.1 := by
  have two : (D.tup [.str nm, .str nm]).fi = true := by
    show (decide ((2 : Nat) ≤ 100000) && (decide (nm.length ≤ 10000) && (decide (nm.length ≤ 10000) && true))) = true
    rw [decide_eq_true hn] <;> decide
  have row : forall {l : Str} {c : D} {a b x y : D}, c.fi = true -> l.length ≤ 10000 -> a.fi = true -> b.fi = true -> x.fi = true -> y.fi = true -> okKindD T (kindD T c (.dK [(.inr l, rowD T a b x y)])) := fun {l c a b x y} hc hl h1 h2 h3 h4 => .inr ⟨_, _, rfl, hc, okR_one hl, fun rows e p hp => by
    cases e
    rw [List.mem_singleton.mp hp]
    exact .inr ⟨_, _, _, _, rfl, h1, h2, h3, h4⟩⟩
  have nil : forall {c : D}, c.fi = true -> okKindD T (kindD T c (.dK [])) := fun {c} hc => .inr ⟨_, _, rfl, hc, okR_nil, fun rows e p hp => by
    cases e
    cases hp⟩
  unfold oddT at hq
  simp only [List.mem_cons, List.not_mem_nil, or_false] at hq
  rcases hq with rfl | rfl | rfl | rfl | rfl | rfl | rfl | rfl | rfl | rfl | rfl | rfl | rfl | rfl | rfl | rfl
  · exact nil (by decide)
  · exact nil (by decide)
  · exact nil (by decide)
  · exact nil (by decide)
  · exact .inl rfl
  · exact row (by decide) (by decide) rfl rfl (by decide) (by decide)
  · exact row (by decide) (by decide) rfl rfl (by decide) (by decide)
  · exact .inr ⟨_, _, rfl, by decide, .inl rfl, fun rows e => nomatch e⟩
  · exact row (by decide) (by decide) rfl rfl (by decide) (by decide)
  · exact row (by decide) (by decide) rfl rfl (by decide) (by decide)
  · exact row (by decide) (by decide) rfl rfl (by decide) (by decide)
  · exact row (by decide) (by decide) rfl rfl (by decide) (by decide)
  · exact row (by decide) (by decide) rfl rfl (by decide) (by decide)
  · exact row (by decide) (by decide) rfl rfl (by decide) two
  · refine .inr ⟨_, _, rfl, by decide, okR_one (by decide), fun rows e p hp => ?_⟩
    cases e
    rw [List.mem_singleton.mp hp]
    exact .inl ⟨_, rfl⟩
  · exact row (by decide) (by decide) rfl rfl (by decide) (by decide)
theorem odd_ok2 {T : Tx K mg} {nm : Str} {q : D × Str} (hq : q ∈ oddT T nm) : q.2 = "colours" ∨ q.2 = "labels" ∨ q.2 = "a" ∨ q.2 = "b" := by
  unfold oddT at hq
  simp only [List.mem_cons, List.not_mem_nil, or_false] at hq
  rcases hq with rfl | rfl | rfl | rfl | rfl | rfl | rfl | rfl | rfl | rfl | rfl | rfl | rfl | rfl | rfl | rfl <;> first | exact .inl rfl | exact .inr (.inl rfl) | exact .inr (.inr (.inl rfl)) | exact .inr (.inr (.inr rfl))
end

end K02
namespace K02
open PySem PySem.Spec PyProof.Rows L2 Ak
/-! ### kinds that are none, made -/
section
variable {P : Program} {w : World} {K : PySem.W.Frag} {mg : Str -> Option Value} {base : Heap} {M : MK} {s : L2.St} {H : Hp} {nm : Str}
theorem row_two (T : Tx K mg) (nm : Str) : D.ins T.C_Row (rowF (.int 0) .non (normN (.tup []) 16) (normN (.tup [.str nm, .str nm]) 16)) = rowD T (.int 0) .non (.tup []) (.tup [.str nm, .str nm]) := by
  have h1 : normN (.tup []) 16 = .tup [] := normN_id (l := []) List.Pairwise.nil
  have h2 : normN (.tup [.str nm, .str nm]) 16 = .tup [.str nm, .str nm] := by
    show (if areN (.tup [.str nm, .str nm]) 16 = true then D.tup (sortD [.str nm, .str nm]) else .tup [.str nm, .str nm]) = _
    rw [if_neg (by rw [areN_two]; exact Bool.false_ne_true)]
  rw [h1, h2] <;> rfl
theorem norm_rr : normN (.tup [.str "r", .str "r"]) 6 = .tup [.str "r", .str "r"] := by
  show (if areN (.tup [.str "r", .str "r"]) 6 = true then D.tup (sortD [.str "r", .str "r"]) else .tup [.str "r", .str "r"]) = _
  rw [if_neg (by decide +kernel)]
def oddD (q : D × Str) : D := .tup [q.1, .str q.2]
theorem fi_two (h : nm.length ≤ 10000) : (D.tup [.str nm, .str nm]).fi = true := by
  show (decide ((2 : Nat) ≤ 100000) && (decide (nm.length ≤ 10000) && (decide (nm.length ≤ 10000) && true))) = true
  rw [decide_eq_true h] <;> decide
theorem odd_0 (T : Tx K mg) (m : Mok M H) (hv : s[6]? = some (some (V.str nm))) (two : (D.tup [.str nm, .str nm]).fi = true) : EvD M (tTup (tCons (tMake T.C_Kind (SpI T.C_Kind (R_kind K) nox) [] E0 (tCons (tTup tNil) (tCons tDNewK tNil))) (tCons (tC (.str "colours")) tNil))) s H (oddD ((kindD T (.tup []) (.dK [])), "colours")) := ev_tup (ds := [(kindD T (.tup []) (.dK [])), .str "colours"]) m (ea_cons (ev_kindX T (c := (.tup [])) (r := (.dK [])) m (ev_tup (ds := []) m ea_nil (by simp)) (ev_dnew m) (by decide) okR_nil (normN_id (l := []) List.Pairwise.nil) normR_nil) (ea_one ev_str)) (by simp)
theorem odd_1 (T : Tx K mg) (m : Mok M H) (hv : s[6]? = some (some (V.str nm))) (two : (D.tup [.str nm, .str nm]).fi = true) : EvD M (tTup (tCons (tMake T.C_Kind (SpI T.C_Kind (R_kind K) nox) [] E0 (tCons (tTup (tCons (tC (.str "x")) tNil)) (tCons tDNewK tNil))) (tCons (tC (.str "colours")) tNil))) s H (oddD ((kindD T (.tup [.str "x"]) (.dK [])), "colours")) := ev_tup (ds := [(kindD T (.tup [.str "x"]) (.dK [])), .str "colours"]) m (ea_cons (ev_kindX T (c := (.tup [.str "x"])) (r := (.dK [])) m (ev_tup (ds := [.str "x"]) m (ea_one ev_str) (by simp)) (ev_dnew m) (by decide) okR_nil (normN_id (l := [("x" : Str)]) (List.pairwise_singleton _ _)) normR_nil) (ea_one ev_str)) (by simp)
theorem odd_2 (T : Tx K mg) (m : Mok M H) (hv : s[6]? = some (some (V.str nm))) (two : (D.tup [.str nm, .str nm]).fi = true) : EvD M (tTup (tCons (tMake T.C_Kind (SpI T.C_Kind (R_kind K) nox) [] E0 (tCons (tC (.str "r")) (tCons tDNewK tNil))) (tCons (tC (.str "colours")) tNil))) s H (oddD ((kindD T (.str "r") (.dK [])), "colours")) := ev_tup (ds := [(kindD T (.str "r") (.dK [])), .str "colours"]) m (ea_cons (ev_kindX T (c := (.str "r")) (r := (.dK [])) m ev_str (ev_dnew m) (by decide) okR_nil rfl normR_nil) (ea_one ev_str)) (by simp)
theorem odd_3 (T : Tx K mg) (m : Mok M H) (hv : s[6]? = some (some (V.str nm))) (two : (D.tup [.str nm, .str nm]).fi = true) : EvD M (tTup (tCons (tMake T.C_Kind (SpI T.C_Kind (R_kind K) nox) [] E0 (tCons (tTup (tCons (tC (.str "r")) (tCons (tC (.str "r")) tNil))) (tCons tDNewK tNil))) (tCons (tC (.str "colours")) tNil))) s H (oddD ((kindD T (.tup [.str "r", .str "r"]) (.dK [])), "colours")) := ev_tup (ds := [(kindD T (.tup [.str "r", .str "r"]) (.dK [])), .str "colours"]) m (ea_cons (ev_kindX T (c := (.tup [.str "r", .str "r"])) (r := (.dK [])) m (ev_tup (ds := [.str "r", .str "r"]) m (ea_cons ev_str (ea_one ev_str)) (by simp)) (ev_dnew m) (by decide) okR_nil norm_rr normR_nil) (ea_one ev_str)) (by simp)
theorem odd_4 (T : Tx K mg) (m : Mok M H) (hv : s[6]? = some (some (V.str nm))) (two : (D.tup [.str nm, .str nm]).fi = true) : EvD M (tTup (tCons (tC .non) (tCons (tC (.str "colours")) tNil))) s H (oddD (.non, "colours")) := ev_tup (ds := [.non, .str "colours"]) m (ea_cons ev_non (ea_one ev_str)) (by simp)
theorem odd_5 (T : Tx K mg) (m : Mok M H) (hv : s[6]? = some (some (V.str nm))) (two : (D.tup [.str nm, .str nm]).fi = true) : EvD M (tTup (tCons (tMake T.C_Kind (SpI T.C_Kind (R_kind K) nox) [] E0 (tCons (tTup (tCons (tC (.str "r")) tNil)) (tCons (tDisp [((tC (.str "c")), (tMake T.C_Row (SpI T.C_Row (R_row K) nox) [.ref T.e_Row_init_0, .ref T.e_Row_init_1] E0 (tCons (tC (.int 0)) (tCons (tC (.int 0)) tNil))))]) tNil))) (tCons (tC (.str "labels")) tNil))) s H (oddD ((kindD T (.tup [.str "r"]) (.dK [(.inr "c", (rowD T (.int 0) (.int 0) (.tup []) (.tup [])))])), "labels")) := ev_tup (ds := [(kindD T (.tup [.str "r"]) (.dK [(.inr "c", (rowD T (.int 0) (.int 0) (.tup []) (.tup [])))])), .str "labels"]) m (ea_cons (ev_kindX T (c := (.tup [.str "r"])) (r := (.dK [(.inr "c", (rowD T (.int 0) (.int 0) (.tup []) (.tup [])))])) m (ev_tup (ds := [.str "r"]) m (ea_one ev_str) (by simp)) (ev_one m fun N H9 m9 e9 => (ev_row0 T m9 ev_int ev_int)) (by decide) (okR_one (by decide)) (normN_id (l := [("r" : Str)]) (List.pairwise_singleton _ _)) normR_one) (ea_one ev_str)) (by simp)
theorem odd_6 (T : Tx K mg) (m : Mok M H) (hv : s[6]? = some (some (V.str nm))) (two : (D.tup [.str nm, .str nm]).fi = true) : EvD M (tTup (tCons (tMake T.C_Kind (SpI T.C_Kind (R_kind K) nox) [] E0 (tCons (tTup (tCons (tC (.str "r")) tNil)) (tCons (tDisp [((tC (.str "A")), (tMake T.C_Row (SpI T.C_Row (R_row K) nox) [.ref T.e_Row_init_0, .ref T.e_Row_init_1] E0 (tCons (tC (.int 0)) (tCons (tC (.int 0)) tNil))))]) tNil))) (tCons (tC (.str "labels")) tNil))) s H (oddD ((kindD T (.tup [.str "r"]) (.dK [(.inr "A", (rowD T (.int 0) (.int 0) (.tup []) (.tup [])))])), "labels")) := ev_tup (ds := [(kindD T (.tup [.str "r"]) (.dK [(.inr "A", (rowD T (.int 0) (.int 0) (.tup []) (.tup [])))])), .str "labels"]) m (ea_cons (ev_kindX T (c := (.tup [.str "r"])) (r := (.dK [(.inr "A", (rowD T (.int 0) (.int 0) (.tup []) (.tup [])))])) m (ev_tup (ds := [.str "r"]) m (ea_one ev_str) (by simp)) (ev_one m fun N H9 m9 e9 => (ev_row0 T m9 ev_int ev_int)) (by decide) (okR_one (by decide)) (normN_id (l := [("r" : Str)]) (List.pairwise_singleton _ _)) normR_one) (ea_one ev_str)) (by simp)
theorem odd_7 (T : Tx K mg) (m : Mok M H) (hv : s[6]? = some (some (V.str nm))) (two : (D.tup [.str nm, .str nm]).fi = true) : EvD M (tTup (tCons (tMake T.C_Kind (SpI T.C_Kind (R_kind K) nox) [] E0 (tCons (tTup (tCons (tC (.str "r")) tNil)) (tCons (tC .non) tNil))) (tCons (tC (.str "labels")) tNil))) s H (oddD ((kindD T (.tup [.str "r"]) .non), "labels")) := ev_tup (ds := [(kindD T (.tup [.str "r"]) .non), .str "labels"]) m (ea_cons (ev_kindX T (c := (.tup [.str "r"])) (r := .non) m (ev_tup (ds := [.str "r"]) m (ea_one ev_str) (by simp)) ev_non (by decide) (.inl rfl) (normN_id (l := [("r" : Str)]) (List.pairwise_singleton _ _)) rfl) (ea_one ev_str)) (by simp)
theorem odd_8 (T : Tx K mg) (m : Mok M H) (hv : s[6]? = some (some (V.str nm))) (two : (D.tup [.str nm, .str nm]).fi = true) : EvD M (tTup (tCons (tMake T.C_Kind (SpI T.C_Kind (R_kind K) nox) [] E0 (tCons (tTup (tCons (tC (.str "r")) tNil)) (tCons (tDisp [((tC (.str "a")), (tMake T.C_Row (SpI T.C_Row (R_row K) nox) [.ref T.e_Row_init_0, .ref T.e_Row_init_1] E0 (tCons (tC (.int 2)) (tCons (tC (.int 1)) tNil))))]) tNil))) (tCons (tC (.str "a")) tNil))) s H (oddD ((kindD T (.tup [.str "r"]) (.dK [(.inr "a", (rowD T (.int 2) (.int 1) (.tup []) (.tup [])))])), "a")) := ev_tup (ds := [(kindD T (.tup [.str "r"]) (.dK [(.inr "a", (rowD T (.int 2) (.int 1) (.tup []) (.tup [])))])), .str "a"]) m (ea_cons (ev_kindX T (c := (.tup [.str "r"])) (r := (.dK [(.inr "a", (rowD T (.int 2) (.int 1) (.tup []) (.tup [])))])) m (ev_tup (ds := [.str "r"]) m (ea_one ev_str) (by simp)) (ev_one m fun N H9 m9 e9 => (ev_row0 T m9 ev_int ev_int)) (by decide) (okR_one (by decide)) (normN_id (l := [("r" : Str)]) (List.pairwise_singleton _ _)) normR_one) (ea_one ev_str)) (by simp)
theorem odd_9 (T : Tx K mg) (m : Mok M H) (hv : s[6]? = some (some (V.str nm))) (two : (D.tup [.str nm, .str nm]).fi = true) : EvD M (tTup (tCons (tMake T.C_Kind (SpI T.C_Kind (R_kind K) nox) [] E0 (tCons (tTup (tCons (tC (.str "r")) tNil)) (tCons (tDisp [((tC (.str "b")), (tMake T.C_Row (SpI T.C_Row (R_row K) nox) [.ref T.e_Row_init_0, .ref T.e_Row_init_1] E0 (tCons (tUn (rU fun i => .int (-i)) (tC (.int 1))) (tCons (tC (.int 1)) tNil))))]) tNil))) (tCons (tC (.str "b")) tNil))) s H (oddD ((kindD T (.tup [.str "r"]) (.dK [(.inr "b", (rowD T (.int (-1)) (.int 1) (.tup []) (.tup [])))])), "b")) := ev_tup (ds := [(kindD T (.tup [.str "r"]) (.dK [(.inr "b", (rowD T (.int (-1)) (.int 1) (.tup []) (.tup [])))])), .str "b"]) m (ea_cons (ev_kindX T (c := (.tup [.str "r"])) (r := (.dK [(.inr "b", (rowD T (.int (-1)) (.int 1) (.tup []) (.tup [])))])) m (ev_tup (ds := [.str "r"]) m (ea_one ev_str) (by simp)) (ev_one m fun N H9 m9 e9 => (ev_row0 T m9 (ev_neg ev_int) ev_int)) (by decide) (okR_one (by decide)) (normN_id (l := [("r" : Str)]) (List.pairwise_singleton _ _)) normR_one) (ea_one ev_str)) (by simp)
theorem odd_10 (T : Tx K mg) (m : Mok M H) (hv : s[6]? = some (some (V.str nm))) (two : (D.tup [.str nm, .str nm]).fi = true) : EvD M (tTup (tCons (tMake T.C_Kind (SpI T.C_Kind (R_kind K) nox) [] E0 (tCons (tTup (tCons (tC (.str "r")) tNil)) (tCons (tDisp [((tC (.str "a")), (tMake T.C_Row (SpI T.C_Row (R_row K) nox) [.ref T.e_Row_init_0, .ref T.e_Row_init_1] E0 (tCons (tC (.int 10)) (tCons (tC .non) tNil))))]) tNil))) (tCons (tC (.str "a")) tNil))) s H (oddD ((kindD T (.tup [.str "r"]) (.dK [(.inr "a", (rowD T (.int 10) .non (.tup []) (.tup [])))])), "a")) := ev_tup (ds := [(kindD T (.tup [.str "r"]) (.dK [(.inr "a", (rowD T (.int 10) .non (.tup []) (.tup [])))])), .str "a"]) m (ea_cons (ev_kindX T (c := (.tup [.str "r"])) (r := (.dK [(.inr "a", (rowD T (.int 10) .non (.tup []) (.tup [])))])) m (ev_tup (ds := [.str "r"]) m (ea_one ev_str) (by simp)) (ev_one m fun N H9 m9 e9 => (ev_row0 T m9 ev_int ev_non)) (by decide) (okR_one (by decide)) (normN_id (l := [("r" : Str)]) (List.pairwise_singleton _ _)) normR_one) (ea_one ev_str)) (by simp)
theorem odd_11 (T : Tx K mg) (m : Mok M H) (hv : s[6]? = some (some (V.str nm))) (two : (D.tup [.str nm, .str nm]).fi = true) : EvD M (tTup (tCons (tMake T.C_Kind (SpI T.C_Kind (R_kind K) nox) [] E0 (tCons (tTup (tCons (tC (.str "r")) tNil)) (tCons (tDisp [((tC (.str "a")), (tMake T.C_Row (SpI T.C_Row (R_row K) nox) [.ref T.e_Row_init_0, .ref T.e_Row_init_1] E0 (tCons (tC (.int 0)) (tCons (tC (.int 10)) tNil))))]) tNil))) (tCons (tC (.str "a")) tNil))) s H (oddD ((kindD T (.tup [.str "r"]) (.dK [(.inr "a", (rowD T (.int 0) (.int 10) (.tup []) (.tup [])))])), "a")) := ev_tup (ds := [(kindD T (.tup [.str "r"]) (.dK [(.inr "a", (rowD T (.int 0) (.int 10) (.tup []) (.tup [])))])), .str "a"]) m (ea_cons (ev_kindX T (c := (.tup [.str "r"])) (r := (.dK [(.inr "a", (rowD T (.int 0) (.int 10) (.tup []) (.tup [])))])) m (ev_tup (ds := [.str "r"]) m (ea_one ev_str) (by simp)) (ev_one m fun N H9 m9 e9 => (ev_row0 T m9 ev_int ev_int)) (by decide) (okR_one (by decide)) (normN_id (l := [("r" : Str)]) (List.pairwise_singleton _ _)) normR_one) (ea_one ev_str)) (by simp)
theorem odd_12 (T : Tx K mg) (m : Mok M H) (hv : s[6]? = some (some (V.str nm))) (two : (D.tup [.str nm, .str nm]).fi = true) : EvD M (tTup (tCons (tMake T.C_Kind (SpI T.C_Kind (R_kind K) nox) [] E0 (tCons (tTup (tCons (tC (.str "r")) tNil)) (tCons (tDisp [((tC (.str "a")), (tMake T.C_Row (SpI T.C_Row (R_row K) nox) [.ref T.e_Row_init_1] E0 (tCons (tC (.int 0)) (tCons (tC .non) (tCons (tTup (tCons (tC (.str "zz")) tNil)) tNil)))))]) tNil))) (tCons (tC (.str "a")) tNil))) s H (oddD ((kindD T (.tup [.str "r"]) (.dK [(.inr "a", (rowD T (.int 0) .non (.tup [.str "zz"]) (.tup [])))])), "a")) := ev_tup (ds := [(kindD T (.tup [.str "r"]) (.dK [(.inr "a", (rowD T (.int 0) .non (.tup [.str "zz"]) (.tup [])))])), .str "a"]) m (ea_cons (ev_kindX T (c := (.tup [.str "r"])) (r := (.dK [(.inr "a", (rowD T (.int 0) .non (.tup [.str "zz"]) (.tup [])))])) m (ev_tup (ds := [.str "r"]) m (ea_one ev_str) (by simp)) (ev_one m fun N H9 m9 e9 => (ev_row1 T (l := ["zz"]) m9 (ev_tup (ds := [.str "zz"]) m9 (ea_one ev_str)) (List.pairwise_singleton _ _) (by decide))) (by decide) (okR_one (by decide)) (normN_id (l := [("r" : Str)]) (List.pairwise_singleton _ _)) normR_one) (ea_one ev_str)) (by simp)
theorem odd_13 (T : Tx K mg) (m : Mok M H) (hv : s[6]? = some (some (V.str nm))) (two : (D.tup [.str nm, .str nm]).fi = true) : EvD M (tTup (tCons (tMake T.C_Kind (SpI T.C_Kind (R_kind K) nox) [] E0 (tCons (tTup (tCons (tC (.str "r")) tNil)) (tCons (tDisp [((tC (.str "a")), (tMake T.C_Row (SpI T.C_Row (R_row K) nox) [] E0 (tCons (tC (.int 0)) (tCons (tC .non) (tCons (tTup tNil) (tCons (tTup (tCons (tVar 6) (tCons (tVar 6) tNil))) tNil))))))]) tNil))) (tCons (tC (.str "a")) tNil))) s H (oddD ((kindD T (.tup [.str "r"]) (.dK [(.inr "a", (rowD T (.int 0) .non (.tup []) (.tup [.str nm, .str nm])))])), "a")) := ev_tup (ds := [(kindD T (.tup [.str "r"]) (.dK [(.inr "a", (rowD T (.int 0) .non (.tup []) (.tup [.str nm, .str nm])))])), .str "a"]) m (ea_cons (ev_kindX T (c := (.tup [.str "r"])) (r := (.dK [(.inr "a", (rowD T (.int 0) .non (.tup []) (.tup [.str nm, .str nm])))])) m (ev_tup (ds := [.str "r"]) m (ea_one ev_str) (by simp)) (ev_one m fun N H9 m9 e9 => (Ev.to (ev_make (C := T.C_Row) m9 (ea_cons ev_int (ea_cons ev_non (ea_cons (ev_tup (ds := []) m9 ea_nil) (ea_one (ev_tup (ds := [.str nm, .str nm]) m9 (ea_cons (ev_var (d := .str nm) hv rfl) (ea_one (ev_var (d := .str nm) hv rfl)))))))) ⟨_, _, _, _, rfl, .inl (by decide), .inl two, rfl⟩) (row_two T nm))) (by decide) (okR_one (by decide)) (normN_id (l := [("r" : Str)]) (List.pairwise_singleton _ _)) normR_one) (ea_one ev_str)) (by simp)
theorem odd_14 (T : Tx K mg) (m : Mok M H) (hv : s[6]? = some (some (V.str nm))) (two : (D.tup [.str nm, .str nm]).fi = true) : EvD M (tTup (tCons (tMake T.C_Kind (SpI T.C_Kind (R_kind K) nox) [] E0 (tCons (tTup (tCons (tC (.str "r")) tNil)) (tCons (tDisp [((tC (.str "a")), (tTup (tCons (tC (.int 0)) (tCons (tC (.int 1)) tNil))))]) tNil))) (tCons (tC (.str "a")) tNil))) s H (oddD ((kindD T (.tup [.str "r"]) (.dK [(.inr "a", (.tup [.int 0, .int 1]))])), "a")) := ev_tup (ds := [(kindD T (.tup [.str "r"]) (.dK [(.inr "a", (.tup [.int 0, .int 1]))])), .str "a"]) m (ea_cons (ev_kindX T (c := (.tup [.str "r"])) (r := (.dK [(.inr "a", (.tup [.int 0, .int 1]))])) m (ev_tup (ds := [.str "r"]) m (ea_one ev_str) (by simp)) (ev_one m fun N H9 m9 e9 => (ev_tup m9 (ea_cons ev_int (ea_one ev_int)) (by simp))) (by decide) (okR_one (by decide)) (normN_id (l := [("r" : Str)]) (List.pairwise_singleton _ _)) normR_one) (ea_one ev_str)) (by simp)
theorem odd_15 (T : Tx K mg) (m : Mok M H) (hv : s[6]? = some (some (V.str nm))) (two : (D.tup [.str nm, .str nm]).fi = true) : EvD M (tTup (tCons (tMake T.C_Kind (SpI T.C_Kind (R_kind K) nox) [] E0 (tCons (tTup (tCons (tC (.str "r")) tNil)) (tCons (tDisp [((tC (.str "a")), (tMake T.C_Row (SpI T.C_Row (R_row K) nox) [.ref T.e_Row_init_0, .ref T.e_Row_init_1] E0 (tCons (tC (.bl true)) (tCons (tC (.int 1)) tNil))))]) tNil))) (tCons (tC (.str "a")) tNil))) s H (oddD ((kindD T (.tup [.str "r"]) (.dK [(.inr "a", (rowD T (.bl true) (.int 1) (.tup []) (.tup [])))])), "a")) := ev_tup (ds := [(kindD T (.tup [.str "r"]) (.dK [(.inr "a", (rowD T (.bl true) (.int 1) (.tup []) (.tup [])))])), .str "a"]) m (ea_cons (ev_kindX T (c := (.tup [.str "r"])) (r := (.dK [(.inr "a", (rowD T (.bl true) (.int 1) (.tup []) (.tup [])))])) m (ev_tup (ds := [.str "r"]) m (ea_one ev_str) (by simp)) (ev_one m fun N H9 m9 e9 => (ev_row0 T m9 ev_cbl ev_int)) (by decide) (okR_one (by decide)) (normN_id (l := [("r" : Str)]) (List.pairwise_singleton _ _)) normR_one) (ea_one ev_str)) (by simp)
end

end K02
namespace K02
open PySem PySem.Spec PyProof.Rows L2 Ak
/-! ### kinds with one that is none -/
theorem vD_none {kvs : List (Key × D)} {k : Key} (h : k ∉ kvs.map (·.1)) : vD kvs k = none := by
  unfold vD
  cases g : kvs.find? fun kv => decide (kv.1 = k) with
  | none => rfl
  | some p =>
    have h1 := List.mem_of_find?_eq_some g
    have h2 := List.find?_some (p := fun kv : Key × D => decide (kv.1 = k)) g
    exact absurd (List.mem_map.mpr ⟨p, h1, of_decide_eq_true h2⟩) h
section
variable {K : PySem.W.Frag} {mg : Str -> Option Value}
def partsL (T : Tx K mg) (ks : Kinds) (nm : Str) (w : D) : List (Str × D) := ks.map fun p => (p.1, if p.1 = nm then w else kindI T p.2)
def partsD (T : Tx K mg) (ks : Kinds) (nm : Str) (w : D) : List (Key × D) := (partsL T ks nm w).map fun p => (.inr p.1, p.2)
theorem parts_eq {T : Tx K mg} {ks : Kinds} {nm : Str} {w : D} (h : nm ∈ ks.map (·.1)) : pD (kindsI T ks) (.inr nm) w = partsD T ks nm w := by
  unfold pD
  rw [if_pos]
  · unfold partsD partsL kindsI
    rw [List.map_map, List.map_map]
    refine List.map_congr_left fun p hp => ?_
    show (if (Sum.inr p.1 : Key) = .inr nm then ((Sum.inr p.1 : Key), w) else (.inr p.1, kindI T p.2)) = (.inr p.1, if p.1 = nm then w else kindI T p.2)
    by_cases e : p.1 = nm
    · rw [if_pos (by rw [e]), if_pos e]
    · rw [if_neg (fun z => e (Sum.inr.inj z)), if_neg e]
  · obtain ⟨p, hp, e⟩ := List.mem_map.mp h
    refine List.any_eq_true.mpr ⟨(.inr p.1, kindI T p.2), List.mem_map.mpr ⟨p, hp, rfl⟩, decide_eq_true (by rw [← e])⟩
theorem parts_fst {T : Tx K mg} {ks : Kinds} {nm : Str} {w : D} : (partsL T ks nm w).map (·.1) = ks.map (·.1) := by
  unfold partsL
  rw [List.map_map] <;> rfl
theorem parts_keys {T : Tx K mg} {ks : Kinds} {nm : Str} {w : D} : (partsD T ks nm w).map (·.1) = (ks.map (·.1)).map Sum.inr := by
  unfold partsD
  rw [keys_inr (partsL T ks nm w) (fun d : D => d), parts_fst]
theorem parts_len {T : Tx K mg} {ks : Kinds} {nm : Str} {w : D} : (partsD T ks nm w).length = ks.length := by
  unfold partsD partsL
  rw [List.length_map, List.length_map]
theorem parts_at {T : Tx K mg} {ks : Kinds} {nm : Str} {w : D} {j : Nat} {p : Str × KindI} (h : ks[j]? = some p) : (partsD T ks nm w)[j]? = some (.inr p.1, if p.1 = nm then w else kindI T p.2) := by
  unfold partsD partsL
  rw [List.getElem?_map, List.getElem?_map, h] <;> rfl
theorem parts_told {T : Tx K mg} {ks : Kinds} {nm : Str} {q : D × Str} (neat : Neat ks) (hnm : nm ∈ ks.map (·.1)) (hq : q ∈ oddT T nm) :
    okIn T (.tup [.str "r", .str "g"]) (.tup [.str "a", .str "b"]) (.dK (partsD T ks nm q.1)) ∧ Told T (.tup [.str "r", .str "g"]) (.tup [.str "a", .str "b"]) (.dK (partsD T ks nm q.1)) nm (.str q.2) := by
  have few := neat.few
  have nd : ((partsD T ks nm q.1).map (·.1)).Nodup := by
    rw [parts_keys]
    exact nd_inr neat.nd
  have hn := (neat.mem hnm).2
  have has : forall x, x ∈ ks.map (·.1) -> (vD (partsD T ks nm q.1) (.inr x)).isSome = true := fun x hx => by
    obtain ⟨d, hd⟩ := vD_mem (kvs := partsD T ks nm q.1) (k := .inr x) (by rw [parts_keys]; exact List.mem_map.mpr ⟨x, hx, rfl⟩)
    rw [hd] <;> rfl
  have hz : vD (partsD T ks nm q.1) (.inr "zz") = none := vD_none (by
    rw [parts_keys]
    intro z
    obtain ⟨x, hx, e⟩ := List.mem_map.mp z
    have e' : x = "zz" := Sum.inr.inj e
    have h5 := neat.nm.subset hx
    rw [e'] at h5
    exact absurd h5 (by decide +kernel))
  have g2 : G2 (.dK (partsD T ks nm q.1)) (partsD T ks nm q.1) := ⟨rfl, by rw [parts_len]; omega, by
    unfold partsD
    refine labsB_of (f := fun d : D => d) fun p hp => ?_
    have : p.1 ∈ (partsL T ks nm q.1).map (·.1) := List.mem_map.mpr ⟨p, hp, rfl⟩
    rw [parts_fst] at this
    exact (neat.mem this).1⟩
  have ok : okKs T (partsD T ks nm q.1) := by
    refine ⟨by rw [parts_len]; omega, fun p hp => ?_, nd, fun p hp => ?_⟩
    · have : p.1 ∈ (partsD T ks nm q.1).map (·.1) := List.mem_map.mpr ⟨p, hp, rfl⟩
      rw [parts_keys] at this
      obtain ⟨x, hx, e⟩ := List.mem_map.mp this
      rw [← e]
      exact decide_eq_true (neat.mem hx).2
    · unfold partsD partsL at hp
      rw [List.map_map] at hp
      obtain ⟨r, hr, rfl⟩ := List.mem_map.mp hp
      show okKindD T (if r.1 = nm then q.1 else kindI T r.2)
      by_cases e : r.1 = nm
      · rw [if_pos e]
        exact odd_okD hn hq
      · rw [if_neg e]
        exact neat_okKind neat (neat.kind r hr)
  have srt : sortKV (partsD T ks nm q.1) = partsD T ks nm q.1 := sortKV_id (f := fun d : D => d) (l := partsL T ks nm q.1) (by rw [parts_fst]; exact neat.le) (by rw [parts_fst]; exact neat.nd)
  refine ⟨⟨by decide, by decide, .inr ⟨_, rfl, ok⟩⟩, .kind (lc := ["r", "g"]) (ll := ["a", "b"]) ⟨by decide +kernel, rfl, by simp⟩ ⟨by decide +kernel, rfl⟩ g2 ?_⟩
  rw [srt, sort_rg, show sortS (["a", "b"] : List Str) = AB from sortS_id ab_le]
  obtain ⟨p, hp, e⟩ := List.mem_map.mp hnm
  obtain ⟨i, hi, ei⟩ := List.mem_iff_getElem.mp hp
  have hpi : ks[i]? = some p := by rw [List.getElem?_eq_getElem hi, ei]
  refine ⟨i, q.1, ?_, odd_verdict hz hq, fun j r hj hr => ?_⟩
  · rw [parts_at hpi, if_pos e, e]
  · have hj2 : j < ks.length := by omega
    have hrj : ks[j]? = some ks[j] := List.getElem?_eq_getElem hj2
    rw [parts_at hrj] at hr
    have ne : ks[j].1 ≠ nm := fun z => by
      refine not_before neat.nd (i := i) (x := nm) (by rw [List.getElem?_map, hpi, ← e] <;> rfl) ?_
      rw [← List.map_take]
      refine List.mem_map.mpr ⟨ks[j], ?_, z⟩
      exact List.mem_iff_getElem.mpr ⟨j, by rw [List.length_take]; omega, List.getElem_take⟩
    rw [if_neg ne] at hr
    cases hr
    exact neat_verdict has (fun x hx => hx) neat (neat.kind _ (List.getElem_mem hj2))
end

end K02
namespace K02
open PySem PySem.Spec PyProof.Rows L2 Ak
/-! ### the law, statements 8 to 16 -/
open NdefX (NF envF ncx NScope CellsAt Caps startF slotAt slotAt_of nscope_by cells_of)
open LamX (CodeO TabS Tabs ExtN TabB)
section
variable {P : Program} {w : World} {K : PySem.W.Frag} {mg : Str -> Option Value} {base : Heap}
theorem ec_pickI {M : MK} {p a : Addr} {s : L2.St} {H : Hp} {te : TE} {ns : List Int} {i : Nat} {es : List D} (ne : es ≠ []) (ln : es.length ≤ 1000) (mo : Mok M H) (hp : M p) (hs : SqL K H a (ns.map V.int)) (d0 : Drw p a H) (hn : ns.length ≤ 1000) (hv : s[i]? = some (some (.ref p))) (h : forall H1, SameX p H H1 -> Drw p a H1 -> EvD M te s H1 (.lst es)) : EvC M p a (tCall (SpPick K) [] E0 (tCons (tVar i) (tCons te tNil))) s H fun d => d ∈ es := by
  refine (ec_call mo hp hs d0 hn hv (ecs_cons hp (ec_pure h) ecs_nil) ?_).imp ?_
  · rintro ds ⟨d, e, rfl, rfl, rfl⟩
    exact ⟨_, rfl, ne, ln⟩
  · rintro d ⟨ds, ⟨d', e, rfl, rfl, rfl⟩, es', ee, hm⟩
    cases ee
    exact hm
theorem law2 (T : Tx K mg) {A : Around} {outer : List Env} {s : Shared} {H : Hp} {E : XK} {tp : Addr} (TB : TabB base mg T.c_law tp) (hr : Room 11 (A.deeper (envOfC "law" (defScope s_law) s.heap.objs.size T.f_law (.ref T.c_law)))) {Q : VK} (hQ : forall H2, Q (.bl true) H2) :
    exists t, PSs (LC P w base T (.ref T.c_law) A outer s H E) (List.drop 8 (defBody s_law)) t ∧ forall (p a : Addr) (ns : List Int) (ks : Kinds) (f : Str -> Int) (vs vn : V) (o0 o2 o3 o6 o7 o8 o9 o10 o11 o12 o13 o14 o15 o16 o17 o18 o19 o20 o21 o22 o23 o24 o25 o26 o27 o28 : Option V) (H1 : Hp),
      Lw K p a tp lawQ ns H1 -> ns.length ≤ 1000 -> ks ≠ [] -> Neat ks -> Rep (msk (LM p tp) H1) (schD T ([("g" : Str), "r"] : List Str) ([("a" : Str), "b"] : List Str) ks f) vs -> Rep (msk (LM p tp) H1) (.lst ((ks.map (·.1)).map .str)) vn ->
      t { nx := fun _ H' => Q .non H', rt := Q } (SL o0 (some (.ref p)) o2 o3 (some vs) (some vn) o6 o7 o8 o9 o10 o11 o12 o13 o14 o15 o16 o17 o18 o19 o20 o21 o22 o23 o24 o25 o26 o27 o28) H1 := by
  obtain ⟨t3, h3t, k3'⟩ := law3 (P := P) (w := w) (base := base) (outer := outer) (H := H) (E := E) T TB hr hQ
  refine ⟨_, (pss_cons (ps_set (i := 19) sc_law.nd rfl (.inr rfl) (pe_callTy (call_dictP rfl) rfl T.n_dict (by decide +kernel) (by exact (pa_cons (pe_lc (own := [("one", 20)]) (g := (gName 20)) (tt := tYes) (te := (tTup (tCons (tVar 20) (tCons (tDGet (tFld K (tVar 4) "kinds") (tVar 20)) tNil)))) rfl sc_law.nd (pi_any (pv 5)) (blkOk_by (own := [("one", 20)]) (N := ["script", "draw", "kinds", "strata", "schema", "names", "name", "colours", "rows", "mine", "label", "low", "high", "musts", "nots", "row", "number", "again", "told", "parts", "one", "odd", "wrong", "part", "ring", "straight", "labels", "some", "due"]) (sc := (defScope s_law)) (by decide +kernel)) (fun _ _ _ _ _ => by exact (pg_name (i := 20) sc_law.nd rfl (.inl rfl))) (fun _ _ _ _ _ => by exact pts_nil) (fun _ _ _ _ _ => by exact (pe_tup (pa_cons (pv 20) (pa_cons (pe_dget (hu_of hr) (pe_fld (pv 4) rfl) (pv 20) (fun _ _ => rfl)) pa_nil))))) pa_nil))))
      (pss_cons (ps_set (i := 6) sc_law.nd rfl (.inl rfl) (pe_call (ok__law_pick T) (hr.mono (by decide)) rfl T.g__law_pick T.F__law_pick.kp T.B__law_pick .nil passL (pa_cons (pv 1) (pa_cons (pv 5) pa_nil))))
      (pss_cons (ps_set (i := 21) sc_law.nd rfl (.inl rfl) (pe_lst (pa_cons (pe_tup (pa_cons (pe_make T.mk_Kind (ok_Kind_init T) (hr.mono (by decide)) rfl T.g_Kind T.B_Kind_init .nil passL (pa_cons (pe_tup pa_nil) (pa_cons pe_dnewK pa_nil))) (pa_cons pe_str pa_nil))) (pa_cons (pe_tup (pa_cons (pe_make T.mk_Kind (ok_Kind_init T) (hr.mono (by decide)) rfl T.g_Kind T.B_Kind_init .nil passL (pa_cons (pe_tup (pa_cons pe_str pa_nil)) (pa_cons pe_dnewK pa_nil))) (pa_cons pe_str pa_nil))) (pa_cons (pe_tup (pa_cons (pe_make T.mk_Kind (ok_Kind_init T) (hr.mono (by decide)) rfl T.g_Kind T.B_Kind_init .nil passL (pa_cons pe_str (pa_cons pe_dnewK pa_nil))) (pa_cons pe_str pa_nil))) (pa_cons (pe_tup (pa_cons (pe_make T.mk_Kind (ok_Kind_init T) (hr.mono (by decide)) rfl T.g_Kind T.B_Kind_init .nil passL (pa_cons (pe_tup (pa_cons pe_str (pa_cons pe_str pa_nil))) (pa_cons pe_dnewK pa_nil))) (pa_cons pe_str pa_nil))) (pa_cons (pe_tup (pa_cons pe_non (pa_cons pe_str pa_nil))) pa_nil)))))))
      (pss_cons (ps_aug (i := 21) sc_law.nd rfl (.inl rfl) (pe_lst (pa_cons (pe_tup (pa_cons (pe_make T.mk_Kind (ok_Kind_init T) (hr.mono (by decide)) rfl T.g_Kind T.B_Kind_init .nil passL (pa_cons (pe_tup (pa_cons pe_str pa_nil)) (pa_cons (pe_disp (pps_cons pe_str (pe_make T.mk_Row (ok_Row_init T) (hr.mono (by decide)) rfl T.g_Row T.B_Row_init_3.choose_spec.2 T.B_Row_init_3.choose_spec.1 passL (pa_cons pe_int (pa_cons pe_int pa_nil))) pps_nil) (by rfl) (by rfl) (fun z => by cases z) (by decide)) pa_nil))) (pa_cons pe_str pa_nil))) (pa_cons (pe_tup (pa_cons (pe_make T.mk_Kind (ok_Kind_init T) (hr.mono (by decide)) rfl T.g_Kind T.B_Kind_init .nil passL (pa_cons (pe_tup (pa_cons pe_str pa_nil)) (pa_cons (pe_disp (pps_cons pe_str (pe_make T.mk_Row (ok_Row_init T) (hr.mono (by decide)) rfl T.g_Row T.B_Row_init_3.choose_spec.2 T.B_Row_init_3.choose_spec.1 passL (pa_cons pe_int (pa_cons pe_int pa_nil))) pps_nil) (by rfl) (by rfl) (fun z => by cases z) (by decide)) pa_nil))) (pa_cons pe_str pa_nil))) (pa_cons (pe_tup (pa_cons (pe_make T.mk_Kind (ok_Kind_init T) (hr.mono (by decide)) rfl T.g_Kind T.B_Kind_init .nil passL (pa_cons (pe_tup (pa_cons pe_str pa_nil)) (pa_cons pe_non pa_nil))) (pa_cons pe_str pa_nil))) pa_nil)))) iop_ext)
      (pss_cons (ps_aug (i := 21) sc_law.nd rfl (.inl rfl) (pe_lst (pa_cons (pe_tup (pa_cons (pe_make T.mk_Kind (ok_Kind_init T) (hr.mono (by decide)) rfl T.g_Kind T.B_Kind_init .nil passL (pa_cons (pe_tup (pa_cons pe_str pa_nil)) (pa_cons (pe_disp (pps_cons pe_str (pe_make T.mk_Row (ok_Row_init T) (hr.mono (by decide)) rfl T.g_Row T.B_Row_init_3.choose_spec.2 T.B_Row_init_3.choose_spec.1 passL (pa_cons pe_int (pa_cons pe_int pa_nil))) pps_nil) (by rfl) (by rfl) (fun z => by cases z) (by decide)) pa_nil))) (pa_cons pe_str pa_nil))) (pa_cons (pe_tup (pa_cons (pe_make T.mk_Kind (ok_Kind_init T) (hr.mono (by decide)) rfl T.g_Kind T.B_Kind_init .nil passL (pa_cons (pe_tup (pa_cons pe_str pa_nil)) (pa_cons (pe_disp (pps_cons pe_str (pe_make T.mk_Row (ok_Row_init T) (hr.mono (by decide)) rfl T.g_Row T.B_Row_init_3.choose_spec.2 T.B_Row_init_3.choose_spec.1 passL (pa_cons (pe_un un_neg pe_int) (pa_cons pe_int pa_nil))) pps_nil) (by rfl) (by rfl) (fun z => by cases z) (by decide)) pa_nil))) (pa_cons pe_str pa_nil))) (pa_cons (pe_tup (pa_cons (pe_make T.mk_Kind (ok_Kind_init T) (hr.mono (by decide)) rfl T.g_Kind T.B_Kind_init .nil passL (pa_cons (pe_tup (pa_cons pe_str pa_nil)) (pa_cons (pe_disp (pps_cons pe_str (pe_make T.mk_Row (ok_Row_init T) (hr.mono (by decide)) rfl T.g_Row T.B_Row_init_3.choose_spec.2 T.B_Row_init_3.choose_spec.1 passL (pa_cons pe_int (pa_cons pe_non pa_nil))) pps_nil) (by rfl) (by rfl) (fun z => by cases z) (by decide)) pa_nil))) (pa_cons pe_str pa_nil))) (pa_cons (pe_tup (pa_cons (pe_make T.mk_Kind (ok_Kind_init T) (hr.mono (by decide)) rfl T.g_Kind T.B_Kind_init .nil passL (pa_cons (pe_tup (pa_cons pe_str pa_nil)) (pa_cons (pe_disp (pps_cons pe_str (pe_make T.mk_Row (ok_Row_init T) (hr.mono (by decide)) rfl T.g_Row T.B_Row_init_3.choose_spec.2 T.B_Row_init_3.choose_spec.1 passL (pa_cons pe_int (pa_cons pe_int pa_nil))) pps_nil) (by rfl) (by rfl) (fun z => by cases z) (by decide)) pa_nil))) (pa_cons pe_str pa_nil))) pa_nil))))) iop_ext)
      (pss_cons (ps_aug (i := 21) sc_law.nd rfl (.inl rfl) (pe_lst (pa_cons (pe_tup (pa_cons (pe_make T.mk_Kind (ok_Kind_init T) (hr.mono (by decide)) rfl T.g_Kind T.B_Kind_init .nil passL (pa_cons (pe_tup (pa_cons pe_str pa_nil)) (pa_cons (pe_disp (pps_cons pe_str (pe_make T.mk_Row (ok_Row_init T) (hr.mono (by decide)) rfl T.g_Row T.B_Row_init_4.choose_spec.2 T.B_Row_init_4.choose_spec.1 passL (pa_cons pe_int (pa_cons pe_non (pa_cons (pe_tup (pa_cons pe_str pa_nil)) pa_nil)))) pps_nil) (by rfl) (by rfl) (fun z => by cases z) (by decide)) pa_nil))) (pa_cons pe_str pa_nil))) (pa_cons (pe_tup (pa_cons (pe_make T.mk_Kind (ok_Kind_init T) (hr.mono (by decide)) rfl T.g_Kind T.B_Kind_init .nil passL (pa_cons (pe_tup (pa_cons pe_str pa_nil)) (pa_cons (pe_disp (pps_cons pe_str (pe_make T.mk_Row (ok_Row_init T) (hr.mono (by decide)) rfl T.g_Row T.B_Row_init_5.choose_spec.2 T.B_Row_init_5.choose_spec.1 passL (pa_cons pe_int (pa_cons pe_non (pa_cons (pe_tup pa_nil) (pa_cons (pe_tup (pa_cons (pv 6) (pa_cons (pv 6) pa_nil))) pa_nil))))) pps_nil) (by rfl) (by rfl) (fun z => by cases z) (by decide)) pa_nil))) (pa_cons pe_str pa_nil))) (pa_cons (pe_tup (pa_cons (pe_make T.mk_Kind (ok_Kind_init T) (hr.mono (by decide)) rfl T.g_Kind T.B_Kind_init .nil passL (pa_cons (pe_tup (pa_cons pe_str pa_nil)) (pa_cons (pe_disp (pps_cons pe_str (pe_tup (pa_cons pe_int (pa_cons pe_int pa_nil))) pps_nil) (by rfl) (by rfl) (fun z => by cases z) (by decide)) pa_nil))) (pa_cons pe_str pa_nil))) (pa_cons (pe_tup (pa_cons (pe_make T.mk_Kind (ok_Kind_init T) (hr.mono (by decide)) rfl T.g_Kind T.B_Kind_init .nil passL (pa_cons (pe_tup (pa_cons pe_str pa_nil)) (pa_cons (pe_disp (pps_cons pe_str (pe_make T.mk_Row (ok_Row_init T) (hr.mono (by decide)) rfl T.g_Row T.B_Row_init_3.choose_spec.2 T.B_Row_init_3.choose_spec.1 passL (pa_cons pe_bl (pa_cons pe_int pa_nil))) pps_nil) (by rfl) (by rfl) (fun z => by cases z) (by decide)) pa_nil))) (pa_cons pe_str pa_nil))) pa_nil))))) iop_ext)
      (pss_cons (ps_asg (pe_call (ok__law_pick T) (hr.mono (by decide)) rfl T.g__law_pick T.F__law_pick.kp T.B__law_pick .nil passL (pa_cons (pv 1) (pa_cons (pv 21) pa_nil))) (pg_tup rfl (pgs_cons (pg_name (i := 22) sc_law.nd rfl (.inl rfl)) (pgs_cons (pg_name (i := 23) sc_law.nd rfl (.inl rfl)) pgs_nil))))
      (pss_cons (ps_dput (hu_of hr) (pv 19) (pv 6) (pv 22) rfl)
      (pss_cons (ps_if (pt_cmpR (op_neU hr.units) (pe_faultW T TB (hr.mono (by decide)) (N := ["parts"]) (fr := ["parts"]) (js := [19]) (te := fun E => (tMake T.C_Schema (SpIL T.C_Schema (R_schema T) (X_schema T)) [] E (tCons (tTup (tCons (tC (.str "r")) (tCons (tC (.str "g")) tNil))) (tCons (tTup (tCons (tC (.str "a")) (tCons (tC (.str "b")) tNil))) (tCons (tVar 0) tNil))))) (NdefX.nscope_by (by decide +kernel)) (fun _ _ _ _ _ => rfl) (by decide +kernel) rfl rfl (fun c f A outer s H E hr => by exact (pe_make T.mk_Schema (ok_Schema_init T) (hr.mono (by decide)) rfl T.g_Schema T.B_Schema_init .nil (passes_call (takes_of rfl rfl rfl rfl) (fun _ _ _ _ h => h)) (pa_cons (pe_tup (pa_cons pe_str (pa_cons pe_str pa_nil))) (pa_cons (pe_tup (pa_cons pe_str (pa_cons pe_str pa_nil))) (pa_cons (pv 0) pa_nil)))))) (pe_tup (pa_cons (pv 6) (pa_cons (pv 23) pa_nil))) (nomark _)) (pss_one (ps_ret pe_bl)) pss_nil)
      h3t))))))))), ?_⟩
  intro p a ns ks f vs vn o0 o2 o3 o6 o7 o8 o9 o10 o11 o12 o13 o14 o15 o16 o17 o18 o19 o20 o21 o22 o23 o24 o25 o26 o27 o28 H1 l hn nk neat rs rn
  have m1 := l.mok
  have lnk := neat.few
  have ln2 : (ks.map (·.1)).length ≤ 4 := by rw [List.length_map]; exact lnk
  -- parts
  refine st_seq (st_set (M := LM p tp) (P := NewO kcK H1 (kindsI T ks)) (fun H2 e2 Q q => ev_dictPN (kvs := kindsI T ks) (m1.up e2) (ea_one (Ev.to (ev_lcm (ds := (ks.map (·.1)).map .str) (fun d => match d with
    | .str x => .tup [.str x, (vD (kindsI T ks) (.inr x)).getD .non]
    | _ => .non) (m1.up e2) (ia_list (ev_var rfl (rn.up (msk_mono e2)))) (by rw [List.length_map]; omega) fun N H3 d x mN eN hd rd => ?_) ?_)) H2 (Same.refl H2) Q fun v H3 e3 ⟨pp, wp, ev, hpp, rpp, npp⟩ => q v H3 e3 ⟨pp, wp, ev, hpp, by rw [foldP_nodup] at rpp; exact rpp; unfold kindsI; rw [keys_inr ks (kindI T)]; exact nd_inr neat.nd, e2.free npp⟩) fun v H2 e2 ⟨pp, wp, ev, hpp, rpp, npp⟩ => ?_)
  · obtain ⟨z0, hx, rfl⟩ := List.mem_map.mp hd
    obtain ⟨q, hq, e⟩ := List.mem_map.mp hx
    have hv : vD (kindsI T ks) (.inr z0) = some (kindI T q.2) := by
      have z := vD_at (kvs := kindsI T ks) (by unfold kindsI; rw [keys_inr ks (kindI T)]; exact nd_inr neat.nd) (p := (.inr q.1, kindI T q.2)) (List.mem_map.mpr ⟨q, hq, rfl⟩)
      rw [← e]
      exact z
    refine elt_all (s2 := (wipe (SL o0 (some (.ref p)) o2 o3 (some vs) (some vn) o6 o7 o8 o9 o10 o11 o12 o13 o14 o15 o16 o17 o18 o19 o20 o21 o22 o23 o24 o25 o26 o27 o28) [20]).set 20 (some x)) (fun Q q => q) rfl (Ev.to (ev_tup (ds := [.str z0, kindI T q.2]) mN (ea_cons (ev_var rfl rd) (ea_one (ev_dget (c := kcK) (k := .inr z0) (ev_fld (ev_var rfl ((rs.up (msk_mono e2)).up eN)) T.cls_Schema T.na_Schema_kinds rfl) (ev_var rfl rd) hv))) (by simp)) ?_)
    show _ = D.tup [.str z0, (vD (kindsI T ks) (.inr z0)).getD .non]
    rw [hv] <;> rfl
  · rw [List.map_map, List.map_map]
    unfold kindsI
    rw [List.map_map]
    refine congrArg D.lst (List.map_congr_left fun q hq => ?_)
    have z := vD_at (kvs := kindsI T ks) (by unfold kindsI; rw [keys_inr ks (kindI T)]; exact nd_inr neat.nd) (p := (.inr q.1, kindI T q.2)) (List.mem_map.mpr ⟨q, hq, rfl⟩)
    have z' : vD (kindsI T ks) (.inr q.1) = some (kindI T q.2) := z
    unfold kindsI at z'
    show D.tup [.str q.1, (vD (ks.map fun p => ((.inr p.1 : Key), kindI T p.2)) (.inr q.1)).getD .non] = D.tup [.str q.1, kindI T q.2]
    rw [z'] <;> rfl
  subst ev
  dsimp only
  have l2 := l.up e2
  have nL : ¬ LM p tp pp := (msk_of hpp).1
  have h2pp : H2 pp = some (.dK wp) := (msk_of hpp).2
  have ppp : pp ≠ p := fun z => nL (.inl z)
  let M2 : MK := fun b => LM p tp b ∨ b = pp
  have m2 : Mok M2 H2 := (m1.up e2).add h2pp
  have rp2 : RepP (msk M2 H2) (kindsI T ks) wp := by
    have z := rpp
    rw [msk_msk] at z
    exact z
  have s2 : Same (msk (LM p tp) H1) (msk M2 H2) := SameE.msk2 (SameE.of e2) fun b z => z.elim .inl fun z => .inr (by rw [z]; exact npp)
  have rs2 := rs.up s2
  have rn2 := rn.up s2
  have hp2 : M2 p := .inl lm_p
  -- name
  refine st_seq (st_setC (M := M2) l2.drw (ec_pickI (es := (ks.map (·.1)).map .str) (by simpa using nk) (by rw [List.length_map]; omega) m2 hp2 l2.scr l2.drw hn rfl fun H3 e3 d3 => ev_var rfl (rn2.up (e3.msk hp2))) ?_)
  rintro d v H3 hd e3 d3 rv
  obtain ⟨nm, hnm, rfl⟩ := List.mem_map.mp hd
  have ev : v = V.str nm := rv
  subst ev
  dsimp only
  have l3 := l2.upx e3 d3
  have m3 : Mok M2 H3 := e3.mok d3 m2
  have h3pp : H3 pp = some (.dK wp) := e3 _ _ ppp h2pp
  have rp3 : RepP (msk M2 H3) (kindsI T ks) wp := rp2.fx (Fx.of (e3.msk hp2))
  have rs3 := rs2.up (e3.msk hp2)
  have rn3 := rn2.up (e3.msk hp2)
  have lnm := (neat.mem hnm).2
  have two : (D.tup [.str nm, .str nm]).fi = true := by
    show (decide ((2 : Nat) ≤ 100000) && (decide (nm.length ≤ 10000) && (decide (nm.length ≤ 10000) && true))) = true
    rw [decide_eq_true lnm] <;> decide
  have e13 : SameX p H1 H3 := (SameX.of e2).trans e3
  clear e3 rv rp2 rs2 rn2 m2 s2
  -- odd
  refine st_seq (st_lstM (M := M2) (ea_cons (odd_0 T m3 rfl two) (ea_cons (odd_1 T m3 rfl two) (ea_cons (odd_2 T m3 rfl two) (ea_cons (odd_3 T m3 rfl two) (ea_one (odd_4 T m3 rfl two)))))) (by simp) fun xs H4 lo e4 r4 hlo => ?_)
  dsimp only
  have eW : Same H4 (upd H4 lo (.lst xs)) := same_new hlo
  have hW : upd H4 lo (.lst xs) lo = some (.lst xs) := upd_same
  generalize upd H4 lo (.lst xs) = W at eW hW
  have lx := r4.len
  have nlo2 : ¬ M2 lo := (m3.up e4).new hlo
  let M3 : MK := fun b => M2 b ∨ b = lo
  have mW : Mok M3 W := ((m3.up e4).up eW).add hW
  have sW : Same (msk M2 H4) (msk M3 W) := SameE.msk2 (SameE.of eW) fun b z => z.elim .inl fun z => .inr (by rw [z]; exact hlo)
  have rW := r4.up sW
  have n3lo : H3 lo = none := e4.free hlo
  -- odd += ..
  refine st_seq (st_extM (M := M3) (l := lo) (xs := xs) (.inr rfl) rfl hW (ev_lst mW (ea_cons (odd_5 T mW rfl two) (ea_cons (odd_6 T mW rfl two) (ea_one (odd_7 T mW rfl two))))) (by rw [lx]; simp) fun W1 ys1 x1 h1 r1 => ?_)
  dsimp only
  have mW1 : Mok M3 W1 := SameE.mok (SameE.x (M := fun b => b = lo) x1 rfl) mW fun b z => ⟨.lst (xs ++ ys1), (show b = lo from z) ▸ h1, fun xs e => nomatch e⟩
  have k1 : Same (msk M3 W) (msk M3 W1) := x1.msk (.inr rfl)
  have ly1 := r1.len
  refine st_seq (st_extM (M := M3) (l := lo) (xs := xs ++ ys1) (.inr rfl) rfl h1 (ev_lst mW1 (ea_cons (odd_8 T mW1 rfl two) (ea_cons (odd_9 T mW1 rfl two) (ea_cons (odd_10 T mW1 rfl two) (ea_one (odd_11 T mW1 rfl two)))))) (by rw [List.length_append, lx, ly1]; simp) fun W2 ys2 x2 h2 r2 => ?_)
  dsimp only
  have mW2 : Mok M3 W2 := SameE.mok (SameE.x (M := fun b => b = lo) x2 rfl) mW1 fun b z => ⟨.lst ((xs ++ ys1) ++ ys2), (show b = lo from z) ▸ h2, fun xs e => nomatch e⟩
  have k2 : Same (msk M3 W1) (msk M3 W2) := x2.msk (.inr rfl)
  have ly2 := r2.len
  refine st_seq (st_extM (M := M3) (l := lo) (xs := (xs ++ ys1) ++ ys2) (.inr rfl) rfl h2 (ev_lst mW2 (ea_cons (odd_12 T mW2 rfl two) (ea_cons (odd_13 T mW2 rfl two) (ea_cons (odd_14 T mW2 rfl two) (ea_one (odd_15 T mW2 rfl two)))))) (by rw [List.length_append, List.length_append, lx, ly1, ly2]; simp) fun W3 ys3 x3 h3 r3 => ?_)
  dsimp only
  have k3 : Same (msk M3 W2) (msk M3 W3) := x3.msk (.inr rfl)
  have e37 : Same H3 W3 := fun b o hb => by
    have nb : b ≠ lo := ne_of_none hb n3lo
    exact x3 b o nb (x2 b o nb (x1 b o nb (eW _ _ (e4 _ _ hb))))
  have m7 := m3.up e37
  have l7 := l3.up e37
  have rAll : Reps (msk M2 W3) ((oddT T nm).map oddD) (((xs ++ ys1) ++ ys2) ++ ys3) := by
    have z := Reps.app (Reps.app (Reps.app (rW.up ((k1.trans k2).trans k3)) (r1.up (k2.trans k3))) (r2.up k3)) r3
    exact z.up (msk_less fun b z => .inl z)
  have rOdd : Rep (msk M2 W3) (.lst ((oddT T nm).map oddD)) (.ref lo) := ⟨lo, _, rfl, by rw [msk_at nlo2]; exact h3, rAll⟩
  clear rAll rW r1 r2 r3 r4 mW1 mW2 mW h1 h2 h3 x1 x2 x3 k1 k2 k3 sW eW hW
  -- wrong, part
  refine st_seq (st_asgC (M := M2) l7.drw (ec_pickI (es := (oddT T nm).map oddD) (by simp [oddT]) (by simp [oddT]) m7 hp2 l7.scr l7.drw hn rfl fun H8 e8 d8 => ev_var rfl (rOdd.up (e8.msk hp2))) ?_)
  rintro d v H8 hd e8 d8 rv
  obtain ⟨q, hq, rfl⟩ := List.mem_map.mp hd
  obtain ⟨t, zs, et, ht, rzs⟩ := rv
  obtain ⟨x1, x2, ezs, rx1, rx2⟩ := rzs.two_of
  have ex2 : x2 = V.str q.2 := rx2
  subst et ezs ex2
  refine ⟨t, _, rfl, SqT.of (msk_same _ _ ht), rfl, _, _, rfl, _, [], rfl, rfl, ?_⟩
  dsimp only
  have m8 := e8.mok d8 m7
  have e38 : SameX p H3 H8 := (SameX.of e37).trans e8
  -- parts[name] = wrong
  refine st_seq (st_dputM (M := M2) (p := pp) (k := .inr nm) (kvs := kindsI T ks) (d := q.1) (.inr rfl) (fun H9 e9 Q q => ⟨_, rfl, q⟩) (ev_var rfl rx1) (ev_var (d := .str nm) rfl rfl) (e38 _ _ ppp h3pp) (rp3.fx (Fx.of (e38.msk hp2))) (by unfold kindsI; rw [List.length_map]; omega) fun H9 ws9 e9 h9 r9 => ?_)
  rw [parts_eq hnm] at r9
  have x19 : SameX p H1 H9 := fun b o n h => e9 b o (ne_of_none h npp) (e38 b o n (e13 b o n h))
  have d9 : Drw p a H9 := by
    obtain ⟨k, hk, g⟩ := d8
    exact ⟨k, hk, e9 _ _ ppp.symm g⟩
  have l9 := l.upx x19 d9
  have rP : Rep (msk (LM p tp) H9) (.dK (partsD T ks nm q.1)) (.ref pp) := ⟨pp, ws9, rfl, .inl (by rw [msk_at nL]; exact h9), repK_iff.mpr (r9.fx (Fx.of (msk_less fun b z => .inl z)))⟩
  have told := parts_told neat hnm hq
  have rs9 := rs.up (x19.msk lm_p)
  have rn9 := rn.up (x19.msk lm_p)
  -- what is refused
  refine st_seq (ef_if (d := .tup [.str nm, .str q.2]) (e := .tup [.str nm, .str q.2]) (b := false) l9 (ef_told fun HA eA lA f c Q hf hc qq => ⟨f, c, rfl, hf, hc, wish_schema T lA.mok (ea_cons (ev_tup (ds := [.str "r", .str "g"]) lA.mok (ea_cons ev_str (ea_one ev_str))) (ea_cons (ev_tup (ds := [.str "a", .str "b"]) lA.mok (ea_cons ev_str (ea_one ev_str))) (ea_one (ev_var rfl (upK eA rP))))) told.1 told.2 qq⟩)
      (fun HA eA lA => ev_tup lA.mok (ea_cons (ev_var (d := .str nm) rfl rfl) (ea_one (ev_var (d := .str q.2) rfl rfl)))) (rd_self (neg := true) ((dP dStr dStr).ok (by decide) (nm, q.2))) (fun z => nomatch z) fun _ HB eB lB => ?_)
  dsimp only [tNext]
  exact k3' p a ns ks f vs vn _ _ _ _ _ _ _ _ _ _ _ _ _ _ _ _ _ _ _ _ _ _ _ _ _ _ HB lB hn nk neat (upK eB rs9) (upK eB rn9)
end

end K02
namespace K02
open PySem PySem.Spec PyProof.Rows L2 Ak
/-! ### what is equal to itself -/
section
variable {K : PySem.W.Frag} {mg : Str -> Option Value}
abbrev dRow : Dat (Int × Option Int × List Str × List Str) := d4 dInt dHi (dT dStr) (dT dStr)
theorem hiD_opt (o : Option Int) : hiD o = optD o := by cases o <;> rfl
theorem row_ok (r : RowI) : (D.tup [.int r.lo, hiD r.hi, namesD r.mu, namesD r.no]).ok = true := by
  rw [hiD_opt]
  exact dRow.ok (by decide) (r.lo, r.hi, r.mu, r.no)
theorem row_self (T : Tx K mg) (r : RowI) : SIns T.C_Row (R_Row_eq T) (rowI T r) (rowI T r) true := ⟨_, _, rfl, rfl, ⟨_, _, _, _, _, _, _, _, rfl, row_ok r, row_ok r, by rw [eqv_self _ (D.ok_pl (row_ok r))]⟩, fun z => nomatch z⟩
theorem dks_self {S : DRel} {kvs : List (Key × D)} (nd : (kvs.map (·.1)).Nodup) (h : forall p, p ∈ kvs -> S p.2 p.2 true) : forall l : List (Key × D), (forall p, p ∈ l -> p ∈ kvs) -> DKs S kvs l true
  | [], _ => .nil
  | (k, d) :: l, hl => .tt (vD_at nd (hl _ List.mem_cons_self)) (h (k, d) (hl _ List.mem_cons_self)) (dks_self nd h l fun p hp => hl p (List.mem_cons_of_mem _ hp))
theorem sdic_self {S : DRel} {kvs : List (Key × D)} (nd : (kvs.map (·.1)).Nodup) (h : forall p, p ∈ kvs -> S p.2 p.2 true) : SDic S (.dK kvs) (.dK kvs) true := ⟨kvs, kvs, rfl, rfl, .inr ⟨rfl, dks_self nd h kvs fun p hp => hp⟩, fun z => nomatch z⟩
theorem spl_self {d : D} (h : d.ok = true) : SPl d d true := ⟨h, h, (eqv_self _ (D.ok_pl h)).symm⟩
theorem names_ok (l : List Str) : (namesD l).ok = true := (dT dStr).ok (by decide) l
theorem kind_self (T : Tx K mg) {k : KindI} (nd : (k.rows.map (·.1)).Nodup) : SIns T.C_Kind (R_Kind_eq T) (kindI T k) (kindI T k) true := by
  refine ⟨_, _, rfl, rfl, ⟨_, _, _, _, true, rfl, ⟨_, _, rfl, rfl, .tt (.inl (spl_self (names_ok k.cs))) (.tt (.inr (sdic_self ?_ fun p hp => ?_)) .nil), fun z => nomatch z⟩, rfl⟩, fun z => nomatch z⟩
  · unfold rowsI
    rw [keys_inr k.rows (rowI T)]
    exact nd_inr nd
  · obtain ⟨q, hq, rfl⟩ := List.mem_map.mp hp
    exact row_self T q.2
theorem kinds_self (T : Tx K mg) {ks : Kinds} (neat : Neat ks) : SDic (SIns T.C_Kind (R_Kind_eq T)) (.dK (kindsI T ks)) (.dK (kindsI T ks)) true := by
  refine sdic_self ?_ fun p hp => ?_
  · unfold kindsI
    rw [keys_inr ks (kindI T)]
    exact nd_inr neat.nd
  · obtain ⟨q, hq, rfl⟩ := List.mem_map.mp hp
    exact kind_self T (neat.kind q hq).nd
theorem schema_self (T : Tx K mg) {ks : Kinds} (neat : Neat ks) {cs ls : List Str} {f g : Str -> Int} : R_Schema_eq T [schD T cs ls ks f, schD T cs ls ks g] (.bl true) := ⟨_, _, _, _, _, _, _, _, true, rfl, ⟨_, _, rfl, rfl, .tt (.inl (spl_self (names_ok cs))) (.tt (.inl (spl_self (names_ok ls))) (.tt (.inr (kinds_self T neat)) .nil)), fun z => nomatch z⟩, rfl⟩
theorem schema_labs (T : Tx K mg) {ks : Kinds} {cs ls ms : List Str} (h : ls.length ≠ ms.length) {f g : Str -> Int} : SIns T.C_Schema (R_Schema_eq T) (schD T cs ls ks f) (schD T cs ms ks g) false := by
  have ap : Apart (namesD ls) (namesD ms) := apart_len (by rw [List.length_map, List.length_map]; exact h)
  have e : PyData.eqv (namesD ls).py (namesD ms).py = false := by
    rw [show PyData.eqv (namesD ls).py (namesD ms).py = _ from (dT dStr).eqv ls ms]
    exact decide_eq_false fun e => h (by rw [e])
  refine ⟨_, _, rfl, rfl, ⟨_, _, _, _, _, _, _, _, false, rfl, ⟨_, _, rfl, rfl, .tt (.inl (spl_self (names_ok cs))) (.ff (.inl ⟨names_ok ls, names_ok ms, e.symm⟩)), fun _ => apart_at (i := 1) rfl rfl ap⟩, rfl⟩, fun _ => apart_ins (f := "labels") rfl rfl ap⟩
/-! ### turned round -/
theorem sortKV_rev {α : Type} {l : List (Str × α)} {f : α -> D} (h : (l.map (·.1)).Pairwise fun a b => leS a b = true) (nd : (l.map (·.1)).Nodup) : sortKV (l.map fun p => ((.inr p.1 : Key), f p.2)).reverse = l.map fun p => ((.inr p.1 : Key), f p.2) := by
  have nd2 : ((l.map fun p => ((.inr p.1 : Key), f p.2)).map (·.1)).Nodup := by
    rw [keys_inr l f]
    exact nd_inr nd
  have ek : sortS (keysS (l.map fun p => ((.inr p.1 : Key), f p.2)).reverse) = l.map (·.1) := by
    rw [← List.map_reverse, keysS_strs, List.map_reverse, sortS_eq (List.reverse_perm _), sortS_id h]
  unfold sortKV
  rw [ek, List.map_map]
  refine List.map_congr_left fun p hp => ?_
  have nd3 : ((l.map fun p => ((.inr p.1 : Key), f p.2)).reverse.map (·.1)).Nodup := by
    rw [List.map_reverse]
    exact (List.reverse_perm _).symm.nodup nd2
  show ((Sum.inr p.1 : Key), (vD (l.map fun p => ((.inr p.1 : Key), f p.2)).reverse (Sum.inr p.1 : Key)).getD .non) = _
  rw [vD_at nd3 (p := ((Sum.inr p.1 : Key), f p.2)) (List.mem_reverse.mpr (List.mem_map.mpr ⟨p, hp, rfl⟩))] <;> rfl
theorem normN_rev {l : List Str} {k : Int} (h : l.Pairwise fun a b => leS a b = true) (nm : forall x, x ∈ l -> nameS x = true) (nd : l.Nodup) (hl : (l.length : Int) ≤ k) : normN (.lst (l.map .str).reverse) k = namesD l := by
  have ha : areN (.lst (l.map .str).reverse) k = true := by
    rw [← List.map_reverse]
    exact areN_of (l := l.reverse) (fun x hx => nm x (List.mem_reverse.mp hx)) ((List.reverse_perm _).symm.nodup nd) (by rw [List.length_reverse]; exact hl)
  show (if areN (.lst (l.map .str).reverse) k = true then D.tup (sortD (l.map .str).reverse) else .lst (l.map .str).reverse) = _
  rw [if_pos ha, ← List.map_reverse, sortD_strs, sortS_eq (List.reverse_perm _), sortS_id h] <;> rfl
theorem NeatK.sortR {T : Tx K mg} {N : List Str} {k : KindI} (h : NeatK N k) : normR (.dK (rowsI T k.rows).reverse) = .dK (rowsI T k.rows) := by
  show (if labsB (rowsI T k.rows).reverse = true then D.dK (sortKV (rowsI T k.rows).reverse) else .dK (rowsI T k.rows).reverse) = _
  rw [if_pos, show sortKV (rowsI T k.rows).reverse = rowsI T k.rows from sortKV_rev (f := rowI T) h.le h.nd]
  unfold labsB
  rw [List.all_reverse]
  exact labsB_of (f := rowI T) fun p hp => (ab_nm p.1 (h.keys.subset (List.mem_map.mpr ⟨p, hp, rfl⟩))).1
theorem neat_okRev {T : Tx K mg} {N : List Str} {k : KindI} (h : NeatK N k) : okR (.dK (rowsI T k.rows).reverse) := by
  rcases neat_okR (T := T) h with z | ⟨kvs, e, h1, h2, h3⟩
  · cases z
  · cases e
    exact .inr ⟨_, rfl, by rw [List.length_reverse]; exact h1, fun p hp => h2 p (List.mem_reverse.mp hp), by rw [List.map_reverse]; exact (List.reverse_perm _).symm.nodup h3⟩
end

end K02
namespace K02
open PySem PySem.Spec PyProof.Rows L2 Ak
/-! ### the law, statements 5 to 7 -/
open NdefX (NF envF ncx NScope CellsAt Caps startF slotAt slotAt_of nscope_by cells_of)
open LamX (CodeO TabS Tabs ExtN TabB)
theorem sort_ba : sortS (["b", "a"] : List Str) = AB := (sortS_eq (List.Perm.swap _ _ _)).trans (sortS_id ab_le)
theorem abc_le : (["a", "b", "c"] : List Str).Pairwise fun a b => leS a b = true := by decide +kernel
theorem ab_abc : forall x, x ∈ ([("a" : Str), "b"] : List Str) -> x ∈ (["a", "b", "c"] : List Str) := by decide
section
variable {P : Program} {w : World} {K : PySem.W.Frag} {mg : Str -> Option Value} {base : Heap}
theorem lawA (T : Tx K mg) {A : Around} {outer : List Env} {s : Shared} {H : Hp} {E : XK} {tp : Addr} (TB : TabB base mg T.c_law tp) (hr : Room 11 (A.deeper (envOfC "law" (defScope s_law) s.heap.objs.size T.f_law (.ref T.c_law)))) {Q : VK} (hQ : forall H2, Q (.bl true) H2) :
    exists t, PSs (LC P w base T (.ref T.c_law) A outer s H E) (List.drop 5 (defBody s_law)) t ∧ forall (p a : Addr) (ns : List Int) (ks : Kinds) (f : Str -> Int) (vk vs vn : V) (o0 o3 o6 o7 o8 o9 o10 o11 o12 o13 o14 o15 o16 o17 o18 o19 o20 o21 o22 o23 o24 o25 o26 o27 o28 : Option V) (H1 : Hp),
      Lw K p a tp lawQ ns H1 -> ns.length ≤ 1000 -> ks ≠ [] -> Neat ks -> Least (ks.map (·.1)) ks.mu ks.no f -> Rep (msk (LM p tp) H1) (.dK (kindsT ks)) vk -> Rep (msk (LM p tp) H1) (schD T ([("g" : Str), "r"] : List Str) ([("a" : Str), "b"] : List Str) ks f) vs -> Rep (msk (LM p tp) H1) (.lst ((ks.map (·.1)).map .str)) vn ->
      t { nx := fun _ H' => Q .non H', rt := Q } (SL o0 (some (.ref p)) (some vk) o3 (some vs) (some vn) o6 o7 o8 o9 o10 o11 o12 o13 o14 o15 o16 o17 o18 o19 o20 o21 o22 o23 o24 o25 o26 o27 o28) H1 := by
  obtain ⟨t2, h2t, k2'⟩ := law2 (P := P) (w := w) (base := base) (outer := outer) (H := H) (E := E) T TB hr hQ
  refine ⟨_, (pss_cons (ps_set (i := 17) sc_law.nd rfl (.inl rfl) pe_dnewK)
      (pss_cons (ps_lockS (ps_for PassesOwn.leaving rfl (pi_items (pv 2)) (pg_tup rfl (pgs_cons (pg_name (i := 6) sc_law.nd rfl (.inl rfl)) (pgs_cons (pg_tup rfl (pgs_cons (pg_name (i := 7) sc_law.nd rfl (.inr rfl)) (pgs_cons (pg_name (i := 8) sc_law.nd rfl (.inl rfl)) pgs_nil))) pgs_nil)))
      (pss_cons (ps_setLc (i := 18) (own := [("label", 10), ("low", 11), ("high", 12), ("musts", 13), ("nots", 14)]) (g := (gTup K 2 (gCons (gName 10) (gCons (gTup K 4 (gCons (gName 11) (gCons (gName 12) (gCons (gName 13) (gCons (gName 14) gNil))))) gNil)))) (tt := tYes) (te := (tTup (tCons (tVar 10) (tCons (tMake T.C_Row (SpI T.C_Row (R_row K) nox) [] E0 (tCons (tVar 11) (tCons (tVar 12) (tCons (tRevL K (tCB (rListA K) (tCons (tVar 13) tNil))) (tCons (tVar 14) tNil))))) tNil)))) rfl sc_law.nd rfl rfl (sw_true rfl rfl rfl (by decide +kernel)) (pi_any (pe_revL (pe_listItemsF rfl (pv 8) rfl T.n_list (by decide +kernel)))) (blkOk_by (own := [("label", 10), ("low", 11), ("high", 12), ("musts", 13), ("nots", 14)]) (N := ["script", "draw", "kinds", "strata", "schema", "names", "name", "colours", "rows", "mine", "label", "low", "high", "musts", "nots", "row", "number", "again", "told", "parts", "one", "odd", "wrong", "part", "ring", "straight", "labels", "some", "due"]) (sc := (defScope s_law)) (by decide +kernel)) (fun _ _ _ _ _ => by exact (pg_tup rfl (pgs_cons (pg_name (i := 10) sc_law.nd rfl (.inl rfl)) (pgs_cons (pg_tup rfl (pgs_cons (pg_name (i := 11) sc_law.nd rfl (.inl rfl)) (pgs_cons (pg_name (i := 12) sc_law.nd rfl (.inl rfl)) (pgs_cons (pg_name (i := 13) sc_law.nd rfl (.inl rfl)) (pgs_cons (pg_name (i := 14) sc_law.nd rfl (.inl rfl)) pgs_nil))))) pgs_nil)))) (fun _ _ _ _ _ => by exact pts_nil) (fun _ _ _ _ _ => by exact (pe_tup (pa_cons (pv 10) (pa_cons (pe_make T.mk_Row (ok_Row_init T) (hr.mono (by decide)) rfl T.g_Row T.B_Row_init_5.choose_spec.2 T.B_Row_init_5.choose_spec.1 passL (pa_cons (pv 11) (pa_cons (pv 12) (pa_cons (pe_revL (pe_callTy (call_listA rfl) rfl T.n_list (by decide +kernel) (by exact (pa_cons (pv 13) pa_nil)))) (pa_cons (pv 14) pa_nil))))) pa_nil)))))
      (pss_one (ps_dput (hu_of hr) (pv 17) (pv 6) (pe_make T.mk_Kind (ok_Kind_init T) (hr.mono (by decide)) rfl T.g_Kind T.B_Kind_init .nil passL (pa_cons (pe_revL (pe_callTy (call_listA rfl) rfl T.n_list (by decide +kernel) (by exact (pa_cons (pv 7) pa_nil)))) (pa_cons (pe_callTy (call_dictP rfl) rfl T.n_dict (by decide +kernel) (by exact (pa_cons (pv 18) pa_nil))) pa_nil))) rfl)))))
      (pss_cons (ps_if (PW.pt (pw_or (pt_cmpR (op_neOwn T.eq_Schema (fnr_of (ok_Schema_eq T) T.B_Schema_eq) (hr.mono (by decide)) (fun _ _ _ _ ⟨_, _, _, _, _, _, _, _, _, _, _, _, h⟩ => h)) (pe_make T.mk_Schema (ok_Schema_init T) (hr.mono (by decide)) rfl T.g_Schema T.B_Schema_init .nil passL (pa_cons (pe_lst (pa_cons pe_str (pa_cons pe_str pa_nil))) (pa_cons (pe_lst (pa_cons pe_str (pa_cons pe_str pa_nil))) (pa_cons (pv 17) pa_nil)))) (pv 4) (nomark _)) (pw_or1 (pt_cmpR (op_eqR (rcB_ins (fnr_of (ok_Schema_eq T) T.B_Schema_eq) T.q_Schema noE) (hr.mono (by decide))) (pe_make T.mk_Schema (ok_Schema_init T) (hr.mono (by decide)) rfl T.g_Schema T.B_Schema_init .nil passL (pa_cons (pe_tup (pa_cons pe_str (pa_cons pe_str pa_nil))) (pa_cons (pe_tup (pa_cons pe_str (pa_cons pe_str (pa_cons pe_str pa_nil)))) (pa_cons (pv 17) pa_nil)))) (pv 4) (nomark _))))) (pss_one (ps_ret pe_bl)) pss_nil)
      h2t))), ?_⟩
  intro p a ns ks f vk vs vn o0 o3 o6 o7 o8 o9 o10 o11 o12 o13 o14 o15 o16 o17 o18 o19 o20 o21 o22 o23 o24 o25 o26 o27 o28 H1 l hn nk neat hf rk rs rn
  have m1 := l.mok
  have lnk := neat.few
  refine st_seq (fun pm hpm => ?_)
  dsimp only [gName]
  have eA : Same H1 (upd H1 pm (.dK [])) := same_new hpm
  have apm : upd H1 pm (.dK []) pm = some (.dK []) := upd_same
  generalize upd H1 pm (.dK []) = A0 at eA apm
  have nM : ¬ LM p tp pm := m1.new hpm
  let N : MK := fun b => LM p tp b ∨ b = pm
  have mA : Mok N A0 := (m1.up eA).add apm
  have sA : Same (msk (LM p tp) H1) (msk N A0) := fun b o h => by
    obtain ⟨n, h⟩ := msk_of h
    rw [msk_at fun z => z.elim n fun z => by rw [z, hpm] at h; cases h]
    exact eA b o h
  have rA := rk.up sA
  show tSeq _ _ _ (SL o0 (some (.ref p)) (some vk) o3 (some vs) (some vn) o6 o7 o8 o9 o10 o11 o12 o13 o14 o15 o16 (some (.ref pm)) o18 o19 o20 o21 o22 o23 o24 o25 o26 o27 o28) A0
  refine st_seq (st_lockS (M := N) mA rA fun Hl b od ws back E' ml fl fe eb nmb hb rp ul el offs lk => ?_)
  have pmb : pm ≠ b := fun z => nmb (.inr z.symm)
  have hlpm : Hl pm = some (.dK []) := by rw [offs pm (.inr rfl)]; exact apm
  refine st_for (M := N) (ds := (kindsT ks).map Ak.pairD) ml (ia_items (a := b) (od := od) (ws := ws) (fun H1 e1 Q q => ⟨_, rfl, q _ H1 (Same.refl H1) eb⟩) hb rp) (fun G1 i s' G' => Same Hl G1 ∧ SameE (fun c => c = pm) G1 G' ∧ exists (wm : List (Key × V)) (o6 o7 o8 o18 : Option V), s' = SL o0 (some (.ref p)) (some vk) o3 (some vs) (some vn) o6 o7 o8 o9 o10 o11 o12 o13 o14 o15 o16 (some (.ref pm)) o18 o19 o20 o21 o22 o23 o24 o25 o26 o27 o28 ∧ G' pm = some (.dK wm) ∧ RepP (msk N G') (kindsI T (ks.take i)) wm)
    (fun G1 g1 => ⟨g1, SameE.refl _, [], o6, o7, o8, o18, rfl, g1 _ _ hlpm, .nil⟩) (fun G1 i s' G' ⟨g1, e, _⟩ => kp_of e (fun c z => .inr z) fun c z o u h => ?_) ?_ ?_
  · have z' : c = pm := z
    rw [z', g1 _ _ hlpm] at h
    cases h
  · rintro G1 i d x s' G' G'' g1 hi hd ⟨_, eG, wm, o6, o7, o8, o18, rfl, gpm, rpm⟩ g2 rx
    rw [List.length_map] at hi
    unfold kindsT at hi
    rw [List.length_map] at hi
    obtain ⟨nm, k, hk0⟩ : exists nm k, ks[i]? = some (nm, k) := ⟨ks[i].1, ks[i].2, by rw [List.getElem?_eq_getElem hi]⟩
    have ed : d = .tup [.str nm, .tup [namesD k.cs, .dK (rowsT k.rows)]] := by
      unfold kindsT at hd
      rw [List.getElem?_map, List.getElem?_map, hk0] at hd
      exact (Option.some.inj hd).symm
    subst ed
    have memk : (nm, k) ∈ ks := List.mem_of_getElem? hk0
    have nk := neat.kind _ memk
    have mG : Mok N G' := SameE.mok eG (ml.up g1) fun c z => by
      have z' : c = pm := z
      rw [z']
      exact ⟨_, gpm, fun xs e => nomatch e⟩
    have mG2 := mG.up g2
    have rx0 := rx N mG fun _ z => .inl z
    obtain ⟨t, xs, et, ht, rxs⟩ := rx0
    obtain ⟨u1, u2, exs, ru1, ru2⟩ := rxs.two_of
    subst exs et
    obtain ⟨t2, ys, et2, ht2, rys⟩ := ru2
    obtain ⟨y1, y2, eys, ry1, ry2⟩ := rys.two_of
    subst eys et2
    refine ⟨t, _, rfl, SqT.of (msk_same _ _ ht), rfl, _, _, rfl, _, [], rfl, ⟨t2, _, rfl, SqT.of (msk_same _ _ ht2), rfl, y1, _, rfl, y2, _, rfl, rfl, ?_⟩⟩
    refine ⟨rfl, ?_⟩
    show tSeq _ _ _ (SL o0 (some (.ref p)) (some vk) o3 (some vs) (some vn) (some u1) (some y1) (some y2) o9 o10 o11 o12 o13 o14 o15 o16 (some (.ref pm)) o18 o19 o20 o21 o22 o23 o24 o25 o26 o27 o28) G''
    have lr : k.rows.length ≤ 2 := nk.few
    -- told
    refine st_seq (st_set (M := N) (P := fun y G => Rep G (.lst (((rowsI T k.rows).reverse).map Ak.pairD)) y) (Ev.to (ev_lcm (ds := ((rowsT k.rows).map Ak.pairD).reverse) (fun d => match d with
      | .tup [.str l, .tup [lo, hi, .tup mu, no]] => .tup [.str l, rowD T lo hi (normN (.lst mu.reverse) 16) (normN no 16)]
      | _ => .non) mG2 (ia_list (ev_rev mG2 (ev_listItems mG2 (ev_var rfl ry2)))) (by unfold rowsT; rw [List.length_reverse, List.length_map, List.length_map]; omega) fun N2 H3 d x mN eN hd rd => ?_) ?_) fun vt G3 e3 rt => ?_)
    · obtain ⟨q0, hq0, rfl⟩ := List.mem_map.mp (List.mem_reverse.mp hd)
      obtain ⟨q, hq, rfl⟩ := List.mem_map.mp hq0
      obtain ⟨ra1, ra2, ra3, _⟩ := NeatR.nmu neat (nk.row q hq).mu
      obtain ⟨rb1, rb2, rb3, _⟩ := NeatR.nmu neat (nk.row q hq).no
      obtain ⟨t, xs, et, ht, rxs⟩ := rd
      obtain ⟨x1, x2, exs, rx1, rx2⟩ := rxs.two_of
      subst exs et
      obtain ⟨t2, zs, et2, ht2, rzs⟩ := rx2
      obtain ⟨z1, zs1, ez, rz1, rzs⟩ := rzs
      obtain ⟨z2, z3, z4, ez2, rz2, rz3, rz4⟩ := Reps.three_of (show Reps (msk N2 H3) [hiD q.2.hi, namesD q.2.mu, namesD q.2.no] zs1 from rzs)
      subst ez ez2 et2
      refine elt_all (s2 := ((((((wipe (SL o0 (some (.ref p)) (some vk) o3 (some vs) (some vn) (some u1) (some y1) (some y2) o9 o10 o11 o12 o13 o14 o15 o16 (some (.ref pm)) o18 o19 o20 o21 o22 o23 o24 o25 o26 o27 o28) [10, 11, 12, 13, 14]).set 10 (some x1)).set 11 (some z1)).set 12 (some z2)).set 13 (some z3)).set 14 (some z4))) (fun Q q => ⟨t, _, rfl, SqT.of (msk_same _ _ ht), rfl, x1, _, rfl, _, [], rfl, ⟨t2, _, rfl, SqT.of (msk_same _ _ ht2), rfl, z1, _, rfl, z2, _, rfl, z3, _, rfl, z4, _, rfl, rfl, rfl, q⟩⟩) rfl ?_
      have rev : EvD N2 (tRevL K (tCB (rListA K) (tCons (tVar 13) tNil))) ((((((wipe (SL o0 (some (.ref p)) (some vk) o3 (some vs) (some vn) (some u1) (some y1) (some y2) o9 o10 o11 o12 o13 o14 o15 o16 (some (.ref pm)) o18 o19 o20 o21 o22 o23 o24 o25 o26 o27 o28) [10, 11, 12, 13, 14]).set 10 (some x1)).set 11 (some z1)).set 12 (some z2)).set 13 (some z3)).set 14 (some z4)) H3 (.lst (q.2.mu.map .str).reverse) := ev_rev mN (ev_listL mN (ea_one (ev_var rfl rz3)) (.inr rfl))
      have fr : (D.lst (q.2.mu.map D.str).reverse).fi = true := by
        rw [← List.map_reverse]
        exact fi_names (l := q.2.mu.reverse) (fun x hx => (ra1 x (List.mem_reverse.mp hx)).2) (by rw [List.length_reverse]; omega)
      exact ev_tup mN (ea_cons (ev_var rfl rx1) (ea_one (ev_make (C := T.C_Row) mN (ea_cons (ev_var rfl rz1) (ea_cons (ev_var rfl rz2) (ea_cons rev (ea_one (ev_var rfl rz4))))) ⟨_, _, _, _, rfl, .inl fr, .inl (fi_names (fun x hx => (rb1 x hx).2) (by omega)), rfl⟩))) (by simp)
    · rw [List.map_reverse, List.map_reverse]
      congr 2
      unfold rowsT rowsI
      rw [List.map_map, List.map_map, List.map_map]
      refine List.map_congr_left fun q hq => ?_
      obtain ⟨ra1, ra2, ra3, ra4⟩ := NeatR.nmu neat (nk.row q hq).mu
      obtain ⟨_, _, _, rb4⟩ := NeatR.nmu neat (nk.row q hq).no
      show D.tup [.str q.1, rowD T (.int q.2.lo) (hiD q.2.hi) (normN (.lst (q.2.mu.map D.str).reverse) 16) (normN (namesD q.2.no) 16)] = .tup [.str q.1, rowI T q.2]
      rw [normN_rev ra4 (fun x hx => (ra1 x hx).1) ra2 (by omega), normN_id rb4] <;> rfl
    dsimp only
    have mG3 := mG2.up e3
    have ru1' := ru1.up (msk_mono (M := N) e3)
    have ry1' := ry1.up (msk_mono (M := N) e3)
    -- again[name] = ..
    have ndR : (((rowsI T k.rows).reverse).map (·.1)).Nodup := by
      rw [List.map_reverse]
      refine (List.reverse_perm _).symm.nodup ?_
      unfold rowsI
      rw [keys_inr k.rows (rowI T)]
      exact nd_inr nk.nd
    have csfi : (D.lst (k.cs.map D.str).reverse).fi = true := by
      rcases nk.cs with e | e | e <;> rw [e] <;> decide +kernel
    have csn : normN (.lst (k.cs.map D.str).reverse) 6 = namesD k.cs := by
      rcases nk.cs with e | e | e <;> rw [e]
      · exact normN_rev gr_le (by decide +kernel) (by decide) (by decide)
      · exact normN_rev (List.pairwise_singleton _ _) (by decide +kernel) (by decide) (by decide)
      · exact normN_rev (List.pairwise_singleton _ _) (by decide +kernel) (by decide) (by decide)
    refine st_dputM (M := N) (p := pm) (k := .inr nm) (kvs := kindsI T (ks.take i)) (d := kindI T k) (.inr rfl) (fun H1 e1 Q q => ⟨_, rfl, q⟩) (ev_kindX T (c := .lst (k.cs.map D.str).reverse) (r := .dK (rowsI T k.rows).reverse) mG3 (ev_rev mG3 (ev_listL mG3 (ea_one (ev_var rfl ry1')) (.inr rfl))) (Ev.to (ev_dictP (kvs := (rowsI T k.rows).reverse) mG3 (ea_one (ev_var rfl rt))) (by rw [foldP_nodup ndR])) csfi (neat_okRev nk) csn nk.sortR) (ev_var rfl ru1') ((g2.trans e3) _ _ gpm) (rpm.fx (Fx.of (msk_mono (g2.trans e3)))) (by unfold kindsI; rw [List.length_map, List.length_take]; omega) ?_
    rintro H5 ws2 e5 h5 r5
    refine ⟨g1, (eG.same (g2.trans e3)).trans (SameE.x e5 rfl), ws2, _, _, _, _, rfl, h5, ?_⟩
    rw [pD_new _ (by
      unfold kindsI
      rw [List.map_map]
      intro z
      obtain ⟨y, hy, e⟩ := List.mem_map.mp z
      have e' : (Sum.inr y.1 : Key) = .inr nm := e
      refine not_before neat.nd (i := i) (x := nm) (by rw [List.getElem?_map, hk0] <;> rfl) ?_
      rw [← List.map_take]
      exact List.mem_map.mpr ⟨y, hy, Sum.inr.inj e'⟩)] at r5
    rw [take_get hk0]
    unfold kindsI at r5 ⊢
    rw [List.map_append]
    exact r5
  · rintro G1 s' G' g1 ⟨_, eG, wm, o6, o7, o8, o18, rfl, gpm, rpm⟩
    have eN : SameE N Hl G' := (SameE.of g1).trans (eG.sub fun c z => .inr z)
    refine el.nx _ G' eN ?_
    rw [List.length_map] at rpm
    unfold kindsT at rpm
    rw [List.length_map, List.take_length] at rpm
    have bpm : back G' pm = some (.dK wm) := by rw [ul.off G' pm (.inr rfl)]; exact gpm
    have rpb := rpm.fx (ul.fx G' eN)
    have eB : SameE (fun c => c = pm) A0 (back G') := fun c o n h => by
      rcases Classical.em (LM p tp c) with z | z
      · rw [ul.off G' c (.inl z)]
        exact eG c o n (g1 _ _ (by rw [offs c (.inl z)]; exact h))
      · exact ul.same G' eN c o (fun y => y.elim z n) h
    generalize back G' = B0 at bpm rpb eB
    have eH : Same H1 B0 := fun c o h => eB c o (fun z => by rw [z, hpm] at h; cases h) (eA c o h)
    have lB := l.up eH
    have mB := lB.mok
    have ra : Rep (msk (LM p tp) B0) (.dK (kindsI T ks)) (.ref pm) := ⟨pm, wm, rfl, .inl (by rw [msk_at nM]; exact bpm), repK_iff.mpr (rpb.fx (Fx.of (msk_less fun c z => .inl z)))⟩
    have rsB := rs.up (msk_mono (M := LM p tp) eH)
    dsimp only
    refine st_seq (st_ifF (et_orF (et_test (M := LM p tp) (ev_op (ev_makeL (C := T.C_Schema) (R := R_schema T) (X := X_schema T) mB (ea_cons (ev_lst (ds := [.str "g", .str "r"]) mB (ea_cons ev_str (ea_one ev_str))) (ea_cons (ev_lst (ds := [.str "b", .str "a"]) mB (ea_cons ev_str (ea_one ev_str))) (ea_one (ev_var rfl ra)))) (neat_schema neat hf (lc := ["g", "r"]) (ll := ["b", "a"]) (by decide +kernel) (by decide +kernel) ⟨by decide +kernel, rfl, by simp⟩ ⟨by decide +kernel, rfl⟩ (sortS_id gr_le) sort_ba fun x hx => hx)) (ev_var rfl rsB) (rd_neOwn (k := true) mB (schema_self T neat))))
      (et_test (M := LM p tp) (ev_op (ev_makeL (C := T.C_Schema) (R := R_schema T) (X := X_schema T) mB (ea_cons (ev_tup (ds := [.str "r", .str "g"]) mB (ea_cons ev_str (ea_one ev_str))) (ea_cons (ev_tup (ds := [.str "a", .str "b", .str "c"]) mB (ea_cons ev_str (ea_cons ev_str (ea_one ev_str)))) (ea_one (ev_var rfl ra)))) (neat_schema neat hf (lc := ["r", "g"]) (ll := ["a", "b", "c"]) (by decide +kernel) (by decide +kernel) ⟨by decide +kernel, rfl, by simp⟩ ⟨by decide +kernel, rfl⟩ sort_rg (sortS_id abc_le) ab_abc)) (ev_var rfl rsB) (rd_eqR lift_ins (schema_labs T (by decide)))))) fun H3 e3 => ?_)
    dsimp only [tNext]
    have e13 := eH.trans e3
    exact k2' p a ns ks f vs vn _ _ _ _ _ _ _ _ _ _ _ _ _ _ _ _ _ _ _ _ _ _ _ _ _ _ H3 (l.up e13) hn nk neat (rs.up (msk_mono e13)) (rn.up (msk_mono e13))
end

end K02
namespace K02
open PySem PySem.Spec PyProof.Rows L2 Ak
/-! ### the law, statement 4 -/
open NdefX (NF envF ncx NScope CellsAt Caps startF slotAt slotAt_of nscope_by cells_of)
open LamX (CodeO TabS Tabs ExtN TabB)
def row00 : RowI := ⟨0, some 0, [], []⟩
section
variable {K : PySem.W.Frag} {mg : Str -> Option Value}
theorem both_row (T : Tx K mg) {rows : List (Str × RowI)} (nd : (rows.map (·.1)).Nodup) (lb : Str) : exists r, (vD (rowsT rows) (.inr lb)).getD (.tup [.int 0, .int 0, .tup [], .tup []]) = rowT r ∧ (vD (rowsI T rows) (.inr lb)).getD (rowD T (.int 0) (.int 0) (.tup []) (.tup [])) = rowI T r ∧ (r = row00 ∨ exists q, q ∈ rows ∧ q.2 = r) := by
  by_cases h : lb ∈ rows.map (·.1)
  · obtain ⟨q, hq, e⟩ := List.mem_map.mp h
    refine ⟨q.2, ?_, ?_, .inr ⟨q, hq, rfl⟩⟩
    · have z := vD_at (kvs := rowsT rows) (by unfold rowsT; rw [keys_inr rows rowT]; exact nd_inr nd) (p := (.inr q.1, rowT q.2)) (List.mem_map.mpr ⟨q, hq, rfl⟩)
      rw [show vD (rowsT rows) (.inr lb) = some (rowT q.2) from by rw [← e]; exact z] <;> rfl
    · have z := vD_at (kvs := rowsI T rows) (by unfold rowsI; rw [keys_inr rows (rowI T)]; exact nd_inr nd) (p := (.inr q.1, rowI T q.2)) (List.mem_map.mpr ⟨q, hq, rfl⟩)
      rw [show vD (rowsI T rows) (.inr lb) = some (rowI T q.2) from by rw [← e]; exact z] <;> rfl
  · refine ⟨row00, ?_, ?_, .inl rfl⟩
    · rw [vD_none (kvs := rowsT rows) (k := .inr lb) (by unfold rowsT; rw [keys_inr rows rowT]; exact fun z => h (by obtain ⟨x, hx, ex⟩ := List.mem_map.mp z; rw [← Sum.inr.inj ex]; exact hx))] <;> rfl
    · rw [vD_none (kvs := rowsI T rows) (k := .inr lb) (by unfold rowsI; rw [keys_inr rows (rowI T)]; exact fun z => h (by obtain ⟨x, hx, ex⟩ := List.mem_map.mp z; rw [← Sum.inr.inj ex]; exact hx))] <;> rfl
end
section
variable {P : Program} {w : World} {K : PySem.W.Frag} {mg : Str -> Option Value} {base : Heap}
theorem lawB (T : Tx K mg) {A : Around} {outer : List Env} {s : Shared} {H : Hp} {E : XK} {tp : Addr} (TB : TabB base mg T.c_law tp) (hr : Room 11 (A.deeper (envOfC "law" (defScope s_law) s.heap.objs.size T.f_law (.ref T.c_law)))) {Q : VK} (hQ : forall H2, Q (.bl true) H2) :
    exists t, PSs (LC P w base T (.ref T.c_law) A outer s H E) (List.drop 4 (defBody s_law)) t ∧ forall (p a : Addr) (ns : List Int) (ks : Kinds) (f : Str -> Int) (vk vs vn : V) (o0 o3 o6 o7 o8 o9 o10 o11 o12 o13 o14 o15 o16 o17 o18 o19 o20 o21 o22 o23 o24 o25 o26 o27 o28 : Option V) (H1 : Hp),
      Lw K p a tp lawQ ns H1 -> ns.length ≤ 1000 -> ks ≠ [] -> Neat ks -> Least (ks.map (·.1)) ks.mu ks.no f -> Rep (msk (LM p tp) H1) (.dK (kindsT ks)) vk -> Rep (msk (LM p tp) H1) (schD T ([("g" : Str), "r"] : List Str) ([("a" : Str), "b"] : List Str) ks f) vs -> Rep (msk (LM p tp) H1) (.lst ((ks.map (·.1)).map .str)) vn ->
      t { nx := fun _ H' => Q .non H', rt := Q } (SL o0 (some (.ref p)) (some vk) o3 (some vs) (some vn) o6 o7 o8 o9 o10 o11 o12 o13 o14 o15 o16 o17 o18 o19 o20 o21 o22 o23 o24 o25 o26 o27 o28) H1 := by
  obtain ⟨tA, hAt, kA⟩ := lawA (P := P) (w := w) (base := base) (outer := outer) (H := H) (E := E) T TB hr hQ
  refine ⟨_, (pss_cons (ps_lockS (ps_for PassesOwn.leaving rfl (pi_items (pv 2)) (pg_tup rfl (pgs_cons (pg_name (i := 6) sc_law.nd rfl (.inl rfl)) (pgs_cons (pg_tup rfl (pgs_cons (pg_name (i := 7) sc_law.nd rfl (.inr rfl)) (pgs_cons (pg_name (i := 8) sc_law.nd rfl (.inl rfl)) pgs_nil))) pgs_nil)))
      (pss_cons (ps_set (i := 9) sc_law.nd rfl (.inl rfl) (pe_dget (hu_of hr) (pe_fld (pv 4) rfl) (pv 6) (fun _ _ => rfl)))
      (pss_cons (ps_if (PW.pt (pw_or (pt_cmpR (op_neU hr.units) (pe_fld (pv 9) rfl) (pe_callTy call_tuple_of rfl T.n_tuple (by decide +kernel) (by exact (pa_cons (pe_callB (call_sortC rfl hr.units) rfl T.n_sorted PyProof.Rows.boot_sorted (by exact (pa_cons (pv 7) pa_nil))) pa_nil))) (nomark _)) (pw_or1 (pt_cmpR (op_neU hr.units) (pe_callTy (call_listA rfl) rfl T.n_list (by decide +kernel) (by exact (pa_cons (pe_fld (pv 9) rfl) pa_nil))) (pe_callB (call_sortC rfl hr.units) rfl T.n_sorted PyProof.Rows.boot_sorted (by exact (pa_cons (pv 8) pa_nil))) (nomark _))))) (pss_one (ps_ret pe_bl)) pss_nil)
      (pss_one (ps_for PassesOwn.leaving rfl (pi_any (pe_tup (pa_cons pe_str (pa_cons pe_str (pa_cons pe_str pa_nil))))) (pg_name (i := 10) sc_law.nd rfl (.inl rfl))
      (pss_cons (ps_asg (pe_dget2 (hu_of hr) (pv 8) (pv 10) (pe_tup (pa_cons pe_int (pa_cons pe_int (pa_cons (pe_tup pa_nil) (pa_cons (pe_tup pa_nil) pa_nil))))) ⟨rfl, rfl, rfl, rfl⟩) (pg_tup rfl (pgs_cons (pg_name (i := 11) sc_law.nd rfl (.inr rfl)) (pgs_cons (pg_name (i := 12) sc_law.nd rfl (.inr rfl)) (pgs_cons (pg_name (i := 13) sc_law.nd rfl (.inl rfl)) (pgs_cons (pg_name (i := 14) sc_law.nd rfl (.inl rfl)) pgs_nil))))))
      (pss_cons (ps_set (i := 15) sc_law.nd rfl (.inr rfl) (pe_meth (pv 9) T.cls_Kind T.m_Kind_row (ok_Kind_row T) (hr.mono (by decide)) T.B_Kind_row .nil passL (pa_cons (pv 10) pa_nil)))
      (pss_cons (ps_if (pt_cmpR (op_neU hr.units) (pe_tup (pa_cons (pe_fld (pv 15) rfl) (pa_cons (pe_fld (pv 15) rfl) (pa_cons (pe_fld (pv 15) rfl) (pa_cons (pe_fld (pv 15) rfl) pa_nil))))) (pe_tup (pa_cons (pv 11) (pa_cons (pv 12) (pa_cons (pe_callTy call_tuple_of rfl T.n_tuple (by decide +kernel) (by exact (pa_cons (pe_callB (call_sortC rfl hr.units) rfl T.n_sorted PyProof.Rows.boot_sorted (by exact (pa_cons (pv 13) pa_nil))) pa_nil))) (pa_cons (pe_callTy call_tuple_of rfl T.n_tuple (by decide +kernel) (by exact (pa_cons (pe_callB (call_sortC rfl hr.units) rfl T.n_sorted PyProof.Rows.boot_sorted (by exact (pa_cons (pv 14) pa_nil))) pa_nil))) pa_nil))))) (nomark _)) (pss_one (ps_ret pe_bl)) pss_nil)
      (pss_one (ps_if (pt_val (pe_callB (cr_any rfl) rfl T.n_any PyProof.Rows.boot_any (by exact (pa_cons (pe_lc (own := [("number", 16)]) (g := (gName 16)) (tt := tYes) (te := (tOp (rEqU true) (tMeth T.C_Row "has" (SpR (R_has T)) [] E0 (tVar 15) (tCons (tVar 16) tNil)) (tAndV (tOp (rI0 fun i j => .bl (decide (j ≤ i))) (tVar 16) (tVar 11)) (tOrV (tOp (rIsN) (tVar 12) (tC .non)) (tOp (rI0 fun i j => .bl (decide (i ≤ j))) (tVar 16) (tVar 12)))))) rfl sc_law.nd (pi_range1 rfl T.n_range (pa_cons pe_int pa_nil)) (blkOk_by (own := [("number", 16)]) (N := ["script", "draw", "kinds", "strata", "schema", "names", "name", "colours", "rows", "mine", "label", "low", "high", "musts", "nots", "row", "number", "again", "told", "parts", "one", "odd", "wrong", "part", "ring", "straight", "labels", "some", "due"]) (sc := (defScope s_law)) (by decide +kernel)) (fun _ _ _ _ _ => by exact (pg_name (i := 16) sc_law.nd rfl (.inl rfl))) (fun _ _ _ _ _ => by exact pts_nil) (fun _ _ _ _ _ => by exact (pe_cmpR (op_neU hr.units) (pe_meth (pv 15) T.cls_Row T.m_Row_has (ok_Row_has T) (hr.mono (by decide)) T.B_Row_has .nil passL (pa_cons (pv 16) pa_nil)) (pe_and (pe_cmpR op_ge (pv 16) (pv 11) (nomark _)) (pe_one (pe_or (pe_cmpR op_isN (pv 12) pe_non (nomark _)) (pe_one (pe_cmpR op_le (pv 16) (pv 12) (nomark _)))))) (nomark _)))) pa_nil)))) (pss_one (ps_ret pe_bl)) pss_nil)))))))))))
      hAt), ?_⟩
  intro p a ns ks f vk vs vn o0 o3 o6 o7 o8 o9 o10 o11 o12 o13 o14 o15 o16 o17 o18 o19 o20 o21 o22 o23 o24 o25 o26 o27 o28 H1 l hn nk neat hf rk rs rn
  have m1 := l.mok
  have lnk := neat.few
  refine st_seq (st_lockS (M := LM p tp) m1 rk fun Hl b od ws back E' ml fl fe eb nmb hb rp ul el offs lk => ?_)
  have rsl := Rep.fx fl _ rs
  refine st_for (M := LM p tp) (ds := (kindsT ks).map Ak.pairD) ml (ia_items (a := b) (od := od) (ws := ws) (fun H1 e1 Q q => ⟨_, rfl, q _ H1 (Same.refl H1) eb⟩) hb rp) (fun G1 i s' G' => Same Hl G1 ∧ Same G1 G' ∧ exists (o6 o7 o8 o9 o10 o11 o12 o13 o14 o15 : Option V), s' = SL o0 (some (.ref p)) (some vk) o3 (some vs) (some vn) o6 o7 o8 o9 o10 o11 o12 o13 o14 o15 o16 o17 o18 o19 o20 o21 o22 o23 o24 o25 o26 o27 o28)
    (fun G1 g1 => ⟨g1, Same.refl _, o6, o7, o8, o9, o10, o11, o12, o13, o14, o15, rfl⟩) (fun G1 i s' G' ⟨g1, e, _⟩ => Kp.of e) ?_ ?_
  · rintro G1 i d x s' G' G'' g1 hi hd ⟨_, eG, o6, o7, o8, o9, o10, o11, o12, o13, o14, o15, rfl⟩ g2 rx
    rw [List.length_map] at hi
    unfold kindsT at hi
    rw [List.length_map] at hi
    obtain ⟨nm, k, hk0⟩ : exists nm k, ks[i]? = some (nm, k) := ⟨ks[i].1, ks[i].2, by rw [List.getElem?_eq_getElem hi]⟩
    have ed : d = .tup [.str nm, .tup [namesD k.cs, .dK (rowsT k.rows)]] := by
      unfold kindsT at hd
      rw [List.getElem?_map, List.getElem?_map, hk0] at hd
      exact (Option.some.inj hd).symm
    subst ed
    have memk : (nm, k) ∈ ks := List.mem_of_getElem? hk0
    have nk := neat.kind _ memk
    have eA := (g1.trans eG).trans g2
    have mG := ml.up eA
    have rx0 := rx (LM p tp) (ml.up (g1.trans eG)) fun _ z => .inl z
    obtain ⟨t, xs, et, ht, rxs⟩ := rx0
    obtain ⟨u1, u2, exs, ru1, ru2⟩ := rxs.two_of
    subst exs et
    obtain ⟨t2, ys, et2, ht2, rys⟩ := ru2
    obtain ⟨y1, y2, eys, ry1, ry2⟩ := rys.two_of
    subst eys et2
    refine ⟨t, _, rfl, SqT.of (msk_same _ _ ht), rfl, _, _, rfl, _, [], rfl, ⟨t2, _, rfl, SqT.of (msk_same _ _ ht2), rfl, y1, _, rfl, y2, _, rfl, rfl, ?_⟩⟩
    refine ⟨rfl, ?_⟩
    have rsG := rsl.up (msk_mono (M := LM p tp) eA)
    show tSeq _ _ _ (SL o0 (some (.ref p)) (some vk) o3 (some vs) (some vn) (some u1) (some y1) (some y2) o9 o10 o11 o12 o13 o14 o15 o16 o17 o18 o19 o20 o21 o22 o23 o24 o25 o26 o27 o28) G''
    have lr : k.rows.length ≤ 2 := nk.few
    have hv : vD (kindsI T ks) (.inr nm) = some (kindI T k) := vD_at (kvs := kindsI T ks) (by unfold kindsI; rw [keys_inr ks (kindI T)]; exact nd_inr neat.nd) (p := (.inr nm, kindI T k)) (List.mem_map.mpr ⟨_, memk, rfl⟩)
    have csle : k.cs.Pairwise fun a b => leS a b = true := by
      rcases nk.cs with e | e | e <;> rw [e]
      · exact gr_le
      · exact List.pairwise_singleton _ _
      · exact List.pairwise_singleton _ _
    -- mine
    refine st_seq (st_set (M := LM p tp) (P := fun y G => Rep G (kindI T k) y) (ev_dget (c := kcK) (k := .inr nm) (ev_fld (ev_var rfl rsG) T.cls_Schema T.na_Schema_kinds rfl) (ev_var rfl ru1) hv) fun vm G3 e3 rm => ?_)
    dsimp only
    have m3 := mG.up e3
    have ry1' := ry1.up (msk_mono (M := LM p tp) e3)
    have ry2' := ry2.up (msk_mono (M := LM p tp) e3)
    have keysI : ((rowsI T k.rows).map fun p => kD p.1) = (k.rows.map (·.1)).map .str := by
      unfold rowsI
      rw [List.map_map, List.map_map] <;> rfl
    have keysT : ((rowsT k.rows).map fun p => kD p.1) = (k.rows.map (·.1)).map .str := by
      unfold rowsT
      rw [List.map_map, List.map_map] <;> rfl
    refine st_seq (st_ifF (et_orF (et_test (M := LM p tp) (Ev.to (ev_neD (dT dStr) (x := k.cs) (y := k.cs) rfl rfl (ev_fld (ev_var rfl rm) T.cls_Kind T.na_Kind_colours rfl) (Ev.to (ev_tof m3 (ea_one (ev_sortC m3 (ea_one (ev_var rfl ry1')) (ds := k.cs.map .str) rfl (canSort_strs _))) (.inl rfl)) (by rw [sortD_strs, sortS_id csle] <;> rfl))) (by rw [decide_eq_true rfl] <;> rfl)))
      (et_test (M := LM p tp) (Ev.to (ev_neD (dL dStr) (x := k.rows.map (·.1)) (y := k.rows.map (·.1)) rfl rfl (Ev.to (ev_listD (kvs := rowsI T k.rows) m3 (ea_one (ev_fld (ev_var rfl rm) T.cls_Kind T.na_Kind_rows rfl))) (by rw [keysI] <;> rfl)) (Ev.to (ev_sortC m3 (ea_one (ev_var rfl ry2')) (ds := (k.rows.map (·.1)).map .str) (by show some _ = some _; rw [keysT]) (canSort_strs _)) (by rw [sortD_strs, sortS_id nk.le] <;> rfl))) (by rw [decide_eq_true rfl] <;> rfl)))) fun G4 e4 => ?_)
    dsimp only [tNext]
    have e34 := e3.trans e4
    have m4 := m3.up e4
    have rm4 := rm.up (msk_mono (M := LM p tp) e4)
    have ry24 := ry2'.up (msk_mono (M := LM p tp) e4)
    -- the labels
    refine st_for (M := LM p tp) (ds := [.str "a", .str "b", .str "c"]) m4 (ia_tup (ev_tup m4 (ea_cons ev_str (ea_cons ev_str (ea_one ev_str))))) (fun G5 j s' G6 => Same G4 G5 ∧ Same G5 G6 ∧ exists (o10 o11 o12 o13 o14 o15 : Option V), s' = SL o0 (some (.ref p)) (some vk) o3 (some vs) (some vn) (some u1) (some y1) (some y2) (some vm) o10 o11 o12 o13 o14 o15 o16 o17 o18 o19 o20 o21 o22 o23 o24 o25 o26 o27 o28)
      (fun G5 g5 => ⟨g5, Same.refl _, o10, o11, o12, o13, o14, o15, rfl⟩) (fun G5 j s' G6 ⟨g5, e, _⟩ => Kp.of e) ?_ ?_
    · rintro G5 j d y s' G6 G7 g5 hj hdj ⟨_, e56, o10, o11, o12, o13, o14, o15, rfl⟩ g7 ry
      have hl : exists lb : Str, d = .str lb := by
        have z := List.mem_of_getElem? hdj
        simp only [List.mem_cons, List.not_mem_nil, or_false] at z
        rcases z with z | z | z <;> exact ⟨_, z⟩
      obtain ⟨lb, rfl⟩ := hl
      have ey : y = V.str lb := ry (LM p tp) (m4.up (g5.trans e56)) fun b z => .inl z
      subst ey
      have eB := (g5.trans e56).trans g7
      have m7 := m4.up eB
      have rm7 := rm4.up (msk_mono (M := LM p tp) eB)
      have ry7 := ry24.up (msk_mono (M := LM p tp) eB)
      obtain ⟨r, er1, er2, hrow⟩ := both_row T nk.nd lb
      have sorted : r.mu.Pairwise (fun a b => leS a b = true) ∧ r.no.Pairwise (fun a b => leS a b = true) := by
        rcases hrow with rfl | ⟨q, hq, rfl⟩
        · exact ⟨List.Pairwise.nil, List.Pairwise.nil⟩
        · exact ⟨(NeatR.nmu neat (nk.row q hq).mu).2.2.2, (NeatR.nmu neat (nk.row q hq).no).2.2.2⟩
      dsimp only [gName]
      -- low, high, musts, nots
      refine st_seq ((Ev.to (ev_dget2 (c := kcK) (k := .inr lb) (kvs := rowsT k.rows) (z := .tup [.int 0, .int 0, .tup [], .tup []]) (ev_var rfl ry7) (ev_var (d := .str lb) rfl rfl) (ev_tup m7 (ea_cons ev_int (ea_cons ev_int (ea_cons (ev_tup m7 ea_nil) (ea_one (ev_tup m7 ea_nil))))))) er1) G7 (Same.refl G7) _ fun v G8 e8 rv => ?_)
      obtain ⟨t3, zs, et3, ht3, rzs⟩ := rv
      obtain ⟨z1, zs1, ez, rz1, rzs⟩ := rzs
      obtain ⟨z2, z3, z4, ez2, rz2, rz3, rz4⟩ := Reps.three_of (show Reps (msk (LM p tp) G8) [hiD r.hi, namesD r.mu, namesD r.no] zs1 from rzs)
      have e1 : z1 = V.int r.lo := rz1
      subst ez ez2 et3 e1
      refine ⟨t3, _, rfl, SqT.of (msk_same _ _ ht3), rfl, _, _, rfl, z2, _, rfl, z3, _, rfl, z4, _, rfl, rfl, ?_⟩
      dsimp only
      have m8 := m7.up e8
      -- row
      refine st_seq (st_set (M := LM p tp) (P := fun y G => Rep G (rowI T r) y) (Ev.to (ev_meth (R := R_krow T) (d := (vD (rowsI T k.rows) (.inr lb)).getD (rowD T (.int 0) (.int 0) (.tup []) (.tup []))) m8 (ev_var rfl (rm7.up (msk_mono e8))) rfl (ea_one (ev_var (d := .str lb) rfl rfl)) ⟨_, _, lb, rfl, rfl⟩) er2) fun vr G9 e9 rr => ?_)
      dsimp only
      have m9 := m8.up e9
      have up9 : forall {d : D} {v : V}, Rep (msk (LM p tp) G8) d v -> Rep (msk (LM p tp) G9) d v := fun r => r.up (msk_mono e9)
      -- the row is as told
      have ra : EvD (LM p tp) (tTup (tCons (tFld K (tVar 15) "low") (tCons (tFld K (tVar 15) "high") (tCons (tFld K (tVar 15) "musts") (tCons (tFld K (tVar 15) "nots") tNil))))) (SL o0 (some (.ref p)) (some vk) o3 (some vs) (some vn) (some u1) (some y1) (some y2) (some vm) (some (.str lb)) (some (.int r.lo)) (some z2) (some z3) (some z4) (some vr) o16 o17 o18 o19 o20 o21 o22 o23 o24 o25 o26 o27 o28) G9 (dRow.d (r.lo, r.hi, r.mu, r.no)) := by
        refine Ev.to (ev_tup (ds := [.int r.lo, hiD r.hi, namesD r.mu, namesD r.no]) m9 (ea_cons (ev_fld (ev_var rfl rr) T.cls_Row T.na_Row_low rfl) (ea_cons (ev_fld (ev_var rfl rr) T.cls_Row T.na_Row_high rfl) (ea_cons (ev_fld (ev_var rfl rr) T.cls_Row T.na_Row_musts rfl) (ea_one (ev_fld (ev_var rfl rr) T.cls_Row T.na_Row_nots rfl))))) (by simp)) ?_
        rw [hiD_opt] <;> rfl
      refine st_seq (st_ifF (et_test (M := LM p tp) (Ev.to (ev_neD dRow (x := (r.lo, r.hi, r.mu, r.no)) (y := (r.lo, r.hi, r.mu, r.no)) rfl rfl ra (Ev.to (ev_tup (ds := [.int r.lo, hiD r.hi, namesD r.mu, namesD r.no]) m9 (ea_cons (ev_var (d := .int r.lo) rfl rfl) (ea_cons (ev_var rfl (up9 rz2)) (ea_cons (Ev.to (ev_tof m9 (ea_one (ev_sortC m9 (ea_one (ev_var rfl (up9 rz3))) (ds := r.mu.map .str) rfl (canSort_strs _))) (.inl rfl)) (by rw [sortD_strs, sortS_id sorted.1] <;> rfl)) (ea_one (Ev.to (ev_tof m9 (ea_one (ev_sortC m9 (ea_one (ev_var rfl (up9 rz4))) (ds := r.no.map .str) rfl (canSort_strs _))) (.inl rfl)) (by rw [sortD_strs, sortS_id sorted.2] <;> rfl)))))) (by simp)) (by rw [hiD_opt] <;> rfl))) (by rw [decide_eq_true rfl] <;> rfl))) fun GA eA' => ?_)
      dsimp only [tNext]
      have mA := m9.up eA'
      have rrA := rr.up (msk_mono (M := LM p tp) eA')
      have rhA := (up9 rz2).up (msk_mono (M := LM p tp) eA')
      -- what it has
      refine st_ifF (et_B (M := LM p tp) (Ev.to (ev_any (bs := (List.range 8).map fun _ => false) (ea_one (Ev.to (ev_lcm (ds := rngD 0 8) (fun _ => .bl false) mA (ei_rng1 (j := 8) (ea_one ev_int) (by decide) (by decide)) (by rw [rngD_len]; decide) fun N H3 d x mN eN hd rd => ?_) (by unfold rngD; rw [List.map_map, List.map_map] <;> rfl)))) rfl)) fun GB eB' => ?_
      · obtain ⟨n0, hn0, rfl⟩ := List.mem_map.mp hd
        have ex : x = V.int (0 + (n0 : Int)) := rd
        subst ex
        generalize (0 : Int) + (n0 : Int) = n at rd
        refine elt_all (s2 := (wipe (SL o0 (some (.ref p)) (some vk) o3 (some vs) (some vn) (some u1) (some y1) (some y2) (some vm) (some (.str lb)) (some (.int r.lo)) (some z2) (some z3) (some z4) (some vr) o16 o17 o18 o19 o20 o21 o22 o23 o24 o25 o26 o27 o28) [16]).set 16 (some (.int n))) (fun Q q => q) rfl (ev_op (d := .bl (hasB r.lo r.hi n)) (e := .bl (hasB r.lo r.hi n)) (ev_meth (R := R_has T) (d := .bl (hasB r.lo r.hi n)) mN (ev_var rfl (rrA.up eN)) rfl (ea_one (ev_var (d := .int n) rfl rfl)) ⟨r.lo, r.hi, _, _, n, rfl, rfl⟩) (ev_andV (a := decide (r.lo ≤ n)) (ev_op (ev_var (d := .int n) rfl rfl) (ev_var (d := .int r.lo) rfl rfl) rd_ge) (fun h => ?_) fun h => ?_) (rd_self (neg := true) ?_ _))
        · refine ev_orV (a := isN (hiD r.hi)) (ev_op (ev_var rfl (rhA.up eN)) ev_non (rd_isN fun w z => by cases e : r.hi <;> rw [e] at z <;> cases z)) (fun h2 => ?_) fun h2 => ?_
          · cases e : r.hi with
            | none =>
              rw [e] at h2
              cases (show true = false from h2)
            | some j =>
              rw [e] at rhA
              refine Ev.to (ev_op (ev_var (d := .int n) rfl rfl) (ev_var (d := .int j) rfl (rhA.up eN)) rd_le) ?_
              unfold hasB
              rw [h, Bool.true_and]
          · cases e : r.hi with
            | none =>
              unfold hasB
              rw [h] <;> rfl
            | some j =>
              rw [e] at h2
              cases (show false = true from h2)
        · unfold hasB
          rw [h, Bool.false_and]
        · cases hasB r.lo r.hi n <;> rfl
      · exact ⟨g5, e56.trans (g7.trans (e8.trans (e9.trans (eA'.trans eB')))), _, _, _, _, _, _, rfl⟩
    · rintro G5 s' G6 g5 ⟨_, e56, o10, o11, o12, o13, o14, o15, rfl⟩
      exact ⟨g1, eG.trans (g2.trans (e34.trans (g5.trans e56))), _, _, _, _, _, _, _, _, _, _, rfl⟩
  · rintro G1 s' G' g1 ⟨_, eG, o6, o7, o8, o9, o10, o11, o12, o13, o14, o15, rfl⟩
    have eN : Same Hl G' := g1.trans eG
    refine el.nx _ G' (SameE.of eN) ?_
    have eH : Same H1 (back G') := fun c o h => by
      rcases Classical.em (LM p tp c) with z | z
      · rw [ul.off G' c z]
        exact eN c o (by rw [offs c z]; exact h)
      · exact ul.same G' (SameE.of eN) c o z h
    dsimp only
    exact kA p a ns ks f vk vs vn _ _ _ _ _ _ _ _ _ _ _ _ _ _ _ _ _ _ _ _ _ _ _ _ _ (back G') (l.up eH) hn (by assumption) neat hf (rk.up (msk_mono eH)) (rs.up (msk_mono eH)) (rn.up (msk_mono eH))
end

end K02
namespace K02
open PySem PySem.Spec PyProof.Rows L2 Ak
/-! ### the law, statements 0 to 3 -/
open NdefX (NF envF ncx NScope CellsAt Caps startF slotAt slotAt_of nscope_by cells_of)
open LamX (CodeO TabS Tabs ExtN TabB)
section
variable {P : Program} {w : World} {K : PySem.W.Frag} {mg : Str -> Option Value} {base : Heap}
theorem law1 (T : Tx K mg) {A : Around} {outer : List Env} {s : Shared} {H : Hp} {E : XK} {tp : Addr} (TB : TabB base mg T.c_law tp) (hr : Room 11 (A.deeper (envOfC "law" (defScope s_law) s.heap.objs.size T.f_law (.ref T.c_law)))) {Q : VK} (hQ : forall H2, Q (.bl true) H2) :
    exists t, PSs (LC P w base T (.ref T.c_law) A outer s H E) (defBody s_law) t ∧ forall (a : Addr) (ns : List Int) (H1 : Hp),
      SqL K H1 a (ns.map V.int) -> ns.length ≤ 1000 -> TabS H1 tp lawQ ->
      t { nx := fun _ H' => Q .non H', rt := Q } (L2.start NL [.ref a]) H1 := by
  obtain ⟨tB, hBt, kB⟩ := lawB (P := P) (w := w) (base := base) (outer := outer) (H := H) (E := E) T TB hr hQ
  refine ⟨_, (pss_cons (ps_set (i := 1) sc_law.nd rfl (.inl rfl) (pe_lst (pa_cons (pv 0) (pa_cons pe_int pa_nil))))
      (pss_cons (ps_asg (pe_call (ok__law_schema T) (hr.mono (by decide)) rfl T.g__law_schema T.F__law_schema.kp T.B__law_schema .nil passL (pa_cons (pv 1) (pa_cons (pe_op op_addU pe_int (pe_call (ok__law_take T) (hr.mono (by decide)) rfl T.g__law_take T.F__law_take.kp T.B__law_take .nil passL (pa_cons (pv 1) (pa_cons pe_int pa_nil)))) pa_nil))) (pg_tup rfl (pgs_cons (pg_name (i := 2) sc_law.nd rfl (.inl rfl)) (pgs_cons (pg_name (i := 3) sc_law.nd rfl (.inl rfl)) pgs_nil))))
      (pss_cons (ps_asg (pe_tup (pa_cons (pe_call (ok__law_make T) (hr.mono (by decide)) rfl T.g__law_make T.F__law_make.kp T.B__law_make .nil passL (pa_cons (pv 2) pa_nil)) (pa_cons (pe_callB (call_sortC rfl hr.units) rfl T.n_sorted PyProof.Rows.boot_sorted (by exact (pa_cons (pv 2) pa_nil))) pa_nil))) (pg_tup rfl (pgs_cons (pg_name (i := 4) sc_law.nd rfl (.inr rfl)) (pgs_cons (pg_name (i := 5) sc_law.nd rfl (.inr rfl)) pgs_nil))))
      (pss_cons (ps_if (PW.pt (pw_or (pt_cmpR (op_neU hr.units) (pe_fld (pv 4) rfl) (pe_tup (pa_cons pe_str (pa_cons pe_str pa_nil))) (nomark _)) (pw_or (pt_cmpR (op_neU hr.units) (pe_fld (pv 4) rfl) (pe_tup (pa_cons pe_str (pa_cons pe_str pa_nil))) (nomark _)) (pw_or1 (pt_cmpR (op_neU hr.units) (pe_callTy (call_listA rfl) rfl T.n_list (by decide +kernel) (by exact (pa_cons (pe_fld (pv 4) rfl) pa_nil))) (pv 5) (nomark _)))))) (pss_one (ps_ret pe_bl)) pss_nil)
      hBt)))), ?_⟩
  intro a ns H1 hs hn htab
  refine st_seq ⟨.ref a, rfl, by rw [sizeLine_eq]; simp, fun p hp => ?_⟩
  have e2 := same_new (o := HO.lst [V.ref a, V.int 0]) hp
  have l2 : Lw K p a tp lawQ ns (upd H1 p (.lst [V.ref a, V.int 0])) := ⟨⟨0, by decide, upd_same⟩, hs.same e2, htab.ext e2⟩
  generalize upd H1 p (.lst [V.ref a, V.int 0]) = H2 at l2
  show tSeq _ _ _ (SL (some (.ref a)) (some (.ref p)) none none none none none none none none none none none none none none none none none none none none none none none none none none none) H2
  -- kinds, strata
  refine st_seq (st_asgC (M := LM p tp) (C := fun d => exists n ks st, 1 ≤ n ∧ DrawnOk n ks st ∧ d = .tup [.dK (kindsT ks), fD (ks.map (·.1)) st]) l2.drw (EvC.imp (ec_call l2.mok lm_p l2.scr l2.drw hn rfl (ecs_cons lm_p (ec_op (C := fun d => exists n : Int, d = .int n ∧ 1 ≤ n ∧ n ≤ 4) lm_p (ec_pure fun H3 e3 d3 => ev_int (i := 1)) (ec_call l2.mok lm_p l2.scr l2.drw hn rfl (ecs_cons lm_p (ec_pure fun H3 e3 d3 => ev_int (i := 4)) ecs_nil) ?_) ?_) ecs_nil) ?_) ?_) fun d v H3 c e3 d3 r => ?_)
  · rintro ds ⟨d, e, rfl, rfl, rfl⟩
    exact ⟨4, rfl, by decide⟩
  · rintro d e rfl ⟨ds, ⟨d', e', rfl, rfl, rfl⟩, n', k, ek, h1, h2, rfl⟩
    cases ek
    exact ⟨.int (1 + k), ⟨1 + k, rfl, by omega, by omega⟩, fun H1 => rd_addI⟩
  · rintro ds ⟨d, e, rfl, ⟨n, rfl, h1, h2⟩, rfl⟩
    exact ⟨n, rfl, h1, h2⟩
  · rintro d ⟨ds, ⟨d', e, rfl, ⟨n, rfl, h1, h2⟩, rfl⟩, n', ks, st, en, dok, rfl⟩
    cases en
    exact ⟨n, ks, st, h1, dok, rfl⟩
  obtain ⟨n, ks, st, n1, dok, rfl⟩ := c
  obtain ⟨tt, xs, et, ht, rxs⟩ := r
  obtain ⟨vk, vst, exs, rk, rst⟩ := rxs.two_of
  subst exs et
  refine ⟨tt, _, rfl, SqT.of (msk_same _ _ ht), rfl, _, _, rfl, _, [], rfl, rfl, ?_⟩
  have l3 := l2.upx e3 d3
  have m3 := l3.mok
  have neat := dok.neat
  obtain ⟨f, hf⟩ := dok.least
  have nk : ks ≠ [] := fun z => by
    have h := dok.nm
    rw [z] at h
    have e : n.toNat = (n.toNat - 1) + 1 := by omega
    rw [e] at h
    cases h
  dsimp only
  have keysT : ((kindsT ks).map fun p => kD p.1) = (ks.map (·.1)).map .str := by
    unfold kindsT
    rw [List.map_map, List.map_map] <;> rfl
  -- schema, names
  refine st_seq ((ev_tup (ds := [schD T ([("g" : Str), "r"] : List Str) ([("a" : Str), "b"] : List Str) ks f, .lst ((ks.map (·.1)).map .str)]) m3 (ea_cons (ev_call (R := R_make T) m3 (ea_one (ev_var rfl rk)) ⟨ks, f, rfl, neat, hf, rfl⟩) (ea_one (Ev.to (ev_sortC m3 (ea_one (ev_var rfl rk)) (ds := (ks.map (·.1)).map .str) (by show some _ = some _; rw [keysT]) (canSort_strs _)) (by rw [sortD_strs, sortS_id neat.le])))) (by simp)) H3 (Same.refl H3) _ fun v H4 e4 r => ?_)
  obtain ⟨t5, xs, et, ht, rxs⟩ := r
  obtain ⟨vs, vn, exs, rs, rn⟩ := rxs.two_of
  subst exs et
  refine ⟨t5, _, rfl, SqT.of (msk_same _ _ ht), rfl, _, _, rfl, _, [], rfl, rfl, ?_⟩
  have l4 := l3.up e4
  have m4 := l4.mok
  have rk4 := rk.up (msk_mono (M := LM p tp) e4)
  dsimp only
  have keysI : ((kindsI T ks).map fun p => kD p.1) = (ks.map (·.1)).map .str := by
    unfold kindsI
    rw [List.map_map, List.map_map] <;> rfl
  -- what the schema is
  refine st_seq (st_ifF (et_orF (et_test (M := LM p tp) (Ev.to (ev_neD (dT dStr) (x := GR) (y := GR) rfl rfl (ev_fld (ev_var rfl rs) T.cls_Schema T.na_Schema_colours rfl) (ev_tup (ds := [.str "g", .str "r"]) m4 (ea_cons ev_str (ea_one ev_str)) (by simp))) (by rw [decide_eq_true rfl] <;> rfl)))
    (et_orF (et_test (M := LM p tp) (Ev.to (ev_neD (dT dStr) (x := AB) (y := AB) rfl rfl (ev_fld (ev_var rfl rs) T.cls_Schema T.na_Schema_labels rfl) (ev_tup (ds := [.str "a", .str "b"]) m4 (ea_cons ev_str (ea_one ev_str)) (by simp))) (by rw [decide_eq_true rfl] <;> rfl)))
    (et_test (M := LM p tp) (Ev.to (ev_neD (dL dStr) (x := List.map (fun q : Str × KindI => q.1) ks) (y := List.map (fun q : Str × KindI => q.1) ks) rfl rfl (Ev.to (ev_listD (kvs := kindsI T ks) m4 (ea_one (ev_fld (ev_var rfl rs) T.cls_Schema T.na_Schema_kinds rfl))) (by rw [keysI] <;> rfl)) (ev_var rfl rn)) (by rw [decide_eq_true rfl] <;> rfl))))) fun H5 e5 => ?_)
  dsimp only [tNext]
  exact kB p a ns ks f vk vs vn _ _ _ _ _ _ _ _ _ _ _ _ _ _ _ _ _ _ _ _ _ _ _ _ _ H5 (l4.up e5) hn nk neat hf (rk4.up (msk_mono e5)) (rs.up (msk_mono e5)) (rn.up (msk_mono e5))
end

end K02
namespace K02
open PySem PySem.Spec PyProof.Rows L2 Ak
/-! ### the head -/
def fa : List He.Fa := [.free "len", .free "isinstance", .free "all", .free "any", .free "max", .free "sorted", .free "tuple", .free "list", .free "int", .free "str", .free "bool", .free "dict", .free "range", .str "SMALL" "abcdefghijklmnopqrstuvwxyz", .str "FIGURES" "0123456789", .int "MOST_NAME" 8, .int "MOST_COLOURS" 6, .int "MOST_LABELS" 4, .int "MOST_KINDS" 16, .glo "is_name", .glo "is_row", .glo "is_number", .glo "are_names", .glo "are_labels", .glo "is_told_row", .glo "strata_of", .glo "_law_number", .glo "_law_take", .glo "_law_pick", .glo "_law_schema", .glo "_law_make", .glo "_law_fault", .glo "law", .glo "StoreError", .glo "BadSchema", .noat "BadSchema" "kind", .noat "BadSchema" "part", .glo "BadName", .noat "BadName" "name", .glo "Row", .cls "Row", .mkr "Row", .meth "Row" "has", .meth "Row" "__eq__", .noat "Row" "low", .noat "Row" "high", .noat "Row" "musts", .noat "Row" "nots", .glo "Kind", .cls "Kind", .mkr "Kind", .meth "Kind" "row", .meth "Kind" "__eq__", .noat "Kind" "colours", .noat "Kind" "rows", .glo "Schema", .cls "Schema", .mkr "Schema", .meth "Schema" "check_kind", .meth "Schema" "check", .meth "Schema" "__eq__", .noat "Schema" "colours", .noat "Schema" "labels", .noat "Schema" "kinds", .noat "Schema" "strata", .exm "BadName" "BadSchema" false, .exm "BadName" "BadName" true, .exm "BadSchema" "BadSchema" true, .exm "BadSchema" "BadName" false]
def fn : List He.DefD := [
  ⟨("BadSchema", some "__init__"), "__init__", "BadSchema.__init__", defArgs s_BadSchema_init, defBody s_BadSchema_init, defScope s_BadSchema_init, [], []⟩,
  ⟨("BadName", some "__init__"), "__init__", "BadName.__init__", defArgs s_BadName_init, defBody s_BadName_init, defScope s_BadName_init, [], []⟩,
  ⟨("is_name", none), "is_name", "is_name", defArgs s_is_name, defBody s_is_name, defScope s_is_name, [], []⟩,
  ⟨("is_row", none), "is_row", "is_row", defArgs s_is_row, defBody s_is_row, defScope s_is_row, [], []⟩,
  ⟨("is_number", none), "is_number", "is_number", defArgs s_is_number, defBody s_is_number, defScope s_is_number, [], []⟩,
  ⟨("are_names", none), "are_names", "are_names", defArgs s_are_names, defBody s_are_names, defScope s_are_names, [], []⟩,
  ⟨("Row", some "__init__"), "__init__", "Row.__init__", defArgs s_Row_init, defBody s_Row_init, defScope s_Row_init, [.adr (He.dflAt ("Row", some "__init__") 0), .adr (He.dflAt ("Row", some "__init__") 1)], []⟩,
  ⟨("Row", some "__eq__"), "__eq__", "Row.__eq__", defArgs s_Row_eq, defBody s_Row_eq, defScope s_Row_eq, [], []⟩,
  ⟨("Row", some "has"), "has", "Row.has", defArgs s_Row_has, defBody s_Row_has, defScope s_Row_has, [], []⟩,
  ⟨("Kind", some "__init__"), "__init__", "Kind.__init__", defArgs s_Kind_init, defBody s_Kind_init, defScope s_Kind_init, [], []⟩,
  ⟨("Kind", some "__eq__"), "__eq__", "Kind.__eq__", defArgs s_Kind_eq, defBody s_Kind_eq, defScope s_Kind_eq, [], []⟩,
  ⟨("Kind", some "row"), "row", "Kind.row", defArgs s_Kind_row, defBody s_Kind_row, defScope s_Kind_row, [], []⟩,
  ⟨("are_labels", none), "are_labels", "are_labels", defArgs s_are_labels, defBody s_are_labels, defScope s_are_labels, [], []⟩,
  ⟨("is_told_row", none), "is_told_row", "is_told_row", defArgs s_is_told_row, defBody s_is_told_row, defScope s_is_told_row, [], []⟩,
  ⟨("Schema", some "__init__"), "__init__", "Schema.__init__", defArgs s_Schema_init, defBody s_Schema_init, defScope s_Schema_init, [], []⟩,
  ⟨("Schema", some "check_kind"), "check_kind", "Schema.check_kind", defArgs s_Schema_check_kind, defBody s_Schema_check_kind, defScope s_Schema_check_kind, [], []⟩,
  ⟨("Schema", some "__eq__"), "__eq__", "Schema.__eq__", defArgs s_Schema_eq, defBody s_Schema_eq, defScope s_Schema_eq, [], []⟩,
  ⟨("Schema", some "check"), "check", "Schema.check", defArgs s_Schema_check, defBody s_Schema_check, defScope s_Schema_check, [], []⟩,
  ⟨("strata_of", none), "strata_of", "strata_of", defArgs s_strata_of, defBody s_strata_of, defScope s_strata_of, [], []⟩,
  ⟨("_law_number", none), "_law_number", "_law_number", defArgs s__law_number, defBody s__law_number, defScope s__law_number, [], []⟩,
  ⟨("_law_take", none), "_law_take", "_law_take", defArgs s__law_take, defBody s__law_take, defScope s__law_take, [], []⟩,
  ⟨("_law_pick", none), "_law_pick", "_law_pick", defArgs s__law_pick, defBody s__law_pick, defScope s__law_pick, [], []⟩,
  ⟨("_law_schema", none), "_law_schema", "_law_schema", defArgs s__law_schema, defBody s__law_schema, defScope s__law_schema, [], []⟩,
  ⟨("_law_make", none), "_law_make", "_law_make", defArgs s__law_make, defBody s__law_make, defScope s__law_make, [], []⟩,
  ⟨("_law_fault", none), "_law_fault", "_law_fault", defArgs s__law_fault, defBody s__law_fault, defScope s__law_fault, [], []⟩,
  ⟨("law", none), "law", "law", defArgs s_law, defBody s_law, defScope s_law, [], []⟩]
def exl (K : PySem.W.Frag) : List Bool := [
  etB K (He.dflAt ("Row", some "__init__") 0 K),
  etB K (He.dflAt ("Row", some "__init__") 1 K),
  oexB K (He.ga K "BadSchema"),
  He.eqO (PySem.W.findIn K (.ref (He.ga K "BadSchema")) "__init__") (some (some (.ref (He.ma K (He.ga K "BadSchema") "__init__")))),
  PySem.W.isFn K (.ref (He.ma K (He.ga K "BadSchema") "__init__")),
  oexB K (He.ga K "BadName"),
  He.eqO (PySem.W.findIn K (.ref (He.ga K "BadName")) "__init__") (some (some (.ref (He.ma K (He.ga K "BadName") "__init__")))),
  PySem.W.isFn K (.ref (He.ma K (He.ga K "BadName") "__init__")),
  eqcB K (He.ga K "Row") (He.ma K (He.ga K "Row") "__eq__"),
  iscB K (He.ga K "Row"),
  eqcB K (He.ga K "Kind") (He.ma K (He.ga K "Kind") "__eq__"),
  iscB K (He.ga K "Kind"),
  eqcB K (He.ga K "Schema") (He.ma K (He.ga K "Schema") "__eq__"),
  iscB K (He.ga K "Schema"),
  He.conB K "Schema" "most" (.int 16),
  He.conB K "Schema" "highest" (.int 9),
  xfB K (He.ga K "BadName"),
  excB K (He.ga K "BadName"),
  xfB K (He.ga K "BadSchema"),
  excB K (He.ga K "BadSchema"),
  decide (PySem.W.kitOne K (.type "tuple") (.ref (He.ga K "Row")) = some false),
  decide (PySem.W.kitOne K (.type "NoneType") (.ref (He.ga K "Kind")) = some false)]
def exK (K : PySem.W.Frag) : Bool := (exl K).all id
theorem exAt {K : PySem.W.Frag} (h : exK K = true) (i : Nat) {b : Bool} (e : (exl K)[i]? = some b) : b = true := List.all_eq_true.mp h b (List.mem_of_getElem? e)
def tf : List He.Defn := [("law", none)]
abbrev R : PySem.W.OpenRow := PySem.W.OpenLaw.row PySem.Challenge.rw_arrowkinds_k02_schemas
abbrev hk : PySem.W.Hook := He.hookX 5 fa fn [] tf exK
def ob (s : PySem.W.SharedT) : He.AlX := He.obsX 5 fa fn [] tf exK (HandSHeadRun.getT s)
theorem ob_eq (s : PySem.W.SharedT) : ob s = hk.obs s.abs := He.obsX_eq (HandSHeadRun.getT_eq s)
def names : List PySem.Str := ["StoreError", "BadSchema", "BadName", "SMALL", "FIGURES", "MOST_NAME", "is_name", "is_row", "is_number", "MOST_COLOURS", "MOST_LABELS", "MOST_KINDS", "are_names", "Row", "Kind", "are_labels", "is_told_row", "Schema", "strata_of", "_law_number", "_law_take", "_law_pick", "_law_schema", "_law_make", "_law_fault"]
theorem run (w : World) : HandSHeadRun.RunEq R (PySem.W.view R.prog [29]) hk ob 8000 names w := by
  intro os
  kernel_rfl
theorem tx_of {w : World} {K : PySem.W.Frag} {h : Heap} {mg : Str -> Option Value} (X : K.In h) (G : h.Ns mainGlobals mg) (c : He.SaysX fa fn [] tf exK w h K) : exists T : Tx K mg, T.f_law = He.ga K "law" ∧ T.c_law = He.codeOf K ("law", none) := by
  have cd := c.t.d
  obtain ⟨d0, F0⟩ := cd.def_ 0 (d := ⟨("BadSchema", some "__init__"), "__init__", "BadSchema.__init__", defArgs s_BadSchema_init, defBody s_BadSchema_init, defScope s_BadSchema_init, [], []⟩) rfl
  obtain ⟨d1, F1⟩ := cd.def_ 1 (d := ⟨("BadName", some "__init__"), "__init__", "BadName.__init__", defArgs s_BadName_init, defBody s_BadName_init, defScope s_BadName_init, [], []⟩) rfl
  obtain ⟨d2, F2⟩ := cd.def_ 2 (d := ⟨("is_name", none), "is_name", "is_name", defArgs s_is_name, defBody s_is_name, defScope s_is_name, [], []⟩) rfl
  obtain ⟨d3, F3⟩ := cd.def_ 3 (d := ⟨("is_row", none), "is_row", "is_row", defArgs s_is_row, defBody s_is_row, defScope s_is_row, [], []⟩) rfl
  obtain ⟨d4, F4⟩ := cd.def_ 4 (d := ⟨("is_number", none), "is_number", "is_number", defArgs s_is_number, defBody s_is_number, defScope s_is_number, [], []⟩) rfl
  obtain ⟨d5, F5⟩ := cd.def_ 5 (d := ⟨("are_names", none), "are_names", "are_names", defArgs s_are_names, defBody s_are_names, defScope s_are_names, [], []⟩) rfl
  obtain ⟨d6, F6⟩ := cd.def_ 6 (d := ⟨("Row", some "__init__"), "__init__", "Row.__init__", defArgs s_Row_init, defBody s_Row_init, defScope s_Row_init, [.adr (He.dflAt ("Row", some "__init__") 0), .adr (He.dflAt ("Row", some "__init__") 1)], []⟩) rfl
  obtain ⟨d7, F7⟩ := cd.def_ 7 (d := ⟨("Row", some "__eq__"), "__eq__", "Row.__eq__", defArgs s_Row_eq, defBody s_Row_eq, defScope s_Row_eq, [], []⟩) rfl
  obtain ⟨d8, F8⟩ := cd.def_ 8 (d := ⟨("Row", some "has"), "has", "Row.has", defArgs s_Row_has, defBody s_Row_has, defScope s_Row_has, [], []⟩) rfl
  obtain ⟨d9, F9⟩ := cd.def_ 9 (d := ⟨("Kind", some "__init__"), "__init__", "Kind.__init__", defArgs s_Kind_init, defBody s_Kind_init, defScope s_Kind_init, [], []⟩) rfl
  obtain ⟨d10, F10⟩ := cd.def_ 10 (d := ⟨("Kind", some "__eq__"), "__eq__", "Kind.__eq__", defArgs s_Kind_eq, defBody s_Kind_eq, defScope s_Kind_eq, [], []⟩) rfl
  obtain ⟨d11, F11⟩ := cd.def_ 11 (d := ⟨("Kind", some "row"), "row", "Kind.row", defArgs s_Kind_row, defBody s_Kind_row, defScope s_Kind_row, [], []⟩) rfl
  obtain ⟨d12, F12⟩ := cd.def_ 12 (d := ⟨("are_labels", none), "are_labels", "are_labels", defArgs s_are_labels, defBody s_are_labels, defScope s_are_labels, [], []⟩) rfl
  obtain ⟨d13, F13⟩ := cd.def_ 13 (d := ⟨("is_told_row", none), "is_told_row", "is_told_row", defArgs s_is_told_row, defBody s_is_told_row, defScope s_is_told_row, [], []⟩) rfl
  obtain ⟨d14, F14⟩ := cd.def_ 14 (d := ⟨("Schema", some "__init__"), "__init__", "Schema.__init__", defArgs s_Schema_init, defBody s_Schema_init, defScope s_Schema_init, [], []⟩) rfl
  obtain ⟨d15, F15⟩ := cd.def_ 15 (d := ⟨("Schema", some "check_kind"), "check_kind", "Schema.check_kind", defArgs s_Schema_check_kind, defBody s_Schema_check_kind, defScope s_Schema_check_kind, [], []⟩) rfl
  obtain ⟨d16, F16⟩ := cd.def_ 16 (d := ⟨("Schema", some "__eq__"), "__eq__", "Schema.__eq__", defArgs s_Schema_eq, defBody s_Schema_eq, defScope s_Schema_eq, [], []⟩) rfl
  obtain ⟨d17, F17⟩ := cd.def_ 17 (d := ⟨("Schema", some "check"), "check", "Schema.check", defArgs s_Schema_check, defBody s_Schema_check, defScope s_Schema_check, [], []⟩) rfl
  obtain ⟨d18, F18⟩ := cd.def_ 18 (d := ⟨("strata_of", none), "strata_of", "strata_of", defArgs s_strata_of, defBody s_strata_of, defScope s_strata_of, [], []⟩) rfl
  obtain ⟨d19, F19⟩ := cd.def_ 19 (d := ⟨("_law_number", none), "_law_number", "_law_number", defArgs s__law_number, defBody s__law_number, defScope s__law_number, [], []⟩) rfl
  obtain ⟨d20, F20⟩ := cd.def_ 20 (d := ⟨("_law_take", none), "_law_take", "_law_take", defArgs s__law_take, defBody s__law_take, defScope s__law_take, [], []⟩) rfl
  obtain ⟨d21, F21⟩ := cd.def_ 21 (d := ⟨("_law_pick", none), "_law_pick", "_law_pick", defArgs s__law_pick, defBody s__law_pick, defScope s__law_pick, [], []⟩) rfl
  obtain ⟨d22, F22⟩ := cd.def_ 22 (d := ⟨("_law_schema", none), "_law_schema", "_law_schema", defArgs s__law_schema, defBody s__law_schema, defScope s__law_schema, [], []⟩) rfl
  obtain ⟨d23, F23⟩ := cd.def_ 23 (d := ⟨("_law_make", none), "_law_make", "_law_make", defArgs s__law_make, defBody s__law_make, defScope s__law_make, [], []⟩) rfl
  obtain ⟨d24, F24⟩ := cd.def_ 24 (d := ⟨("_law_fault", none), "_law_fault", "_law_fault", defArgs s__law_fault, defBody s__law_fault, defScope s__law_fault, [], []⟩) rfl
  obtain ⟨d25, F25⟩ := cd.def_ 25 (d := ⟨("law", none), "law", "law", defArgs s_law, defBody s_law, defScope s_law, [], []⟩) rfl
  obtain ⟨oc, od, dV, kV, doc, pm, an, cdv, ct, osl, efd, lk, hcd, _, _⟩ := F25.ex
  obtain ⟨cl, rfl⟩ := He.codeIn_ref hcd
  have ecl : He.codeOf K ("law", none) = cl := He.codeOf_eq lk (by rw [efd] <;> rfl)
  exact ⟨{
    n_len := He.free_ok X G (cd.fact 0 (f := .free "len") rfl),
    n_isinstance := He.free_ok X G (cd.fact 1 (f := .free "isinstance") rfl),
    n_all := He.free_ok X G (cd.fact 2 (f := .free "all") rfl),
    n_any := He.free_ok X G (cd.fact 3 (f := .free "any") rfl),
    n_max := He.free_ok X G (cd.fact 4 (f := .free "max") rfl),
    n_sorted := He.free_ok X G (cd.fact 5 (f := .free "sorted") rfl),
    n_tuple := He.free_ok X G (cd.fact 6 (f := .free "tuple") rfl),
    n_list := He.free_ok X G (cd.fact 7 (f := .free "list") rfl),
    n_int := He.free_ok X G (cd.fact 8 (f := .free "int") rfl),
    n_str := He.free_ok X G (cd.fact 9 (f := .free "str") rfl),
    n_bool := He.free_ok X G (cd.fact 10 (f := .free "bool") rfl),
    n_dict := He.free_ok X G (cd.fact 11 (f := .free "dict") rfl),
    n_range := He.free_ok X G (cd.fact 12 (f := .free "range") rfl),
    c_SMALL := He.str_ok X G (cd.fact 13 (f := .str "SMALL" "abcdefghijklmnopqrstuvwxyz") rfl),
    c_FIGURES := He.str_ok X G (cd.fact 14 (f := .str "FIGURES" "0123456789") rfl),
    c_MOST_NAME := He.int_ok X G (cd.fact 15 (f := .int "MOST_NAME" 8) rfl),
    c_MOST_COLOURS := He.int_ok X G (cd.fact 16 (f := .int "MOST_COLOURS" 6) rfl),
    c_MOST_LABELS := He.int_ok X G (cd.fact 17 (f := .int "MOST_LABELS" 4) rfl),
    c_MOST_KINDS := He.int_ok X G (cd.fact 18 (f := .int "MOST_KINDS" 16) rfl),
    f_BadSchema_init := He.fAd K ("BadSchema", some "__init__"),
    d_BadSchema_init := d0,
    F_BadSchema_init := F0,
    f_BadName_init := He.fAd K ("BadName", some "__init__"),
    d_BadName_init := d1,
    F_BadName_init := F1,
    f_is_name := He.fAd K ("is_name", none),
    d_is_name := d2,
    F_is_name := F2,
    g_is_name := He.glo_ok X G (cd.fact 19 (f := .glo "is_name") rfl),
    f_is_row := He.fAd K ("is_row", none),
    d_is_row := d3,
    F_is_row := F3,
    g_is_row := He.glo_ok X G (cd.fact 20 (f := .glo "is_row") rfl),
    f_is_number := He.fAd K ("is_number", none),
    d_is_number := d4,
    F_is_number := F4,
    g_is_number := He.glo_ok X G (cd.fact 21 (f := .glo "is_number") rfl),
    f_are_names := He.fAd K ("are_names", none),
    d_are_names := d5,
    F_are_names := F5,
    g_are_names := He.glo_ok X G (cd.fact 22 (f := .glo "are_names") rfl),
    e_Row_init_0 := He.dflAt ("Row", some "__init__") 0 K,
    E_Row_init_0 := etB_ok (exAt c.more 0 (b := etB K (He.dflAt ("Row", some "__init__") 0 K)) rfl),
    e_Row_init_1 := He.dflAt ("Row", some "__init__") 1 K,
    E_Row_init_1 := etB_ok (exAt c.more 1 (b := etB K (He.dflAt ("Row", some "__init__") 1 K)) rfl),
    f_Row_init := He.fAd K ("Row", some "__init__"),
    d_Row_init := d6,
    F_Row_init := F6,
    f_Row_eq := He.fAd K ("Row", some "__eq__"),
    d_Row_eq := d7,
    F_Row_eq := F7,
    f_Row_has := He.fAd K ("Row", some "has"),
    d_Row_has := d8,
    F_Row_has := F8,
    f_Kind_init := He.fAd K ("Kind", some "__init__"),
    d_Kind_init := d9,
    F_Kind_init := F9,
    f_Kind_eq := He.fAd K ("Kind", some "__eq__"),
    d_Kind_eq := d10,
    F_Kind_eq := F10,
    f_Kind_row := He.fAd K ("Kind", some "row"),
    d_Kind_row := d11,
    F_Kind_row := F11,
    f_are_labels := He.fAd K ("are_labels", none),
    d_are_labels := d12,
    F_are_labels := F12,
    g_are_labels := He.glo_ok X G (cd.fact 23 (f := .glo "are_labels") rfl),
    f_is_told_row := He.fAd K ("is_told_row", none),
    d_is_told_row := d13,
    F_is_told_row := F13,
    g_is_told_row := He.glo_ok X G (cd.fact 24 (f := .glo "is_told_row") rfl),
    f_Schema_init := He.fAd K ("Schema", some "__init__"),
    d_Schema_init := d14,
    F_Schema_init := F14,
    f_Schema_check_kind := He.fAd K ("Schema", some "check_kind"),
    d_Schema_check_kind := d15,
    F_Schema_check_kind := F15,
    f_Schema_eq := He.fAd K ("Schema", some "__eq__"),
    d_Schema_eq := d16,
    F_Schema_eq := F16,
    f_Schema_check := He.fAd K ("Schema", some "check"),
    d_Schema_check := d17,
    F_Schema_check := F17,
    f_strata_of := He.fAd K ("strata_of", none),
    d_strata_of := d18,
    F_strata_of := F18,
    g_strata_of := He.glo_ok X G (cd.fact 25 (f := .glo "strata_of") rfl),
    f__law_number := He.fAd K ("_law_number", none),
    d__law_number := d19,
    F__law_number := F19,
    g__law_number := He.glo_ok X G (cd.fact 26 (f := .glo "_law_number") rfl),
    f__law_take := He.fAd K ("_law_take", none),
    d__law_take := d20,
    F__law_take := F20,
    g__law_take := He.glo_ok X G (cd.fact 27 (f := .glo "_law_take") rfl),
    f__law_pick := He.fAd K ("_law_pick", none),
    d__law_pick := d21,
    F__law_pick := F21,
    g__law_pick := He.glo_ok X G (cd.fact 28 (f := .glo "_law_pick") rfl),
    f__law_schema := He.fAd K ("_law_schema", none),
    d__law_schema := d22,
    F__law_schema := F22,
    g__law_schema := He.glo_ok X G (cd.fact 29 (f := .glo "_law_schema") rfl),
    f__law_make := He.fAd K ("_law_make", none),
    d__law_make := d23,
    F__law_make := F23,
    g__law_make := He.glo_ok X G (cd.fact 30 (f := .glo "_law_make") rfl),
    f__law_fault := He.fAd K ("_law_fault", none),
    d__law_fault := d24,
    F__law_fault := F24,
    g__law_fault := He.glo_ok X G (cd.fact 31 (f := .glo "_law_fault") rfl),
    f_law := He.fAd K ("law", none),
    d_law := d25,
    F_law := F25,
    g_law := He.glo_ok X G (cd.fact 32 (f := .glo "law") rfl),
    C_StoreError := (He.ga K "StoreError"),
    g_StoreError := He.glo_ok X G (cd.fact 33 (f := .glo "StoreError") rfl),
    C_BadSchema := (He.ga K "BadSchema"),
    g_BadSchema := He.glo_ok X G (cd.fact 34 (f := .glo "BadSchema") rfl),
    ox_BadSchema := oexB_ok (exAt c.more 2 (b := oexB K (He.ga K "BadSchema")) rfl),
    i_BadSchema := He.eqO_ok (exAt c.more 3 (b := He.eqO (PySem.W.findIn K (.ref (He.ga K "BadSchema")) "__init__") (some (some (.ref (He.ma K (He.ga K "BadSchema") "__init__"))))) rfl),
    t_BadSchema := typ_fn (exAt c.more 4 (b := PySem.W.isFn K (.ref (He.ma K (He.ga K "BadSchema") "__init__"))) rfl),
    na_BadSchema_kind := He.noat_ok (cd.fact 35 (f := .noat "BadSchema" "kind") rfl),
    na_BadSchema_part := He.noat_ok (cd.fact 36 (f := .noat "BadSchema" "part") rfl),
    C_BadName := (He.ga K "BadName"),
    g_BadName := He.glo_ok X G (cd.fact 37 (f := .glo "BadName") rfl),
    ox_BadName := oexB_ok (exAt c.more 5 (b := oexB K (He.ga K "BadName")) rfl),
    i_BadName := He.eqO_ok (exAt c.more 6 (b := He.eqO (PySem.W.findIn K (.ref (He.ga K "BadName")) "__init__") (some (some (.ref (He.ma K (He.ga K "BadName") "__init__"))))) rfl),
    t_BadName := typ_fn (exAt c.more 7 (b := PySem.W.isFn K (.ref (He.ma K (He.ga K "BadName") "__init__"))) rfl),
    na_BadName_name := He.noat_ok (cd.fact 38 (f := .noat "BadName" "name") rfl),
    C_Row := (He.ga K "Row"),
    g_Row := He.glo_ok X G (cd.fact 39 (f := .glo "Row") rfl),
    cls_Row := He.cls_ok (cd.fact 40 (f := .cls "Row") rfl),
    mk_Row := He.mkr_ok (cd.fact 41 (f := .mkr "Row") rfl),
    eq_Row := eqcB_ok (exAt c.more 8 (b := eqcB K (He.ga K "Row") (He.ma K (He.ga K "Row") "__eq__")) rfl),
    is_Row := iscB_ok (exAt c.more 9 (b := iscB K (He.ga K "Row")) rfl),
    m_Row_has := He.meth_ok (cd.fact 42 (f := .meth "Row" "has") rfl),
    q_Row := He.meth_ok (cd.fact 43 (f := .meth "Row" "__eq__") rfl),
    na_Row_low := He.noat_ok (cd.fact 44 (f := .noat "Row" "low") rfl),
    na_Row_high := He.noat_ok (cd.fact 45 (f := .noat "Row" "high") rfl),
    na_Row_musts := He.noat_ok (cd.fact 46 (f := .noat "Row" "musts") rfl),
    na_Row_nots := He.noat_ok (cd.fact 47 (f := .noat "Row" "nots") rfl),
    C_Kind := (He.ga K "Kind"),
    g_Kind := He.glo_ok X G (cd.fact 48 (f := .glo "Kind") rfl),
    cls_Kind := He.cls_ok (cd.fact 49 (f := .cls "Kind") rfl),
    mk_Kind := He.mkr_ok (cd.fact 50 (f := .mkr "Kind") rfl),
    eq_Kind := eqcB_ok (exAt c.more 10 (b := eqcB K (He.ga K "Kind") (He.ma K (He.ga K "Kind") "__eq__")) rfl),
    is_Kind := iscB_ok (exAt c.more 11 (b := iscB K (He.ga K "Kind")) rfl),
    m_Kind_row := He.meth_ok (cd.fact 51 (f := .meth "Kind" "row") rfl),
    q_Kind := He.meth_ok (cd.fact 52 (f := .meth "Kind" "__eq__") rfl),
    na_Kind_colours := He.noat_ok (cd.fact 53 (f := .noat "Kind" "colours") rfl),
    na_Kind_rows := He.noat_ok (cd.fact 54 (f := .noat "Kind" "rows") rfl),
    C_Schema := (He.ga K "Schema"),
    g_Schema := He.glo_ok X G (cd.fact 55 (f := .glo "Schema") rfl),
    cls_Schema := He.cls_ok (cd.fact 56 (f := .cls "Schema") rfl),
    mk_Schema := He.mkr_ok (cd.fact 57 (f := .mkr "Schema") rfl),
    eq_Schema := eqcB_ok (exAt c.more 12 (b := eqcB K (He.ga K "Schema") (He.ma K (He.ga K "Schema") "__eq__")) rfl),
    is_Schema := iscB_ok (exAt c.more 13 (b := iscB K (He.ga K "Schema")) rfl),
    m_Schema_check_kind := He.meth_ok (cd.fact 58 (f := .meth "Schema" "check_kind") rfl),
    m_Schema_check := He.meth_ok (cd.fact 59 (f := .meth "Schema" "check") rfl),
    q_Schema := He.meth_ok (cd.fact 60 (f := .meth "Schema" "__eq__") rfl),
    na_Schema_colours := He.noat_ok (cd.fact 61 (f := .noat "Schema" "colours") rfl),
    na_Schema_labels := He.noat_ok (cd.fact 62 (f := .noat "Schema" "labels") rfl),
    na_Schema_kinds := He.noat_ok (cd.fact 63 (f := .noat "Schema" "kinds") rfl),
    na_Schema_strata := He.noat_ok (cd.fact 64 (f := .noat "Schema" "strata") rfl),
    con_Schema_most := He.conB_ok (exAt c.more 14 (b := He.conB K "Schema" "most" (.int 16)) rfl),
    con_Schema_highest := He.conB_ok (exAt c.more 15 (b := He.conB K "Schema" "highest" (.int 9)) rfl),
    xf_BadName := xfB_ok (exAt c.more 16 (b := xfB K (He.ga K "BadName")) rfl),
    ec_BadName := excB_ok (exAt c.more 17 (b := excB K (He.ga K "BadName")) rfl),
    exm_BadName_BadSchema := He.exm_ok (cd.fact 65 (f := .exm "BadName" "BadSchema" false) rfl),
    exm_BadName_BadName := He.exm_ok (cd.fact 66 (f := .exm "BadName" "BadName" true) rfl),
    xf_BadSchema := xfB_ok (exAt c.more 18 (b := xfB K (He.ga K "BadSchema")) rfl),
    ec_BadSchema := excB_ok (exAt c.more 19 (b := excB K (He.ga K "BadSchema")) rfl),
    exm_BadSchema_BadSchema := He.exm_ok (cd.fact 67 (f := .exm "BadSchema" "BadSchema" true) rfl),
    exm_BadSchema_BadName := He.exm_ok (cd.fact 68 (f := .exm "BadSchema" "BadName" false) rfl),
    kt_tuple_Row := of_decide_eq_true (exAt c.more 20 (b := decide (PySem.W.kitOne K (.type "tuple") (.ref (He.ga K "Row")) = some false)) rfl),
    kt_NoneType_Kind := of_decide_eq_true (exAt c.more 21 (b := decide (PySem.W.kitOne K (.type "NoneType") (.ref (He.ga K "Kind")) = some false)) rfl),
    c_law := He.codeOf K ("law", none),
    L_law := ⟨oc, od, dV, kV, doc, pm, an, ct, osl, by rw [ecl]; exact efd, lk, by rw [ecl]; exact hcd⟩ }, rfl, rfl⟩
end K02
namespace K02
open PySem PySem.Spec PyProof.Rows L2 Ak
section
variable {P : Program} {w : World} {K : PySem.W.Frag} {mg : Str -> Option Value} {base : Heap}
def SpLaw (K : PySem.W.Frag) (tp : Addr) : Sp := fun vs H Q _ => exists (a : Addr) (ns : List Int), vs = [.ref a] ∧ SqL K H a (ns.map V.int) ∧ ns.length ≤ 1000 ∧ LamX.TabS H tp lawQ ∧ forall H', Q (.bl true) H'
theorem ok_law (T : Tx K mg) {tp : Addr} (TB : LamX.TabB base mg T.c_law tp) : FnOk P w K mg base (L2.CX P w) 12 T.f_law T.d_law ["script"] (SpLaw K tp) := by
  obtain ⟨oc, od, dV, kV, doc, pm, an, ct, osl, e, lk, hcd⟩ := T.L_law
  rw [e] at lk ⊢
  refine fn_of lk hcd sc_law (fun vs H Q E h => ?_) fun A outer s H vs Q E hr h => ?_
  · obtain ⟨a, ns, rfl, _⟩ := h
    rfl
  · obtain ⟨a, ns, rfl, hs, hn, ht, q⟩ := h
    obtain ⟨t, h1, k⟩ := law1 (P := P) (w := w) (base := base) (outer := outer) (H := H) (E := E) T TB hr q
    exact ⟨t, h1, k a ns H hs hn ht⟩
end
theorem at_law {w : World} {mg : Str -> Option Value} {f : Addr} {h : Heap} (Y : hk.says w h) (G : h.Ns mainGlobals mg) (hf : mg "law" = some (.ref f)) : exists K : PySem.W.Frag, K.In h ∧ LamX.LawAtS PySem.Challenge.rw_arrowkinds_k02_schemas w K (L2.CX (PySem.Challenge.rw_arrowkinds_k02_schemas).prog w) 12 63 "script" mg f h := by
  obtain ⟨K, X, c⟩ := Y
  refine ⟨K, X, ?_⟩
  obtain ⟨T, e1, e2⟩ := tx_of X G c
  have ef : f = T.f_law := by
    have z := hf.symm.trans T.g_law
    cases z
    rfl
  subst ef
  have hp : (("law", none) : He.Defn) ∈ tf := List.mem_cons_self
  have key : forall {q : Addr × Addr -> Prop}, q (He.cT K ("law", none)) -> forall p, p ∈ [He.cT K ("law", none)] -> q p := fun {q} h p hp => by
    rw [List.mem_singleton.mp hp]
    exact h
  refine ⟨T.d_law, [He.cT K ("law", none)], SpLaw K (He.cT K ("law", none)).2, key (c.empty _ hp), key (c.out _ hp), key (PySem.W.codeHd_of_K X (c.hd _ hp)), ?_, ?_, ?_⟩
  · have b := FunD.bindsA (ps := ["script"]) T.F_law fun _ _ _ _ _ _ us hl => match us, hl with | [_], _ => rfl
    exact fun s u => b s [u] rfl
  · intro H a ns hl _ ht hs
    exact ⟨a, ns, rfl, hs, by omega, LamX.TabS.nil (ht _ List.mem_cons_self), fun _ => rfl⟩
  · intro base _ _ htb
    refine ok_law T (tp := (He.cT K ("law", none)).2) ?_
    have z := htb _ List.mem_cons_self
    have e3 : (He.cT K ("law", none)).1 = T.c_law := by rw [e2] <;> rfl
    rw [e3] at z
    exact z
end K02
open PySem PySem.W PySem.Calls PyProof.Rows
theorem PySem.Challenge.cw_arrowkinds_k02_schemas_holds : PySem.Challenge.rw_arrowkinds_k02_schemas.Holds := by
  w_on; o_law
  refine HandSHeadRun.head_any (r := OpenLaw.row PySem.Challenge.rw_arrowkinds_k02_schemas) (q := view (OpenLaw.row PySem.Challenge.rw_arrowkinds_k02_schemas).prog [29]) (H := K02.hk) (ob := K02.ob) (M := 8000) (loose := K02.names) (d := HandSHeadRun.topDef (OpenLaw.row PySem.Challenge.rw_arrowkinds_k02_schemas).prog 29) (kwd := []) K02.ob_eq
    (by kernel_rfl) (fun s => by kernel_rfl) K02.run (by kernel_rfl) (by kernel_rfl) (by kernel_rfl) (by rfl) (by first | assumption | decide +kernel) (by decide +kernel) ⟨rfl, rfl, rfl, rfl, rfl, by decide +kernel⟩ ?hw ?hc
  case hw => w_witness2
  case hc =>
    refine LamX.walk_ofTsE (l := PySem.Challenge.rw_arrowkinds_k02_schemas) (n := 63) (k := 12) (x := "script") (CX := fun w => L2.CX (PySem.Challenge.rw_arrowkinds_k02_schemas).prog w) rfl (by decide) (by kernel_rfl) ⟨rfl, by decide, by decide⟩ ?F (fun _ _ _ _ _ ⟨_, _, _, _, _, _, _, _, _, _, _, _, h⟩ => h)
    intro w mg fa h Y G hmg0
    have hmg : mg ("law" : PySem.Str) = some (.ref fa) := by
      have e : (HandSHeadRun.topDef (OpenLaw.row PySem.Challenge.rw_arrowkinds_k02_schemas).prog 29).name = ("law" : PySem.Str) := by kernel_rfl
      rw [← e]
      exact hmg0
    exact K02.at_law Y G hmg
