import PyProof.Rows.All
import Wide.All
import OpenK.AllK
import Wide.FinOn
import HandS.Base
import HandS.Call
import HandS.List
import HandS.Comp
import HandS.Dict
import HandS.Iter
import HandS.Text
import HandS.IsInst
import HandS.Exc
import HandS.Words
import HandS.WordsList
import HandS.WordsDict
import KE.DataEq
import HandS.ExcOwn
import HandS.ExcInit
import HandS.Star
import HandS.WordsExc
import KE.SortData
import KE.KDictSum
import KE.KDictCopyH
import HandS.Set
import KE.KDictList
import KE.KDictWalk
import HandS.Conv
import HandS.Style
import HandS.TupLen
import PyProof.DictCompW
import HandS.More
import HandS.DictComp
import HandS.SetKeys
import PyProof.DictMoreH
import PyProof.Draws
import KE.GoesMore
import KE.GoesEnum
import HandS.Zip
import HandS.Wide
import PyProof.ListIndex
import KE.LtData
import KE.KSortTupAny
import OpenK.KEqL
import OpenK.KOwn
import PyProof.InstNe
import PyProof.InstEq
import PyProof.NsMap
import HandS.TupSets
import HandS.SetFor
import HandS.Strs
import HandS.Lambda
import HandS.Nested
import KE.KLam
import HandS.Defaults
import HandS.ExcIs
import HandS.ExcField
import KE.KExcInit
import KE.KExcPX
import HandS.HeadHook1
import HandS.HeadHook2
import HandS.HeadHook3
import HandS.HeadHook4
import KE.KStateDown
import Lean
import HandS.Ends
import HandS.Head0
import HandS.Head1
import HandS.Head2
import HandS.HeadEnd
import HandS.HeadWalk
import HandS.EndTab
import HandS.EndBits
import PySem.Challenge.RW_arrowkinds_k01_graphs
set_option Elab.async false
set_option linter.all false
set_option maxRecDepth 100000
set_option maxHeartbeats 0
/-! Ak 1: Python values as data trees over the abstract heap; a reading evaluates to a datum. -/
namespace Ak
open PySem PySem.Spec PyProof.Rows L2

/-! ### heaps that grow; masks -/
/-- lists, tuples, instances are as they were; dicts are, or are locked -/
structure Fx (H H' : Hp) : Prop where
  lst : forall {a xs}, H a = some (.lst xs) -> H' a = some (.lst xs)
  tup : forall {a xs}, H a = some (.tup xs) -> H' a = some (.tup xs)
  ins : forall {a C dx fs}, H a = some (.ins C dx fs) -> H' a = some (.ins C dx fs)
  rk : forall {a k}, Rd H a (.dK k) -> Rd H' a (.dK k)
  rt : forall {a k}, Rd H a (.dT k) -> Rd H' a (.dT k)
theorem rd_same {H H' : Hp} (e : Same H H') {a : Addr} {o : HO} (h : Rd H a o) : Rd H' a o := by
  rcases h with h | ⟨ob, h⟩
  · exact .inl (e _ _ h)
  · exact .inr ⟨ob, e _ _ h⟩
theorem Fx.of {H H' : Hp} (e : Same H H') : Fx H H' := ⟨fun h => e _ _ h, fun h => e _ _ h, fun h => e _ _ h, fun h => rd_same e h, fun h => rd_same e h⟩
theorem Fx.refl (H : Hp) : Fx H H := Fx.of (Same.refl H)
theorem Fx.trans {H H1 H2 : Hp} (a : Fx H H1) (b : Fx H1 H2) : Fx H H2 := ⟨fun h => b.lst (a.lst h), fun h => b.tup (a.tup h), fun h => b.ins (a.ins h), fun h => b.rk (a.rk h), fun h => b.rt (a.rt h)⟩
abbrev MK := Addr -> Prop
open Classical in
/-- the heap without what is masked -/
noncomputable def msk (M : MK) (H : Hp) : Hp := fun a => if M a then none else H a
theorem msk_at {M : MK} {H : Hp} {a : Addr} (h : ¬ M a) : msk M H a = H a := by unfold msk; rw [if_neg h]
theorem msk_of {M : MK} {H : Hp} {a : Addr} {o : HO} (h : msk M H a = some o) : ¬ M a ∧ H a = some o := by
  unfold msk at h
  split at h
  · cases h
  · rename_i n
    exact ⟨n, h⟩
theorem msk_same {M : MK} {H : Hp} : Same (msk M H) H := fun _ _ h => (msk_of h).2
theorem msk_mono {M : MK} {H H' : Hp} (e : Same H H') : Same (msk M H) (msk M H') := fun a o h => by
  obtain ⟨n, h⟩ := msk_of h
  rw [msk_at n]
  exact e a o h
theorem msk_less {M N : MK} {H : Hp} (i : forall a, N a -> M a) : Same (msk M H) (msk N H) := fun a o h => by
  obtain ⟨n, h⟩ := msk_of h
  rw [msk_at fun z => n (i a z)]
  exact h
/-- what is masked may change -/
theorem msk_upd {M : MK} {H : Hp} {p : Addr} {o : HO} (h : M p) : msk M (upd H p o) = msk M H := by
  funext a
  unfold msk
  by_cases e : a = p
  · subst e
    rw [if_pos h, if_pos h]
  · rw [upd_ne e]
/-- what is masked is tracked, and can change -/
def Mok (M : MK) (H : Hp) : Prop := forall a, M a -> exists o, H a = some o ∧ forall xs, o ≠ .tup xs
theorem Mok.new {M : MK} {H : Hp} (m : Mok M H) {p : Addr} (h : H p = none) : ¬ M p := fun z => by
  obtain ⟨o, e, _⟩ := m p z
  rw [h] at e
  cases e
theorem Mok.up {M : MK} {H H' : Hp} (m : Mok M H) (e : Same H H') : Mok M H' := fun a z => by
  obtain ⟨o, h, n⟩ := m a z
  exact ⟨o, e _ _ h, n⟩
theorem Mok.upd {M : MK} {H : Hp} (m : Mok M H) {p : Addr} {o : HO} (nt : forall xs, o ≠ .tup xs := by intro xs e; cases e) : Mok M (upd H p o) := fun a z => by
  by_cases h : a = p
  · subst h
    exact ⟨o, upd_same, nt⟩
  · rw [upd_ne h]
    exact m a z
theorem Mok.add {M : MK} {H : Hp} (m : Mok M H) {p : Addr} {o : HO} (h : H p = some o) (nt : forall xs, o ≠ .tup xs := by intro xs e; cases e) : Mok (fun a => M a ∨ a = p) H := fun a z => by
  rcases z with z | z
  · exact m a z
  · rw [z]
    exact ⟨o, h, nt⟩
/-- tuples are never masked -/
theorem Mok.tup {M : MK} {H : Hp} (m : Mok M H) {p : Addr} {xs : List V} (h : H p = some (.tup xs)) : msk M H p = some (.tup xs) := by
  rw [msk_at]
  · exact h
  · intro z
    obtain ⟨o, e, n⟩ := m p z
    rw [h] at e
    cases e
    exact n xs rfl
theorem Mok.none (H : Hp) : Mok (fun _ => False) H := fun _ z => z.elim
theorem same_new {H : Hp} {p : Addr} {o : HO} (h : H p = none) : Same H (upd H p o) := fun a u e => by
  rw [upd_ne (ne_of_none e h)]
  exact e
theorem msk_new {M : MK} {H : Hp} (m : Mok M H) {p : Addr} {o : HO} (h : H p = none) : msk M (upd H p o) p = some o := by
  rw [msk_at (m.new h), upd_same]

/-- what a lock is for -/
def isDict (u : HO) : Prop := (exists k, u = .dK k) ∨ exists k, u = .dT k
theorem fx_lock {H : Hp} {d : Addr} {u : HO} {od : Obj} (hd : H d = some u) (hu : isDict u) : Fx H (upd H d (.frz od u)) := by
  have n1 : forall {a : Addr} {o : HO}, H a = some o -> (forall k, o ≠ .dK k) -> (forall k, o ≠ .dT k) -> upd H d (.frz od u) a = some o := by
    intro a o h k1 k2
    rw [upd_ne]
    · exact h
    · rintro rfl
      rw [hd] at h
      cases h
      rcases hu with ⟨k, e⟩ | ⟨k, e⟩
      · exact k1 k e
      · exact k2 k e
  have n2 : forall {a : Addr} {o : HO}, (forall ob v, o ≠ .frz ob v) -> Rd H a o -> Rd (upd H d (.frz od u)) a o := by
    intro a o hn h
    by_cases e : a = d
    · subst e
      rcases h with h | ⟨ob, h⟩
      · rw [hd] at h
        cases h
        exact .inr ⟨od, upd_same⟩
      · rw [hd] at h
        cases h
        rcases hu with ⟨k, e⟩ | ⟨k, e⟩ <;> cases e
    · rcases h with h | ⟨ob, h⟩
      · exact .inl (by rw [upd_ne e]; exact h)
      · exact .inr ⟨ob, by rw [upd_ne e]; exact h⟩
  exact ⟨fun h => n1 h (fun _ e => nomatch e) (fun _ e => nomatch e), fun h => n1 h (fun _ e => nomatch e) (fun _ e => nomatch e), fun h => n1 h (fun _ e => nomatch e) (fun _ e => nomatch e), fun h => n2 (fun _ _ e => nomatch e) h, fun h => n2 (fun _ _ e => nomatch e) h⟩
theorem fx_unlock {H : Hp} {d : Addr} {u : HO} {od : Obj} (hd : H d = some (.frz od u)) (hu : isDict u) : Fx H (upd H d u) := by
  have n1 : forall {a : Addr} {o : HO}, H a = some o -> (forall ob v, o ≠ .frz ob v) -> upd H d u a = some o := by
    intro a o h k1
    rw [upd_ne]
    · exact h
    · rintro rfl
      rw [hd] at h
      cases h
      exact k1 _ _ rfl
  have n2 : forall {a : Addr} {o : HO}, (forall ob v, o ≠ .frz ob v) -> Rd H a o -> Rd (upd H d u) a o := by
    intro a o hn h
    by_cases e : a = d
    · subst e
      rcases h with h | ⟨ob, h⟩
      · rw [hd] at h
        cases h
        exact absurd rfl (hn _ _)
      · rw [hd] at h
        cases h
        exact .inl upd_same
    · rcases h with h | ⟨ob, h⟩
      · exact .inl (by rw [upd_ne e]; exact h)
      · exact .inr ⟨ob, by rw [upd_ne e]; exact h⟩
  exact ⟨fun h => n1 h (fun _ _ e => nomatch e), fun h => n1 h (fun _ _ e => nomatch e), fun h => n1 h (fun _ _ e => nomatch e), fun h => n2 (fun _ _ e => nomatch e) h, fun h => n2 (fun _ _ e => nomatch e) h⟩
theorem rd_msk {M : MK} {H : Hp} {a : Addr} {o : HO} (h : Rd (msk M H) a o) : ¬ M a ∧ Rd H a o := by
  rcases h with h | ⟨ob, h⟩
  · obtain ⟨n, h⟩ := msk_of h
    exact ⟨n, .inl h⟩
  · obtain ⟨n, h⟩ := msk_of h
    exact ⟨n, .inr ⟨ob, h⟩⟩
theorem rd_msk_of {M : MK} {H : Hp} {a : Addr} {o : HO} (n : ¬ M a) (h : Rd H a o) : Rd (msk M H) a o := by
  rcases h with h | ⟨ob, h⟩
  · exact .inl (by rw [msk_at n]; exact h)
  · exact .inr ⟨ob, by rw [msk_at n]; exact h⟩
/-- masks and Fx: what is masked behind was masked ahead, or is new -/
theorem Fx.msk {M N : MK} {H H' : Hp} (f : Fx H H') (i : forall a, N a -> M a ∨ H a = none) : Fx (msk M H) (msk N H') := by
  have n : forall {a o}, ¬ M a -> H a = some o -> ¬ N a := fun {a o} hm h z => by
    rcases i a z with q | q
    · exact hm q
    · rw [h] at q
      cases q
  have nr : forall {a o}, ¬ M a -> Rd H a o -> ¬ N a := fun {a o} hm h => by
    rcases h with h | ⟨ob, h⟩
    · exact n hm h
    · exact n hm h
  refine ⟨fun h => ?_, fun h => ?_, fun h => ?_, fun h => ?_, fun h => ?_⟩
  · obtain ⟨a, b⟩ := msk_of h
    rw [msk_at (n a b)]
    exact f.lst b
  · obtain ⟨a, b⟩ := msk_of h
    rw [msk_at (n a b)]
    exact f.tup b
  · obtain ⟨a, b⟩ := msk_of h
    rw [msk_at (n a b)]
    exact f.ins b
  · obtain ⟨a, b⟩ := rd_msk h
    exact rd_msk_of (nr a b) (f.rk b)
  · obtain ⟨a, b⟩ := rd_msk h
    exact rd_msk_of (nr a b) (f.rt b)

/-- what stood stands, but for what is masked; what is locked stays so -/
structure Kp (M : MK) (H H' : Hp) : Prop where
  fx : Fx (Ak.msk M H) (Ak.msk M H')
  fz : forall {a od u}, H a = some (.frz od u) -> H' a = some (.frz od u)
theorem Kp.of {M : MK} {H H' : Hp} (e : Same H H') : Kp M H H' := ⟨Fx.of (msk_mono e), fun h => e _ _ h⟩
theorem Kp.refl (M : MK) (H : Hp) : Kp M H H := Kp.of (Same.refl H)
theorem Kp.trans {M : MK} {H H1 H2 : Hp} (a : Kp M H H1) (b : Kp M H1 H2) : Kp M H H2 := ⟨a.fx.trans b.fx, fun h => b.fz (a.fz h)⟩
theorem Kp.upd {M : MK} {H H' : Hp} (k : Kp M H H') {p : Addr} {o : HO} (h : M p) (n : forall od u, H' p ≠ some (.frz od u)) : Kp M H (upd H' p o) := by
  refine ⟨?_, fun {a od u} e => ?_⟩
  · rw [msk_upd h]
    exact k.fx
  · have e' := k.fz e
    rw [upd_ne]
    · exact e'
    · rintro rfl
      exact n _ _ e'
theorem Kp.lst {M : MK} {H H' : Hp} (k : Kp M H H') {a : Addr} {xs : List V} (h : msk M H a = some (.lst xs)) : H' a = some (.lst xs) := (msk_of (k.fx.lst h)).2
theorem Kp.tup {M : MK} {H H' : Hp} (k : Kp M H H') {a : Addr} {xs : List V} (h : msk M H a = some (.tup xs)) : H' a = some (.tup xs) := (msk_of (k.fx.tup h)).2
/-- a wider mask: of what is new -/
theorem Kp.msk {M N : MK} {H H' : Hp} (k : Kp M H H') (i : forall a, N a -> M a ∨ H a = none) : Fx (Ak.msk M H) (Ak.msk N H') := by
  have go : forall {a o}, Ak.msk M H a = some o -> ¬ N a := fun {a o} h z => by
    obtain ⟨n, e⟩ := msk_of h
    rcases i a z with q | q
    · exact n q
    · rw [e] at q
      cases q
  have gor : forall {a o}, Rd (Ak.msk M H) a o -> ¬ N a := fun {a o} h => by
    rcases h with h | ⟨ob, h⟩
    · exact go h
    · exact go h
  refine ⟨fun h => ?_, fun h => ?_, fun h => ?_, fun h => ?_, fun h => ?_⟩
  · rw [msk_at (go h)]
    exact (msk_of (k.fx.lst h)).2
  · rw [msk_at (go h)]
    exact (msk_of (k.fx.tup h)).2
  · rw [msk_at (go h)]
    exact (msk_of (k.fx.ins h)).2
  · exact rd_msk_of (gor h) (rd_msk (k.fx.rk h)).2
  · exact rd_msk_of (gor h) (rd_msk (k.fx.rt h)).2

/-! ### data -/
inductive D where
  | non | bl (b : Bool) | int (i : Int) | str (s : Str) | oth (v : V)
  | tup (xs : List D) | lst (xs : List D)
  | ins (C : Addr) (fs : List (Str × D))
  | dK (kvs : List (Key × D)) | dT (kvs : List (List Key × D))

section
variable (G : Hp)
mutual
/-- the value v is the datum, in the heap G -/
def Rep : D -> V -> Prop
  | .non, v => v = .non
  | .bl b, v => v = .bl b
  | .int i, v => v = .int i
  | .str s, v => v = .str s
  | .oth w, v => v = w
  | .tup ds, v => exists a xs, v = .ref a ∧ G a = some (.tup xs) ∧ Reps ds xs
  | .lst ds, v => exists a xs, v = .ref a ∧ G a = some (.lst xs) ∧ Reps ds xs
  | .ins C fs, v => exists a dx vs, v = .ref a ∧ G a = some (.ins C dx vs) ∧ RepF fs vs
  | .dK kvs, v => exists a ws, v = .ref a ∧ Rd G a (.dK ws) ∧ RepK kvs ws
  | .dT kvs, v => exists a ws, v = .ref a ∧ Rd G a (.dT ws) ∧ RepT kvs ws
def Reps : List D -> List V -> Prop
  | [], vs => vs = []
  | d :: ds, vs => exists x xs, vs = x :: xs ∧ Rep d x ∧ Reps ds xs
def RepF : List (Str × D) -> List (Str × V) -> Prop
  | [], vs => vs = []
  | (f, d) :: ds, vs => exists x xs, vs = (f, x) :: xs ∧ Rep d x ∧ RepF ds xs
def RepK : List (Key × D) -> List (Key × V) -> Prop
  | [], vs => vs = []
  | (k, d) :: ds, vs => exists x xs, vs = (k, x) :: xs ∧ Rep d x ∧ RepK ds xs
def RepT : List (List Key × D) -> List (List Key × V) -> Prop
  | [], vs => vs = []
  | (k, d) :: ds, vs => exists x xs, vs = (k, x) :: xs ∧ Rep d x ∧ RepT ds xs
end
end
section
variable {K : PySem.W.Frag} {G G' : Hp}
mutual
theorem Rep.fx (f : Fx G G') : forall (d : D) {v : V}, Rep G d v -> Rep G' d v
  | .non, _, h => h
  | .bl _, _, h => h
  | .int _, _, h => h
  | .str _, _, h => h
  | .oth _, _, h => h
  | .tup ds, _, ⟨a, xs, e, h, r⟩ => ⟨a, xs, e, f.tup h, Reps.fx f ds r⟩
  | .lst ds, _, ⟨a, xs, e, h, r⟩ => ⟨a, xs, e, f.lst h, Reps.fx f ds r⟩
  | .ins C fs, _, ⟨a, dx, vs, e, h, r⟩ => ⟨a, dx, vs, e, f.ins h, RepF.fx f fs r⟩
  | .dK kvs, _, ⟨a, ws, e, h, r⟩ => ⟨a, ws, e, f.rk h, RepK.fx f kvs r⟩
  | .dT kvs, _, ⟨a, ws, e, h, r⟩ => ⟨a, ws, e, f.rt h, RepT.fx f kvs r⟩
theorem Reps.fx (f : Fx G G') : forall (ds : List D) {vs : List V}, Reps G ds vs -> Reps G' ds vs
  | [], _, h => h
  | d :: ds, _, ⟨x, xs, e, h, r⟩ => ⟨x, xs, e, Rep.fx f d h, Reps.fx f ds r⟩
theorem RepF.fx (f : Fx G G') : forall (ds : List (Str × D)) {vs : List (Str × V)}, RepF G ds vs -> RepF G' ds vs
  | [], _, h => h
  | (_, d) :: ds, _, ⟨x, xs, e, h, r⟩ => ⟨x, xs, e, Rep.fx f d h, RepF.fx f ds r⟩
theorem RepK.fx (f : Fx G G') : forall (ds : List (Key × D)) {vs : List (Key × V)}, RepK G ds vs -> RepK G' ds vs
  | [], _, h => h
  | (_, d) :: ds, _, ⟨x, xs, e, h, r⟩ => ⟨x, xs, e, Rep.fx f d h, RepK.fx f ds r⟩
theorem RepT.fx (f : Fx G G') : forall (ds : List (List Key × D)) {vs : List (List Key × V)}, RepT G ds vs -> RepT G' ds vs
  | [], _, h => h
  | (_, d) :: ds, _, ⟨x, xs, e, h, r⟩ => ⟨x, xs, e, Rep.fx f d h, RepT.fx f ds r⟩
end
theorem Rep.up {d : D} {v : V} (h : Rep G d v) (e : Same G G') : Rep G' d v := Rep.fx (Fx.of e) d h
theorem Reps.up {ds : List D} {vs : List V} (h : Reps G ds vs) (e : Same G G') : Reps G' ds vs := Reps.fx (Fx.of e) ds h
theorem Reps.len : forall {ds : List D} {vs : List V}, Reps G ds vs -> vs.length = ds.length
  | [], _, h => by rw [show _ = [] from h] <;> rfl
  | d :: ds, _, ⟨x, xs, e, _, r⟩ => by rw [e, List.length_cons, List.length_cons, Reps.len r]
theorem Reps.get : forall {ds : List D} {vs : List V} {i : Nat} {v : V}, Reps G ds vs -> vs[i]? = some v -> exists d, ds[i]? = some d ∧ Rep G d v
  | [], _, _, _, h, e => by rw [show _ = [] from h] at e; simp at e
  | d :: ds, _, 0, _, ⟨x, xs, e, h, _⟩, z => by rw [e] at z; simp at z; subst z; exact ⟨d, rfl, h⟩
  | d :: ds, _, i + 1, _, ⟨x, xs, e, _, r⟩, z => by
    rw [e] at z
    obtain ⟨d', h1, h2⟩ := Reps.get (i := i) r (by simpa using z)
    exact ⟨d', by simpa using h1, h2⟩
theorem Reps.at : forall {ds : List D} {vs : List V} {i : Nat} {d : D}, Reps G ds vs -> ds[i]? = some d -> exists v, vs[i]? = some v ∧ Rep G d v
  | [], _, _, _, _, e => by simp at e
  | d :: ds, _, 0, _, ⟨x, xs, e, h, _⟩, z => by simp at z; subst z; exact ⟨x, by rw [e] <;> rfl, h⟩
  | d :: ds, _, i + 1, _, ⟨x, xs, e, _, r⟩, z => by
    obtain ⟨v, h1, h2⟩ := Reps.at (i := i) r (by simpa using z)
    exact ⟨v, by rw [e]; simpa using h1, h2⟩
theorem Reps.app : forall {ds es : List D} {vs ws : List V}, Reps G ds vs -> Reps G es ws -> Reps G (ds ++ es) (vs ++ ws)
  | [], _, _, _, h, k => by rw [show _ = [] from h]; exact k
  | d :: ds, _, _, _, ⟨x, xs, e, h, r⟩, k => ⟨x, xs ++ _, by rw [e] <;> rfl, h, Reps.app r k⟩
theorem Reps.one {d : D} {v : V} (h : Rep G d v) : Reps G [d] [v] := ⟨v, [], rfl, h, rfl⟩
theorem Reps.ints : forall (ns : List Int), Reps G (ns.map D.int) (ns.map V.int)
  | [] => rfl
  | n :: ns => ⟨_, _, rfl, rfl, Reps.ints ns⟩
theorem Reps.strs : forall (ns : List Str), Reps G (ns.map D.str) (ns.map V.str)
  | [] => rfl
  | n :: ns => ⟨_, _, rfl, rfl, Reps.strs ns⟩
end

/-! ### data of the library's kind -/
mutual
def D.py : D -> PyData
  | .non => .none
  | .bl b => .bool b
  | .int i => .int i
  | .str s => .str s
  | .tup ds => .tuple (D.pys ds)
  | .lst ds => .list (D.pys ds)
  | _ => .none
def D.pys : List D -> List PyData
  | [] => []
  | d :: ds => d.py :: D.pys ds
end
mutual
/-- no objects, no dicts -/
def D.pl : D -> Bool
  | .non => true
  | .bl _ => true
  | .int _ => true
  | .str _ => true
  | .tup ds => D.pls ds
  | .lst ds => D.pls ds
  | _ => false
def D.pls : List D -> Bool
  | [] => true
  | d :: ds => d.pl && D.pls ds
end
section
variable {K : PySem.W.Frag} {G : Hp}
mutual
theorem Rep.dp : forall (d : D) {v : V}, d.pl = true -> Rep G d v -> Dp K G v d.py
  | .non, _, _, h => by rw [show _ = V.non from h]; exact .non
  | .bl _, _, _, h => by rw [show _ = V.bl _ from h]; exact .bl _
  | .int _, _, _, h => by rw [show _ = V.int _ from h]; exact .int _
  | .str _, _, _, h => by rw [show _ = V.str _ from h]; exact .str _
  | .tup ds, _, p, ⟨a, xs, e, h, r⟩ => by rw [e]; exact .tup (SqT.of h) (Reps.dp ds (show D.pls ds = true from p) r)
  | .lst ds, _, p, ⟨a, xs, e, h, r⟩ => by rw [e]; exact .lst (SqL.of h) (Reps.dp ds (show D.pls ds = true from p) r)
  | .oth _, _, p, _ => by cases (show false = true from p)
  | .ins _ _, _, p, _ => by cases (show false = true from p)
  | .dK _, _, p, _ => by cases (show false = true from p)
  | .dT _, _, p, _ => by cases (show false = true from p)
theorem Reps.dp : forall (ds : List D) {vs : List V}, D.pls ds = true -> Reps G ds vs -> DpAll K G vs (D.pys ds)
  | [], _, _, h => by rw [show _ = [] from h]; exact .nil
  | d :: ds, _, p, ⟨x, xs, e, h, r⟩ => by
    have p' : (d.pl && D.pls ds) = true := p
    rw [Bool.and_eq_true] at p'
    rw [e]
    exact .cons (Rep.dp d p'.1 h) (Reps.dp ds p'.2 r)
end
end
end Ak
/-! Ak 2: what a reading evaluates to. -/
namespace Ak
open PySem PySem.Spec PyProof.Rows L2

def Ev (M : MK) (te : TE) (s : L2.St) (H : Hp) (P : V -> Hp -> Prop) : Prop :=
  forall H1, Same H H1 -> forall Q : VK, (forall v H2, Same H1 H2 -> P v (msk M H2) -> Q v H2) -> te s H1 Q
def EvA (M : MK) (ta : TA) (s : L2.St) (H : Hp) (P : List V -> Hp -> Prop) : Prop :=
  forall H1, Same H H1 -> forall Q : List V -> Hp -> Prop, (forall v H2, Same H1 H2 -> P v (msk M H2) -> Q v H2) -> ta s H1 Q
def EvT (tt : TT) (s : L2.St) (H : Hp) (b : Bool) : Prop :=
  forall H1, Same H H1 -> forall Q : Bool -> Hp -> Prop, (forall H2, Same H1 H2 -> Q b H2) -> tt s H1 Q
abbrev EvD (M : MK) (te : TE) (s : L2.St) (H : Hp) (d : D) : Prop := Ev M te s H fun v G => Rep G d v
abbrev EvDs (M : MK) (ta : TA) (s : L2.St) (H : Hp) (ds : List D) : Prop := EvA M ta s H fun vs G => Reps G ds vs
/-- a two-place rule at data -/
def RD (M : MK) (r : R2) (H : Hp) (d e z : D) : Prop :=
  forall x y H1, Same H H1 -> Rep (msk M H1) d x -> Rep (msk M H1) e y -> forall Q : VK, (forall v H2, Same H1 H2 -> Rep (msk M H2) z v -> Q v H2) -> r x y H1 Q

section
variable {K : PySem.W.Frag} {M : MK} {s : L2.St} {H H' : Hp} {ta tb te tx : TE} {t u : TT} {d e z : D} {P P' : V -> Hp -> Prop}
theorem Ev.mono (e : Same H H') (h : Ev M te s H P) : Ev M te s H' P := fun H1 a Q q => h H1 (e.trans a) Q q
theorem EvA.mono {ta : TA} {P : List V -> Hp -> Prop} (e : Same H H') (h : EvA M ta s H P) : EvA M ta s H' P := fun H1 a Q q => h H1 (e.trans a) Q q
theorem EvT.mono {b : Bool} (e : Same H H') (h : EvT t s H b) : EvT t s H' b := fun H1 a Q q => h H1 (e.trans a) Q q
theorem Ev.imp (h : Ev M te s H P) (i : forall v G, P v G -> P' v G) : Ev M te s H P' := fun H1 a Q q => h H1 a Q fun v H2 e p => q v H2 e (i v _ p)
theorem Ev.to (h : EvD M te s H d) (e : d = z) : EvD M te s H z := by subst e; exact h
theorem ev_at (h : Ev M te s H P) {Q : VK} (q : forall v H2, Same H H2 -> P v (msk M H2) -> Q v H2) : te s H Q := h H (Same.refl H) Q q
theorem evt_at {b : Bool} (h : EvT t s H b) {Q : Bool -> Hp -> Prop} (q : forall H2, Same H H2 -> Q b H2) : t s H Q := h H (Same.refl H) Q q

theorem ev_var {i : Nat} {v : V} (h : s[i]? = some (some v)) (r : Rep (msk M H) d v) : EvD M (tVar i) s H d := fun H1 e Q q => ⟨v, h, q v H1 (Same.refl H1) (r.up (msk_mono e))⟩
theorem ev_c {v : V} (r : forall G, Rep G d v) : EvD M (tC v) s H d := fun H1 _ Q q => q v H1 (Same.refl H1) (r _)
theorem ev_int {i : Int} : EvD M (tC (.int i)) s H (.int i) := ev_c fun _ => rfl
theorem ev_str {x : Str} : EvD M (tC (.str x)) s H (.str x) := ev_c fun _ => rfl
theorem ev_bl {b : Bool} : EvD M (tC (.bl b)) s H (.bl b) := ev_c fun _ => rfl
theorem ev_non : EvD M (tC .non) s H .non := ev_c fun _ => rfl
theorem ev_op {r : R2} (ha : EvD M ta s H d) (hb : EvD M tb s H e) (hr : RD M r H d e z) : EvD M (tOp r ta tb) s H z := fun H1 e1 Q q =>
  ha H1 e1 _ fun x H2 e2 rx => hb H2 (e1.trans e2) _ fun y H3 e3 ry => hr x y H3 ((e1.trans e2).trans e3) (rx.up (msk_mono e3)) ry Q fun v H4 e4 rv => q v H4 ((e2.trans e3).trans e4) rv
/-- one operand, then its rule -/
theorem ev_then {r : V -> Hp -> VK -> Prop} (ha : EvD M ta s H d) (hr : forall x H1, Same H H1 -> Rep (msk M H1) d x -> forall Q : VK, (forall v H2, Same H1 H2 -> P v (msk M H2) -> Q v H2) -> r x H1 Q) : Ev M (fun s H Q => ta s H fun x H1 => r x H1 Q) s H P := fun H1 e1 Q q =>
  ha H1 e1 _ fun x H2 e2 rx => hr x H2 (e1.trans e2) rx Q fun v H3 e3 p => q v H3 (e2.trans e3) p
theorem ea_nil : EvDs M tNil s H [] := fun H1 _ Q q => q [] H1 (Same.refl H1) rfl
theorem ea_cons {tr : TA} {ds : List D} (h : EvD M te s H d) (hr : EvDs M tr s H ds) : EvDs M (tCons te tr) s H (d :: ds) := fun H1 e1 Q q =>
  h H1 e1 _ fun x H2 e2 rx => hr H2 (e1.trans e2) _ fun xs H3 e3 rs => q (x :: xs) H3 (e2.trans e3) ⟨x, xs, rfl, rx.up (msk_mono e3), rs⟩
theorem ea_one (h : EvD M te s H d) : EvDs M (tCons te tNil) s H [d] := ea_cons h ea_nil
theorem ev_tup {tr : TA} {ds : List D} (m : Mok M H) (h : EvDs M tr s H ds) (hz : ds.length ≤ 1000 := by first | decide | simp) : EvD M (tTup tr) s H (.tup ds) := fun H1 e1 Q q =>
  h H1 e1 _ fun xs H2 e2 rs => ⟨by rw [rs.len, sizeLine_eq]; omega, fun p hp => q (.ref p) _ (e2.trans (same_new hp)) ⟨p, xs, rfl, msk_new ((m.up e1).up e2) hp, rs.up (msk_mono (same_new hp))⟩⟩
theorem ev_lst {tr : TA} {ds : List D} (m : Mok M H) (h : EvDs M tr s H ds) (hz : ds.length ≤ 1000 := by first | decide | simp) : EvD M (tLst tr) s H (.lst ds) := fun H1 e1 Q q =>
  h H1 e1 _ fun xs H2 e2 rs => ⟨by rw [rs.len, sizeLine_eq]; omega, fun p hp => q (.ref p) _ (e2.trans (same_new hp)) ⟨p, xs, rfl, msk_new ((m.up e1).up e2) hp, rs.up (msk_mono (same_new hp))⟩⟩
/-- a built-in called: by its rule -/
theorem ev_cb {r : List V -> Hp -> VK -> Prop} {tr : TA} {ds : List D} (h : EvDs M tr s H ds) (hr : forall vs H1, Same H H1 -> Reps (msk M H1) ds vs -> forall Q : VK, (forall v H2, Same H1 H2 -> P v (msk M H2) -> Q v H2) -> r vs H1 Q) : Ev M (tCB r tr) s H P := fun H1 e1 Q q =>
  h H1 e1 _ fun vs H2 e2 rs => hr vs H2 (e1.trans e2) rs Q fun v H3 e3 p => q v H3 (e2.trans e3) p

/-! ### tests -/
theorem et_test {b : Bool} (h : EvD M te s H (.bl b)) : EvT (tTest te) s H b := fun H1 e Q q => h H1 e _ fun v H2 e2 r => ⟨b, r, q H2 e2⟩
theorem et_B {b : Bool} (h : EvD M te s H (.bl b)) : EvT (tB te) s H b := fun H1 e Q q => h H1 e _ fun v H2 e2 r => ⟨b, r, q H2 e2⟩
theorem et_not {b : Bool} (h : EvT t s H b) : EvT (tNot t) s H (!b) := fun H1 e Q q => h H1 e _ fun H2 e2 => q H2 e2
theorem et_and {a b : Bool} (h1 : EvT t s H a) (h2 : a = true -> EvT u s H b) : EvT (tAnd t u) s H (a && b) := fun H1 e Q q => h1 H1 e _ fun H2 e2 => by
  cases a with
  | true => exact iteT (h2 rfl H2 (e.trans e2) Q fun H3 e3 => q H3 (e2.trans e3))
  | false => exact iteF (q H2 e2)
theorem et_or {a b : Bool} (h1 : EvT t s H a) (h2 : a = false -> EvT u s H b) : EvT (tOr t u) s H (a || b) := fun H1 e Q q => h1 H1 e _ fun H2 e2 => by
  cases a with
  | true => exact iteT (q H2 e2)
  | false => exact iteF (h2 rfl H2 (e.trans e2) Q fun H3 e3 => q H3 (e2.trans e3))
theorem et_to {a b : Bool} (h : EvT t s H a) (e : a = b) : EvT t s H b := by subst e; exact h
theorem ev_andV {a : Bool} {z : D} (h1 : EvD M ta s H (.bl a)) (h2 : a = true -> EvD M tb s H z) (h3 : a = false -> z = .bl false) : EvD M (tAndV ta tb) s H z := fun H1 e Q q => h1 H1 e _ fun v H2 e2 r => ⟨a, r, by
  cases a with
  | true => exact iteT (h2 rfl H2 (e.trans e2) Q fun w H3 e3 => q w H3 (e2.trans e3))
  | false => exact iteF (q _ H2 e2 (by rw [h3 rfl]; rfl))⟩
theorem ev_orV {a : Bool} {z : D} (h1 : EvD M ta s H (.bl a)) (h2 : a = false -> EvD M tb s H z) (h3 : a = true -> z = .bl true) : EvD M (tOrV ta tb) s H z := fun H1 e Q q => h1 H1 e _ fun v H2 e2 r => ⟨a, r, by
  cases a with
  | true => exact iteT (q _ H2 e2 (by rw [h3 rfl]; rfl))
  | false => exact iteF (h2 rfl H2 (e.trans e2) Q fun w H3 e3 => q w H3 (e2.trans e3))⟩
theorem ev_notV {a : Bool} (h1 : EvD M ta s H (.bl a)) : EvD M (tNotV ta) s H (.bl (!a)) := fun H1 e Q q => h1 H1 e _ fun v H2 e2 r => ⟨a, r, q _ H2 e2 rfl⟩
theorem ev_ifE {b : Bool} (h : EvT t s H b) (h1 : b = true -> Ev M ta s H P) (h2 : b = false -> Ev M tb s H P) : Ev M (tIf t ta tb) s H P := fun H1 e Q q => h H1 e _ fun H2 e2 => by
  cases b with
  | true => exact iteT (h1 rfl H2 (e.trans e2) Q fun w H3 e3 => q w H3 (e2.trans e3))
  | false => exact iteF (h2 rfl H2 (e.trans e2) Q fun w H3 e3 => q w H3 (e2.trans e3))
/-! ### statements -/
theorem st_if {ts us : TS} {b : Bool} {E : Ends} (h : EvT t s H b) (k1 : b = true -> forall H2, Same H H2 -> ts E s H2) (k2 : b = false -> forall H2, Same H H2 -> us E s H2) : tIfS t ts us E s H := h H (Same.refl H) _ fun H2 e => by
  cases b with
  | true => exact iteT (k1 rfl H2 e)
  | false => exact iteF (k2 rfl H2 e)
theorem st_ret {E : Ends} (h : Ev M te s H P) (k : forall v H2, Same H H2 -> P v (msk M H2) -> E.rt v H2) : tRet te E s H := h H (Same.refl H) _ k
theorem st_set {i : Nat} {E : Ends} (h : Ev M te s H P) (k : forall v H2, Same H H2 -> P v (msk M H2) -> E.nx (s.set i (some v)) H2) : tAsg te (gName i) E s H := h H (Same.refl H) _ k

/-! ### operators at data -/
theorem rd_I0 {g : Int -> Int -> V} {i j : Int} (hz : forall G, Rep G z (g i j)) : RD M (rI0 g) H (.int i) (.int j) z := fun x y H1 _ rx ry Q q => ⟨i, j, rx, ry, q _ H1 (Same.refl H1) (hz _)⟩
theorem rd_I {C : Int -> Int -> Prop} {g : Int -> Int -> V} {i j : Int} (hc : C i j) (hz : forall G, Rep G z (g i j)) : RD M (rI C g) H (.int i) (.int j) z := fun x y H1 _ rx ry Q q => ⟨i, j, rx, ry, hc, q _ H1 (Same.refl H1) (hz _)⟩
/-- the scalar a datum is -/
def D.sc : D -> Option V
  | .non => some .non
  | .bl b => some (.bl b)
  | .int i => some (.int i)
  | .str s => some (.str s)
  | .oth v => some v
  | _ => none
theorem Rep.sc {G : Hp} {v w : V} (h : d.sc = some w) (r : Rep G d v) : v = w := by
  cases d with
  | non => cases h; exact r
  | bl b => cases h; exact r
  | int i => cases h; exact r
  | str s => cases h; exact r
  | oth x => cases h; exact r
  | _ => cases h
theorem rd_eq {x y : V} (hd : d.sc = some x) (he : e.sc = some y) (hs : scal x y = true) : RD M rEq H d e (.bl (decide (x = y))) := fun v w H1 _ rx ry Q q => by
  have ex := rx.sc hd
  have ey := ry.sc he
  subst ex ey
  exact ⟨hs, q _ H1 (Same.refl H1) rfl⟩
theorem rd_ne {x y : V} (hd : d.sc = some x) (he : e.sc = some y) (hs : scal x y = true) : RD M rNe H d e (.bl (!decide (x = y))) := fun v w H1 _ rx ry Q q => by
  have ex := rx.sc hd
  have ey := ry.sc he
  subst ex ey
  exact ⟨hs, q _ H1 (Same.refl H1) rfl⟩
/-- == of data -/
theorem rd_eqD (hd : d.pl = true) (he : e.pl = true) (sd : SeqAt.shaped d.py = true) (se : SeqAt.shaped e.py = true) : RD M (rEqD K) H d e (.bl (PyData.eqv d.py e.py)) := fun v w H1 _ rx ry Q q =>
  ⟨d.py, e.py, Rep.dp d hd (rx.up msk_same), Rep.dp e he (ry.up msk_same), sd, se, q _ H1 (Same.refl H1) rfl⟩
theorem rd_neD (hd : d.pl = true) (he : e.pl = true) (sd : SeqAt.shaped d.py = true) (se : SeqAt.shaped e.py = true) : RD M (rNeD K) H d e (.bl (!PyData.eqv d.py e.py)) := fun v w H1 _ rx ry Q q =>
  ⟨d.py, e.py, Rep.dp d hd (rx.up msk_same), Rep.dp e he (ry.up msk_same), sd, se, q _ H1 (Same.refl H1) rfl⟩
theorem Reps.at_ix {G : Hp} {ds : List D} {vs : List V} {i : Int} (r : Reps G ds vs) (h : atI ds i = some d) : exists v, atI vs i = some v ∧ Rep G d v := by
  unfold atI at h ⊢
  rw [r.len]
  cases q : ixN ds.length i with
  | none => rw [q] at h; cases h
  | some j =>
    rw [q] at h
    obtain ⟨v, h1, h2⟩ := r.at (i := j) h
    exact ⟨v, h1, h2⟩
theorem rd_ixT {ds : List D} {i : Int} (h : atI ds i = some z) : RD M (rIx K) H (.tup ds) (.int i) z := fun v w H1 _ rx ry Q q => by
  obtain ⟨a, xs, e1, hs, rs⟩ := rx
  obtain ⟨y, h1, h2⟩ := rs.at_ix h
  exact .inr (.inl ⟨a, xs, i, y, e1, ry, SqT.of (msk_same _ _ hs), h1, q _ H1 (Same.refl H1) h2⟩)
theorem rd_ixL {ds : List D} {i : Int} (h : atI ds i = some z) : RD M (rIx K) H (.lst ds) (.int i) z := fun v w H1 _ rx ry Q q => by
  obtain ⟨a, xs, e1, hs, rs⟩ := rx
  obtain ⟨y, h1, h2⟩ := rs.at_ix h
  exact .inl ⟨a, xs, i, y, e1, ry, SqL.of (msk_same _ _ hs), h1, q _ H1 (Same.refl H1) h2⟩
theorem rd_ixS {x : Str} {i : Int} {c : Nat} (hl : x.length ≤ sizeLine) (h : atI x.cps.toList i = some c) : RD M (rIx K) H (.str x) (.int i) (.str ⟨#[c]⟩) := fun v w H1 _ rx ry Q q =>
  .inr (.inr ⟨x, i, c, rx, ry, hl, h, q _ H1 (Same.refl H1) rfl⟩)
/-- in a row of flat things -/
def D.fl (ds : List D) (xs : List V) : Prop := ds.map D.sc = xs.map some ∧ xs.all flatV = true
theorem Reps.fl {G : Hp} : forall {ds : List D} {vs xs : List V}, ds.map D.sc = xs.map some -> Reps G ds vs -> vs = xs
  | [], _, xs, h, r => by
    cases xs with
    | nil => exact r
    | cons _ _ => cases h
  | d :: ds, _, xs, h, ⟨x, ys, e, rx, r⟩ => by
    cases xs with
    | nil => cases h
    | cons y xs =>
      rw [List.map_cons, List.map_cons] at h
      injection h with h1 h2
      rw [e, rx.sc h1, Reps.fl h2 r]
theorem rd_inT {neg : Bool} {ds : List D} {x : V} {xs : List V} (hd : d.sc = some x) (hx : flatV x = true) (hs : D.fl ds xs) : RD M (rIn K neg) H d (.tup ds) (.bl (if neg then !inV x xs else inV x xs)) := fun v w H1 _ rx ry Q q => by
  obtain ⟨a, ys, e1, h1, rs⟩ := ry
  have ex := rx.sc hd
  have ey := rs.fl hs.1
  subst ex ey
  exact ⟨a, ys, e1, .inr (SqT.of (msk_same _ _ h1)), hx, hs.2, q _ H1 (Same.refl H1) rfl⟩
theorem rd_inL {neg : Bool} {ds : List D} {x : V} {xs : List V} (hd : d.sc = some x) (hx : flatV x = true) (hs : D.fl ds xs) : RD M (rIn K neg) H d (.lst ds) (.bl (if neg then !inV x xs else inV x xs)) := fun v w H1 _ rx ry Q q => by
  obtain ⟨a, ys, e1, h1, rs⟩ := ry
  have ex := rx.sc hd
  have ey := rs.fl hs.1
  subst ex ey
  exact ⟨a, ys, e1, .inl (SqL.of (msk_same _ _ h1)), hx, hs.2, q _ H1 (Same.refl H1) rfl⟩
/-- xs + ys -/
theorem rd_cat {ds es : List D} (m : Mok M H) (hz : ds.length + es.length ≤ sizeLine) : RD M rCat H (.lst ds) (.lst es) (.lst (ds ++ es)) := fun v w H1 e1 rx ry Q q => by
  obtain ⟨a, xs, ea, ha, ra⟩ := rx
  obtain ⟨b, ys, eb, hb, rb⟩ := ry
  refine ⟨a, b, xs, ys, ea, eb, msk_same _ _ ha, msk_same _ _ hb, by rw [ra.len, rb.len]; exact hz, fun p hp => q _ _ (same_new hp) ⟨p, _, rfl, msk_new (m.up e1) hp, ?_⟩⟩
  exact Reps.app (ra.up (msk_mono (same_new hp))) (rb.up (msk_mono (same_new hp)))
theorem Reps.rep {G : Hp} {ds : List D} {vs : List V} (r : Reps G ds vs) : forall n : Nat, Reps G (List.replicate n ds).flatten (List.replicate n vs).flatten
  | 0 => rfl
  | n + 1 => by
    rw [List.replicate_succ, List.replicate_succ, List.flatten_cons, List.flatten_cons]
    exact Reps.app r (Reps.rep r n)
theorem rd_rep {ds : List D} {k : Int} (m : Mok M H) (h1 : -(2 ^ 63) ≤ k) (h2 : k < 2 ^ 63) (hz : ds.length * k.toNat ≤ sizeLine) : RD M rRep H (.lst ds) (.int k) (.lst (List.replicate k.toNat ds).flatten) := fun v w H1 e1 rx ry Q q => by
  obtain ⟨a, xs, ea, ha, ra⟩ := rx
  refine ⟨a, k, xs, ea, ry, msk_same _ _ ha, h1, h2, by rw [ra.len]; exact hz, fun p hp => q _ _ (same_new hp) ⟨p, _, rfl, msk_new (m.up e1) hp, ?_⟩⟩
  exact Reps.rep (ra.up (msk_mono (same_new hp))) _

/-! ### len, fields -/
/-- the length of a datum -/
def D.len : D -> Option Nat
  | .str x => some x.length
  | .tup ds => some ds.length
  | .lst ds => some ds.length
  | .dK kvs => some kvs.length
  | .dT kvs => some kvs.length
  | _ => none
theorem Reps.cut {G : Hp} : forall {ds : List D} {vs : List V} (a n : Nat), Reps G ds vs -> Reps G ((ds.drop a).take n) ((vs.drop a).take n) := by
  have tk : forall {ds : List D} {vs : List V} (n : Nat), Reps G ds vs -> Reps G (ds.take n) (vs.take n) := by
    intro ds
    induction ds with
    | nil => intro vs n r; rw [show vs = [] from r, List.take_nil, List.take_nil]; exact rfl
    | cons d ds ih =>
      intro vs n r
      obtain ⟨x, xs, e, rx, r⟩ := r
      cases n with
      | zero => exact rfl
      | succ n => rw [e]; exact ⟨x, _, rfl, rx, ih n r⟩
  have dr : forall {ds : List D} {vs : List V} (n : Nat), Reps G ds vs -> Reps G (ds.drop n) (vs.drop n) := by
    intro ds
    induction ds with
    | nil => intro vs n r; rw [show vs = [] from r, List.drop_nil, List.drop_nil]; exact rfl
    | cons d ds ih =>
      intro vs n r
      cases n with
      | zero => exact r
      | succ n =>
        obtain ⟨x, xs, e, rx, r⟩ := r
        rw [e]
        exact ih n r
  intro ds vs a n r
  exact tk n (dr a r)
/-- xs[lo:hi] -/
def cutD (ds : List D) (lo hi : Option Int) : List D := (ds.drop (HT.sIx ds.length 0 lo)).take (HT.sIx ds.length ds.length hi - HT.sIx ds.length 0 lo)
theorem Reps.cutV {G : Hp} {ds : List D} {vs : List V} (r : Reps G ds vs) (lo hi : Option Int) : Reps G (cutD ds lo hi) (L2.cutV vs lo hi) := by
  unfold cutD L2.cutV
  rw [r.len]
  exact r.cut _ _
def RepFld (fs : List (Str × D)) (f : Str) : Option D := fs.lookup f
theorem RepF.look {G : Hp} : forall {fs : List (Str × D)} {vs : List (Str × V)} {f : Str}, RepF G fs vs -> fs.lookup f = some d -> exists v, vs.lookup f = some v ∧ Rep G d v
  | [], _, _, _, h => by cases h
  | (g, d') :: fs, _, f, ⟨x, xs, e, rx, r⟩, h => by
    rw [e]
    by_cases hg : f = g
    · have hb : (f == g) = true := beq_iff_eq.mpr hg
      simp only [List.lookup, hb] at h ⊢
      cases h
      exact ⟨x, rfl, rx⟩
    · have hb : (f == g) = false := beq_eq_false_iff_ne.mpr hg
      simp only [List.lookup, hb] at h ⊢
      exact RepF.look r h
theorem RepF.none {G : Hp} : forall {fs : List (Str × D)} {vs : List (Str × V)} {f : Str}, RepF G fs vs -> fs.lookup f = Option.none -> vs.lookup f = Option.none
  | [], _, _, e, _ => by rw [show _ = [] from e] <;> rfl
  | (g, d') :: fs, _, f, ⟨x, xs, e, rx, r⟩, h => by
    rw [e]
    by_cases hg : f = g
    · have hb : (f == g) = true := beq_iff_eq.mpr hg
      simp only [List.lookup, hb] at h
      cases h
    · have hb : (f == g) = false := beq_eq_false_iff_ne.mpr hg
      simp only [List.lookup, hb] at h ⊢
      exact RepF.none r h
theorem ev_fld {C : Addr} {f : Str} {fs : List (Str × D)} (h : EvD M ta s H (.ins C fs)) (c : Cls K C) (n : NoAttr K C f) (l : fs.lookup f = some d) : EvD M (tFld K ta f) s H d := fun H1 e1 Q q =>
  h H1 e1 _ fun v H2 e2 r => by
    obtain ⟨a, dx, vs, ev, ha, rf⟩ := r
    obtain ⟨y, hl, ry⟩ := rf.look l
    exact ⟨a, C, dx, vs, y, ev, msk_same _ _ ha, c, n, hl, q y H2 e2 ry⟩
end
end Ak
/-! Ak 3: what a for and a comprehension walk, as rows of data. -/
namespace Ak
open PySem PySem.Spec PyProof.Rows L2

/-- the walk J yields the data ds, one behind the other, as long as H2 stands -/
structure ItD (M : MK) (J : It) (ds : List D) (H2 : Hp) : Prop where
  go : forall i H, Kp M H2 H -> i < ds.length -> J.go i H
  stop : forall H, Kp M H2 H -> J.stop ds.length H
  yld : forall i H x H' (N : MK), Kp M H2 H -> Mok N H -> (forall a, N a -> M a ∨ H2 a = none) -> i < ds.length -> J.yld i H x H' -> Same H H' ∧ exists d, ds[i]? = some d ∧ Rep (msk N H') d x
def EvI (M : MK) (wi : TI) (s : L2.St) (H : Hp) (ds : List D) : Prop :=
  forall H1, Same H H1 -> forall R : It -> Hp -> Prop, (forall J H2, Same H1 H2 -> ItD M J ds H2 -> R J H2) -> wi s H1 R

section
variable {K : PySem.W.Frag} {M : MK} {s : L2.St} {H H' : Hp} {te : TE} {ds : List D}
theorem EvI.mono {wi : TI} (e : Same H H') (h : EvI M wi s H ds) : EvI M wi s H' ds := fun H1 a Q q => h H1 (e.trans a) Q q
/-! ### sources -/
theorem ei_list (h : EvD M te s H (.lst ds)) : EvI M (iList K te) s H ds := fun H1 e R k => h H1 e _ fun v H2 e2 r => by
  obtain ⟨a, xs, ev, ha, rs⟩ := r
  have ha2 := msk_same _ _ ha
  refine ⟨a, ev, ⟨xs, SqL.of ha2⟩, k _ H2 e2 ⟨fun i H f hi => ?_, fun H f => ?_, fun i H x H' N f m hn hi y => ?_⟩⟩
  · have hl : i < xs.length := by rw [rs.len]; exact hi
    exact ⟨xs, xs[i], SqL.of (f.lst ha), by simp [hl]⟩
  · exact ⟨xs, SqL.of (f.lst ha), by rw [rs.len]; exact Nat.le_refl _⟩
  · obtain ⟨e, y⟩ := y
    subst e
    obtain ⟨d, h1, h2⟩ := rs.get (y xs (SqL.of (f.lst ha)))
    exact ⟨Same.refl _, d, h1, h2.fx (f.msk hn)⟩
theorem ei_tup (h : EvD M te s H (.tup ds)) : EvI M (iTup K te) s H ds := fun H1 e R k => h H1 e _ fun v H2 e2 r => by
  obtain ⟨a, xs, ev, ha, rs⟩ := r
  have ha2 := msk_same _ _ ha
  refine ⟨a, ev, ⟨xs, SqT.of ha2⟩, k _ H2 e2 ⟨fun i H f hi => ?_, fun H f => ?_, fun i H x H' N f m hn hi y => ?_⟩⟩
  · have hl : i < xs.length := by rw [rs.len]; exact hi
    exact ⟨xs, xs[i], SqT.of (f.tup ha), by simp [hl]⟩
  · exact ⟨xs, SqT.of (f.tup ha), by rw [rs.len]; exact Nat.le_refl _⟩
  · obtain ⟨e, y⟩ := y
    subst e
    obtain ⟨d, h1, h2⟩ := rs.get (y xs (SqT.of (f.tup ha)))
    exact ⟨Same.refl _, d, h1, h2.fx (f.msk hn)⟩
/-- n, n + 1, .. -/
def rngD (lo : Int) (n : Nat) : List D := (List.range n).map fun (i : Nat) => D.int (lo + (i : Int))
theorem rngD_len (lo : Int) (n : Nat) : (rngD lo n).length = n := by unfold rngD; rw [List.length_map, List.length_range]
theorem itr_d {lo : Int} {n : Nat} {H2 : Hp} : ItD M (Itr lo n) (rngD lo n) H2 := by
  refine ⟨fun i H f hi => ?_, fun H f => ?_, fun i H x H' N f m hn hi y => ?_⟩
  · rw [rngD_len] at hi
    exact hi
  · rw [rngD_len]
    exact Nat.le_refl _
  · obtain ⟨e, y⟩ := y
    rw [rngD_len] at hi
    subst e y
    refine ⟨Same.refl _, .int (lo + (i : Int)), ?_, rfl⟩
    unfold rngD
    rw [List.getElem?_map, List.getElem?_range hi] <;> rfl
theorem ei_rng1 {ta : TA} {j : Int} (h : EvDs M ta s H [.int j]) (h1 : -(2 ^ 62) ≤ j) (h2 : j < 2 ^ 62) : EvI M (iRng1 ta) s H (rngD 0 j.toNat) := fun H1 e R k => h H1 e _ fun vs H2 e2 r => by
  obtain ⟨x, xs, ev, rx, rs⟩ := r
  have e3 : x = V.int j := rx
  have e4 : xs = [] := rs
  subst e3 e4
  exact ⟨j, ev, h1, h2, k _ H2 e2 itr_d⟩
theorem ei_rng2 {ta : TA} {i j : Int} (h : EvDs M ta s H [.int i, .int j]) (h1 : -(2 ^ 62) ≤ i) (h2 : i < 2 ^ 62) (h3 : -(2 ^ 62) ≤ j) (h4 : j < 2 ^ 62) : EvI M (iRng2 ta) s H (rngD i (j - i).toNat) := fun H1 e R k => h H1 e _ fun vs H2 e2 r => by
  obtain ⟨x, xs, ev, rx, y, ys, ew, ry, rs⟩ := r
  have e3 : x = V.int i := rx
  have e4 : y = V.int j := ry
  have e5 : ys = [] := rs
  subst ew e3 e4 e5
  exact ⟨i, j, ev, ⟨h1, h2, h3, h4⟩, k _ H2 e2 itr_d⟩
/-- a text's signs -/
def signs (x : Str) : List D := x.cps.toList.map fun c => .str ⟨#[c]⟩
theorem ei_str {x : Str} (h : EvD M te s H (.str x)) : EvI M (fun s H R => te s H fun v H1 => exists y, v = .str y ∧ R (Its y) H1) s H (signs x) := fun H1 e R k => h H1 e _ fun v H2 e2 r => by
  refine ⟨x, r, k _ H2 e2 ⟨fun i H f hi => ?_, fun H f => ?_, fun i H x H' N f m hn hi y => ?_⟩⟩
  · unfold signs at hi
    rw [List.length_map, Array.length_toList] at hi
    exact hi
  · unfold signs
    rw [List.length_map, Array.length_toList]
    exact Nat.le_refl _
  · obtain ⟨e, c, h1, h2⟩ := y
    subst e h2
    refine ⟨Same.refl _, .str ⟨#[c]⟩, ?_, rfl⟩
    unfold signs
    rw [List.getElem?_map, Array.getElem?_toList, h1] <;> rfl
/-- (0, x), (1, y), .. -/
def enumD (ds : List D) : List D := ds.zipIdx.map fun p => .tup [.int (p.2 : Int), p.1]
theorem enumD_at {ds : List D} {i : Nat} {d : D} (h : ds[i]? = some d) : (enumD ds)[i]? = some (.tup [.int (i : Int), d]) := by
  unfold enumD
  rw [List.getElem?_map, List.getElem?_zipIdx, h]
  simp
theorem enumD_len (ds : List D) : (enumD ds).length = ds.length := by unfold enumD; rw [List.length_map, List.length_zipIdx]
theorem rep_new2 {N : MK} {H : Hp} {T : Addr} {x y : V} {d e : D} (m : Mok N H) (hT : H T = none) (r1 : Rep (msk N H) d x) (r2 : Rep (msk N H) e y) : Rep (msk N (upd H T (.tup [x, y]))) (.tup [d, e]) (.ref T) :=
  ⟨T, [x, y], rfl, msk_new m hT, x, [y], rfl, r1.up (msk_mono (same_new hT)), y, [], rfl, r2.up (msk_mono (same_new hT)), rfl⟩
theorem ei_enum {ta : TA} (h : EvDs M ta s H [.lst ds]) : EvI M (iEnum K ta) s H (enumD ds) := fun H1 e R k => h H1 e _ fun vs H2 e2 r => by
  obtain ⟨x, xs, ev, rx, r0⟩ := r
  have e4 : xs = [] := r0
  obtain ⟨a, ys, ea, ha, rs⟩ := rx
  have ha2 := msk_same _ _ ha
  subst e4 ea
  refine ⟨a, ys, ev, SqL.of ha2, k _ H2 e2 ⟨fun i H f hi => ?_, fun H f => ?_, fun i H x H' N f m hn hi y => ?_⟩⟩
  · rw [enumD_len] at hi
    have hl : i < ys.length := by rw [rs.len]; exact hi
    exact ⟨ys, ys[i], SqL.of (f.lst ha), by simp [hl]⟩
  · rw [enumD_len]
    exact ⟨ys, SqL.of (f.lst ha), by rw [rs.len]; exact Nat.le_refl _⟩
  · obtain ⟨T, z, e5, hT, e6, hz⟩ := y
    subst e5 e6
    obtain ⟨d, h1, h2⟩ := rs.get (hz ys (SqL.of (f.lst ha)))
    exact ⟨same_new hT, _, enumD_at h1, rep_new2 m hT rfl (h2.fx (f.msk hn))⟩

/-! ### one element of a comprehension -/
/-- the item x: kept as the datum o, or left out (none) -/
def Elt (N : MK) (g : TG) (tt : TT) (te : TE) (vs : List Nat) (s : L2.St) (H3 : Hp) (x : V) (o : Option D) : Prop :=
  forall (P : V -> Hp -> Prop) (S : Hp -> Prop), (forall d, o = some d -> forall y H4, Same H3 H4 -> Rep (msk N H4) d y -> P y H4) -> (o = none -> forall H4, Same H3 H4 -> S H4) ->
    g x (wipe s vs) H3 fun s2 H4 => wipe s2 vs = wipe s vs ∧ tt s2 H4 fun b H5 => if b = true then te s2 H5 P else S H5
theorem elt_of {N : MK} {g : TG} {tt : TT} {vs : List Nat} {H3 : Hp} {x : V} {o : Option D} {s2 : L2.St} (hg : forall Q : L2.St -> Hp -> Prop, Q s2 H3 -> g x (wipe s vs) H3 Q) (hw : wipe s2 vs = wipe s vs) {b : Bool}
    (ht : EvT tt s2 H3 b) (he : b = true -> exists d, o = some d ∧ EvD N te s2 H3 d) (hn : b = false -> o = none) : Elt N g tt te vs s H3 x o := fun P S kp ks => hg _ ⟨hw, ht H3 (Same.refl _) _ fun H4 e4 => by
  cases b with
  | true =>
    obtain ⟨d, eo, hd⟩ := he rfl
    exact iteT (hd H4 e4 _ fun y H5 e5 r => kp d eo y H5 (e4.trans e5) r)
  | false => exact iteF (ks (hn rfl) H4 e4)⟩
theorem et_yes : EvT tYes s H true := fun H1 _ Q q => q H1 (Same.refl H1)
/-- no test -/
theorem elt_all {N : MK} {g : TG} {vs : List Nat} {H3 : Hp} {x : V} {d : D} {s2 : L2.St} (hg : forall Q : L2.St -> Hp -> Prop, Q s2 H3 -> g x (wipe s vs) H3 Q) (hw : wipe s2 vs = wipe s vs) (he : EvD N te s2 H3 d) : Elt N g tYes te vs s H3 x (some d) :=
  elt_of hg hw et_yes (fun _ => ⟨d, rfl, he⟩) fun z => nomatch z
theorem ev_lc {wi : TI} {g : TG} {tt : TT} {vs : List Nat} (f : D -> Option D) (m : Mok M H) (hi : EvI M wi s H ds) (hz : ds.length ≤ 1000000)
    (hs : forall (N : MK) H3 d x, Mok N H3 -> Same (msk M H) (msk N H3) -> d ∈ ds -> Rep (msk N H3) d x -> Elt N g tt te vs s H3 x (f d)) : EvD M (tLc wi g tt te vs) s H (.lst (ds.filterMap f)) := fun H1 e1 Q q =>
  hi H1 e1 _ fun J H2 e2 it Da hD => by
    have m2 : Mok M H2 := (m.up e1).up e2
    have hM : ¬ M Da := m2.new hD
    let N : MK := fun a => M a ∨ a = Da
    have i2 : forall a, N a -> M a ∨ H2 a = none := fun a z => by
      rcases z with z | z
      · exact .inl z
      · exact .inr (by rw [z]; exact hD)
    have hlow : forall {H3 : Hp}, Same H2 H3 -> Same (msk M H2) (msk N H3) := fun {H3} e a o h => by
      obtain ⟨n, h⟩ := msk_of h
      rw [msk_at]
      · exact e _ _ h
      · rintro (z | z)
        · exact n z
        · rw [z, hD] at h
          cases h
    refine ⟨fun i k H3 => k = ds.length - i ∧ i ≤ ds.length ∧ Same H2 H3 ∧ exists acc, H3 Da = some (.lst acc) ∧ Reps (msk N H3) ((ds.take i).filterMap f) acc,
      ⟨ds.length, by simp, Nat.zero_le _, same_new hD, [], upd_same, rfl⟩, ?_⟩
    rintro i k H3 ⟨rfl, hi, e3, acc, ha, rs⟩
    have m3 : Mok N H3 := Mok.add (m2.up e3) ha
    have hlen : acc.length ≤ i := by
      rw [rs.len]
      exact Nat.le_trans (List.length_filterMap_le _ _) (by rw [List.length_take]; omega)
    by_cases hlt : i < ds.length
    · refine .inr ⟨it.go i H3 (Kp.of e3) hlt, fun H4 => Same H2 H4 ∧ exists acc, H4 Da = some (.lst acc) ∧ Reps (msk N H4) ((ds.take (i + 1)).filterMap f) acc, fun H4 w => ⟨ds.length - (i + 1), by omega, rfl, hlt, w⟩, fun x H4 y => ?_⟩
      obtain ⟨e4, d, hd, rd⟩ := it.yld i H3 x H4 N (Kp.of e3) m3 i2 hlt y
      have tk : ds.take (i + 1) = ds.take i ++ [d] := by rw [List.take_succ, hd] <;> rfl
      have ha4 := e4 _ _ ha
      have rs4 := rs.up (msk_mono e4)
      refine hs N H4 d x (m3.up e4) (fun a o h => hlow (e3.trans e4) _ _ (msk_mono (e1.trans e2) _ _ h)) (List.mem_of_getElem? hd) rd _ _ (fun d' ho y' H5 e5 r5 => ?_) (fun ho H5 e5 => ?_)
      · refine ⟨acc, e5 _ _ ha4, by rw [sizeLine_eq]; omega, fun a o h => ?_, acc ++ [y'], upd_same, ?_⟩
        · rw [upd_ne (ne_of_none h hD)]
          exact e5 _ _ (e4 _ _ (e3 _ _ h))
        · rw [tk, List.filterMap_append, List.filterMap_cons_some ho, List.filterMap_nil, msk_upd (M := N) (.inr rfl)]
          exact Reps.app (rs4.up (msk_mono e5)) (Reps.one r5)
      · refine ⟨(e3.trans e4).trans e5, acc, e5 _ _ ha4, ?_⟩
        rw [tk, List.filterMap_append, List.filterMap_cons_none ho, List.filterMap_nil, List.append_nil]
        exact rs4.up (msk_mono e5)
    · have e : i = ds.length := by omega
      subst e
      rw [List.take_length] at rs
      refine .inl ⟨it.stop H3 (Kp.of e3), q _ H3 (e2.trans e3) ⟨Da, acc, rfl, ?_, rs.up (msk_less fun a z => .inl z)⟩⟩
      rw [msk_at hM]
      exact ha
/-- the same, nothing left out -/
theorem ev_lcm {wi : TI} {g : TG} {vs : List Nat} (f : D -> D) (m : Mok M H) (hi : EvI M wi s H ds) (hz : ds.length ≤ 1000000)
    (hs : forall (N : MK) H3 d x, Mok N H3 -> Same (msk M H) (msk N H3) -> d ∈ ds -> Rep (msk N H3) d x -> Elt N g tYes te vs s H3 x (some (f d))) : EvD M (tLc wi g tYes te vs) s H (.lst (ds.map f)) := by
  have h := ev_lc (fun d => some (f d)) m hi hz hs
  have e : ds.filterMap (fun d => some (f d)) = ds.map f := congrFun List.filterMap_eq_map ds
  rw [e] at h
  exact h
/-! ### for -/
theorem st_for {wi : TI} {g : TG} {tb : TS} {E : Ends} (m : Mok M H) (hi : EvI M wi s H ds) (Pv : Hp -> Nat -> L2.St -> Hp -> Prop) (h0 : forall H2, Same H H2 -> Pv H2 0 s H2) (hf : forall H2 i s' H', Pv H2 i s' H' -> Kp M H2 H')
    (hs : forall H2 i d x s' H' H'', Same H H2 -> i < ds.length -> ds[i]? = some d -> Pv H2 i s' H' -> Same H' H'' -> (forall N, Mok N H' -> (forall a, N a -> M a ∨ H2 a = none) -> Rep (msk N H'') d x) ->
      g x s' H'' fun s2 H3 => tb { E with nx := Pv H2 (i + 1), ct := Pv H2 (i + 1), bk := E.nx } s2 H3)
    (hd : forall H2 s' H', Same H H2 -> Pv H2 ds.length s' H' -> E.nx s' H') : tFor wi g tb E s H :=
  hi H (Same.refl H) _ fun J H2 e2 it => by
    refine ⟨fun i k s' H' => k = ds.length - i ∧ i ≤ ds.length ∧ Pv H2 i s' H', ⟨ds.length, by simp, Nat.zero_le _, h0 H2 e2⟩, ?_⟩
    rintro i k s' H' ⟨rfl, hi, p⟩
    by_cases hlt : i < ds.length
    · refine .inr ⟨it.go i H' (hf _ _ _ _ p) hlt, Pv H2 (i + 1), fun s2 H3 p' => ⟨ds.length - (i + 1), by omega, rfl, hlt, p'⟩, fun x H'' y => ?_⟩
      have hd' : ds[i]? = some ds[i] := List.getElem?_eq_getElem hlt
      obtain ⟨e4, _, _, _⟩ := it.yld i H' x H'' (fun _ => False) (hf _ _ _ _ p) (Mok.none _) (fun _ z => z.elim) hlt y
      refine hs H2 i ds[i] x s' H' H'' e2 hlt hd' p e4 fun N mN iN => ?_
      obtain ⟨_, d, h1, r⟩ := it.yld i H' x H'' N (hf _ _ _ _ p) mN iN hlt y
      rw [hd'] at h1
      cases h1
      exact r
    · have e : i = ds.length := by omega
      subst e
      exact .inl ⟨it.stop H' (hf _ _ _ _ p), hd H2 s' H' e2 p⟩
end
end Ak
/-! Ak 4: one rule an operator, whatever the types. -/
namespace Ak
open PySem PySem.Spec PyProof.Rows L2

/-- a datum of the library's kind, not too deep -/
def D.ok (d : D) : Bool := d.pl && decide (d.py.depth ≤ 40)
mutual
theorem pl_plain : forall d : D, d.pl = true -> d.py.plain = true
  | .non, _ => rfl
  | .bl _, _ => rfl
  | .int _, _ => rfl
  | .str _, _ => rfl
  | .tup ds, h => pls_plain ds h
  | .lst ds, h => pls_plain ds h
  | .oth _, h => by cases (show false = true from h)
  | .ins _ _, h => by cases (show false = true from h)
  | .dK _, h => by cases (show false = true from h)
  | .dT _, h => by cases (show false = true from h)
theorem pls_plain : forall ds : List D, D.pls ds = true -> PyData.plainAll (D.pys ds) = true
  | [], _ => rfl
  | d :: ds, h => by
    have h' : (d.pl && D.pls ds) = true := h
    rw [Bool.and_eq_true] at h'
    show (d.py.plain && PyData.plainAll (D.pys ds)) = true
    rw [pl_plain d h'.1, pls_plain ds h'.2] <;> rfl
end
theorem D.ok_pl {d : D} (h : d.ok = true) : d.pl = true := by
  unfold D.ok at h
  rw [Bool.and_eq_true] at h
  exact h.1
theorem D.ok_dp {d : D} (h : d.ok = true) : d.py.depth ≤ 40 := by
  unfold D.ok at h
  rw [Bool.and_eq_true, decide_eq_true_eq] at h
  exact h.2
/-- == | != of data -/
def rEqU (neg : Bool) : R2 := fun x y H Q => exists d e : D, Rep H d x ∧ Rep H e y ∧ d.ok = true ∧ e.ok = true ∧ Q (.bl (if neg then !PyData.eqv d.py e.py else PyData.eqv d.py e.py)) H
section
variable {X : Cx}
theorem op_eqU (hu : X.A.units + 64 < cLine) : OpR X (compareOp .Eq) (rEqU false) := by
  intro pins s σ H x y v u Q I rx ry h
  obtain ⟨d, e, hd, he, sd, se, q⟩ := h
  obtain ⟨as, r1⟩ := Dp.reads I d.py x v (Rep.dp d (D.ok_pl sd) hd) rx
  obtain ⟨bs, r2⟩ := Dp.reads I e.py y u (Rep.dp e (D.ok_pl se) he) ry
  have h1 := D.ok_dp sd
  exact SeqAt.eq_plain r1 r2 (pl_plain d (D.ok_pl sd)) (pl_plain e (D.ok_pl se)) (by omega) ⟨.bl _, H, I, rfl, q⟩
theorem op_neU (hu : X.A.units + 64 < cLine) : OpR X (compareOp .NotEq) (rEqU true) := by
  intro pins s σ H x y v u Q I rx ry h
  obtain ⟨d, e, hd, he, sd, se, q⟩ := h
  obtain ⟨as, r1⟩ := Dp.reads I d.py x v (Rep.dp d (D.ok_pl sd) hd) rx
  obtain ⟨bs, r2⟩ := Dp.reads I e.py y u (Rep.dp e (D.ok_pl se) he) ry
  have h1 := D.ok_dp sd
  exact SeqAt.ne_plain r1 r2 (pl_plain d (D.ok_pl sd)) (pl_plain e (D.ok_pl se)) (by omega) ⟨.bl _, H, I, rfl, q⟩
end
/-- in | not in: a list, a tuple of data; a sign in a text; a dict -/
def inP (d : D) (es : List D) : Bool := es.any fun e => PyData.eqv e.py d.py
def oksP (es : List D) : Bool := es.all D.ok
def rInU (neg : Bool) : R2 := fun x y H Q =>
  (exists (d : D) (es : List D), Rep H d x ∧ (Rep H (.lst es) y ∨ Rep H (.tup es) y) ∧ d.ok = true ∧ oksP es = true ∧ Q (.bl (if neg then !inP d es else inP d es)) H) ∨
  (exists (c : Nat) (z : Str), x = .str ⟨#[c]⟩ ∧ y = .str z ∧ Q (.bl (if neg then !decide (c ∈ z.cps.toList) else decide (c ∈ z.cps.toList))) H) ∨
  (exists (a : Addr) (o : Option V), y = .ref a ∧ DGet H a x o ∧ Q (.bl (if neg then !o.isSome else o.isSome)) H)
theorem oks_pls : forall {es : List D}, oksP es = true -> D.pls es = true
  | [], _ => rfl
  | e :: es, h => by
    unfold oksP at h
    rw [List.all_cons, Bool.and_eq_true] at h
    show (e.pl && D.pls es) = true
    rw [D.ok_pl h.1, oks_pls (es := es) h.2] <;> rfl
theorem any_pys (d : D) : forall es : List D, ((D.pys es).any fun y => PyData.eqv y d.py) = inP d es
  | [] => rfl
  | e :: es => by
    show (PyData.eqv e.py d.py || (D.pys es).any fun y => PyData.eqv y d.py) = (PyData.eqv e.py d.py || inP d es)
    rw [any_pys d es]
section
variable {X : Cx}
theorem op_inU (hu : X.A.units + 64 < cLine) : OpR X (compareOp .In) (rInU false) := by
  intro pins s σ H x y v u Q I rx ry h
  rcases h with ⟨d, es, hd, hy, sd, se, q⟩ | ⟨c, z, e1, e2, q⟩ | ⟨a, o, e, g, q⟩
  · obtain ⟨as, r1⟩ := Dp.reads I d.py x v (Rep.dp d (D.ok_pl sd) hd) rx
    have h1 := D.ok_dp sd
    have h2 := oks_pls se
    rcases hy with hy | hy
    · obtain ⟨bs, r2⟩ := Dp.reads I (.list (D.pys es)) y u (Rep.dp (.lst es) h2 hy) ry
      exact SeqAt.in_list_data r2 r1 (pls_plain es h2) (pl_plain d (D.ok_pl sd)) (by omega) (by rw [any_pys]; exact ⟨.bl _, H, I, rfl, q⟩)
    · obtain ⟨bs, r2⟩ := Dp.reads I (.tuple (D.pys es)) y u (Rep.dp (.tup es) h2 hy) ry
      exact SeqAt.in_tuple_data r2 r1 (pls_plain es h2) (pl_plain d (D.ok_pl sd)) (by omega) (by rw [any_pys]; exact ⟨.bl _, H, I, rfl, q⟩)
  · exact op_in_sign pins s σ H x y v u Q I rx ry ⟨c, z, e1, e2, q⟩
  · subst e
    obtain rfl : u = Value.ref a := ry
    exact d_in (by omega) I g rx fun s' I' => ⟨.bl _, H, I', rfl, q⟩
theorem op_notInU (hu : X.A.units + 64 < cLine) : OpR X (compareOp .NotIn) (rInU true) := by
  intro pins s σ H x y v u Q I rx ry h
  rcases h with ⟨d, es, hd, hy, sd, se, q⟩ | ⟨c, z, e1, e2, q⟩ | ⟨a, o, e, g, q⟩
  · obtain ⟨as, r1⟩ := Dp.reads I d.py x v (Rep.dp d (D.ok_pl sd) hd) rx
    have h1 := D.ok_dp sd
    have h2 := oks_pls se
    rcases hy with hy | hy
    · obtain ⟨bs, r2⟩ := Dp.reads I (.list (D.pys es)) y u (Rep.dp (.lst es) h2 hy) ry
      exact SeqAt.notIn_list_data r2 r1 (pls_plain es h2) (pl_plain d (D.ok_pl sd)) (by omega) (by rw [any_pys]; exact ⟨.bl _, H, I, rfl, q⟩)
    · obtain ⟨bs, r2⟩ := Dp.reads I (.tuple (D.pys es)) y u (Rep.dp (.tup es) h2 hy) ry
      exact SeqAt.notIn_tuple_data r2 r1 (pls_plain es h2) (pl_plain d (D.ok_pl sd)) (by omega) (by rw [any_pys]; exact ⟨.bl _, H, I, rfl, q⟩)
  · exact op_notIn_sign pins s σ H x y v u Q I rx ry ⟨c, z, e1, e2, q⟩
  · subst e
    obtain rfl : u = Value.ref a := ry
    exact d_notIn (by omega) I g rx fun s' I' => ⟨.bl _, H, I', rfl, q⟩
/-- x + y -/
def rAddU (K : PySem.W.Frag) : R2 := fun x y H Q => rI0 (fun i j => .int (i + j)) x y H Q ∨ (exists i j, x = .str i ∧ y = .str j ∧ i.length + j.length ≤ sizeLine ∧ Q (.str (i ++ j)) H) ∨ rCat x y H Q ∨ rCatT K x y H Q
theorem op_addU : OpR X (binaryOp .Add) (rAddU X.K) := op_add.or (op_add_str.or (op_cat.or op_catT))
/-- x * y -/
def rMulU : R2 := fun x y H Q => rI CMul (fun i j => .int (i * j)) x y H Q ∨ rRep x y H Q
theorem op_mulU : OpR X (binaryOp .Mult) rMulU := op_mul.or op_rep
/-- x[i]: lists, tuples, texts, dicts (the key is there) -/
def tIxU (K : PySem.W.Frag) (ta tb : TE) : TE := tOp (rIx K) ta tb

/-- what a for walks: a list, a tuple, a text, a locked dict -/
def iAny (K : PySem.W.Frag) (te : TE) : TI := fun s H R => te s H fun v H1 => (exists a xs, v = .ref a ∧ H1 a = some (.lst xs) ∧ R (Itl K a) H1) ∨ (exists a xs, v = .ref a ∧ H1 a = some (.tup xs) ∧ R (Itt K a) H1) ∨
  (exists x, v = .str x ∧ R (Its x) H1) ∨ (exists d o kvs, v = .ref d ∧ H1 d = some (.frz o (.dK kvs)) ∧ R (Itk d o kvs) H1) ∨ (exists d o kvs, v = .ref d ∧ H1 d = some (.frz o (.dT kvs)) ∧ R (Itkt d o kvs) H1)
theorem pi_any {tg l : Expr} {te : TE} (hl : PE X l te) : PI X tg l (iAny X.K te) := by
  refine ⟨fun pins s σ H R I h => ?_⟩
  refine thn (hl.run pins s σ H _ I h) fun v s1 ⟨x, H1, I1, r1, q1⟩ => ?_
  rcases q1 with ⟨a, xs, e, ha, q⟩ | ⟨a, xs, e, ha, q⟩ | ⟨z, e, q⟩ | ⟨d, o, kvs, e, hd, q⟩ | ⟨d, o, kvs, e, hd, q⟩
  · subst e
    cases r1
    obtain ⟨its, rv, p, hz⟩ := I1.list (SqL.of ha)
    exact wpAny_pyIter_list p.isList (pi_one (tk := s1.toks) I1 _ (turn_list a _) ⟨_, Heap.get?_push_size _ rfl, rfl, rfl⟩ q)
  · subst e
    cases r1
    obtain ⟨its, rv, p, hz⟩ := I1.tuple (SqT.of ha)
    exact wpAny_pyIter_tuple (show s1.heap.IsTuple a its.toArray from p) (pi_one (tk := s1.toks) I1 _ (turn_tuple a _) ⟨_, Heap.get?_push_size _ rfl, rfl, rfl⟩ q)
  · subst e
    obtain ⟨t, rfl⟩ := r1
    cases ha : z.cps.all (· < 128)
    · exact wpAny_pyIter_wide ha (pi_one (tk := s1.toks) I1 _ (turn_str _ z t "str_iterator" (.inr rfl)) ⟨_, Heap.get?_push_size _ rfl, rfl, rfl⟩ q)
    · exact wpAny_pyIter_ascii ha (pi_one (tk := s1.toks) I1 _ (turn_str _ z t "str_ascii_iterator" (.inl rfl)) ⟨_, Heap.get?_push_size _ rfl, rfl, rfl⟩ q)
  · subst e
    cases r1
    obtain ⟨hs, hgd, hx, es, ep, vs, hdt, hsz, kv, hm⟩ := I1.frzK hd
    refine iter_keys hs hgd hx hdt (pi_one (tk := s1.toks) I1 _ (turn_keys _ hdt) ⟨_, Heap.get?_push_size _ rfl, rfl, ?_⟩ q)
    rw [hsz] <;> rfl
  · subst e
    cases r1
    obtain ⟨hs, hgd, hx, es, ep, hdt, hsz, ent⟩ := I1.frzT hd
    refine iter_keys hs hgd hx hdt (pi_one (tk := s1.toks) I1 _ (turn_keysT _ hdt) ⟨_, Heap.get?_push_size _ rfl, rfl, ?_⟩ q)
    rw [hsz] <;> rfl
end

section
variable {K : PySem.W.Frag} {M : MK} {s : L2.St} {H : Hp} {te : TE} {ds : List D} {d e : D}
theorem rd_eqU {neg : Bool} (hd : d.ok = true) (he : e.ok = true) : RD M (rEqU neg) H d e (.bl (if neg then !PyData.eqv d.py e.py else PyData.eqv d.py e.py)) := fun v w H1 _ rx ry Q q =>
  ⟨d, e, rx.up msk_same, ry.up msk_same, hd, he, q _ H1 (Same.refl H1) rfl⟩
theorem rd_inLU {neg : Bool} (hd : d.ok = true) (he : oksP ds = true) : RD M (rInU neg) H d (.lst ds) (.bl (if neg then !inP d ds else inP d ds)) := fun v w H1 _ rx ry Q q =>
  .inl ⟨d, ds, rx.up msk_same, .inl (Rep.up ry msk_same), hd, he, q _ H1 (Same.refl H1) rfl⟩
theorem rd_inTU {neg : Bool} (hd : d.ok = true) (he : oksP ds = true) : RD M (rInU neg) H d (.tup ds) (.bl (if neg then !inP d ds else inP d ds)) := fun v w H1 _ rx ry Q q =>
  .inl ⟨d, ds, rx.up msk_same, .inr (Rep.up ry msk_same), hd, he, q _ H1 (Same.refl H1) rfl⟩
theorem rd_inSU {neg : Bool} {c : Nat} {z : Str} : RD M (rInU neg) H (.str ⟨#[c]⟩) (.str z) (.bl (if neg then !decide (c ∈ z.cps.toList) else decide (c ∈ z.cps.toList))) := fun v w H1 _ rx ry Q q =>
  .inr (.inl ⟨c, z, rx, ry, q _ H1 (Same.refl H1) rfl⟩)
theorem rd_addI {i j : Int} : RD M (rAddU K) H (.int i) (.int j) (.int (i + j)) := fun v w H1 e1 rx ry Q q => .inl (rd_I0 (g := fun i j => .int (i + j)) (z := .int (i + j)) (fun _ => rfl) v w H1 e1 rx ry Q q)
theorem rd_addS {i j : Str} (hz : i.length + j.length ≤ sizeLine) : RD M (rAddU K) H (.str i) (.str j) (.str (i ++ j)) := fun v w H1 e1 rx ry Q q => .inr (.inl ⟨i, j, rx, ry, hz, q _ H1 (Same.refl H1) rfl⟩)
theorem rd_addL {es : List D} (m : Mok M H) (hz : ds.length + es.length ≤ sizeLine) : RD M (rAddU K) H (.lst ds) (.lst es) (.lst (ds ++ es)) := fun v w H1 e1 rx ry Q q => .inr (.inr (.inl (rd_cat m hz v w H1 e1 rx ry Q q)))
theorem rd_mulI {i j : Int} (h : CMul i j) : RD M rMulU H (.int i) (.int j) (.int (i * j)) := fun v w H1 e1 rx ry Q q => .inl (rd_I (g := fun i j => .int (i * j)) (z := .int (i * j)) h (fun _ => rfl) v w H1 e1 rx ry Q q)
theorem rd_mulL {k : Int} (m : Mok M H) (h1 : -(2 ^ 63) ≤ k) (h2 : k < 2 ^ 63) (hz : ds.length * k.toNat ≤ sizeLine) : RD M rMulU H (.lst ds) (.int k) (.lst (List.replicate k.toNat ds).flatten) := fun v w H1 e1 rx ry Q q => .inr (rd_rep m h1 h2 hz v w H1 e1 rx ry Q q)
/-! ### walks by pi_any -/
theorem ia_list (h : EvD M te s H (.lst ds)) : EvI M (iAny K te) s H ds := fun H1 e R k => h H1 e _ fun v H2 e2 r => by
  obtain ⟨a, xs, ev, ha, rs⟩ := r
  have ha2 := msk_same _ _ ha
  refine .inl ⟨a, xs, ev, ha2, k _ H2 e2 ⟨fun i H f hi => ?_, fun H f => ?_, fun i H x H' N f m hn hi y => ?_⟩⟩
  · have hl : i < xs.length := by rw [rs.len]; exact hi
    exact ⟨xs, xs[i], SqL.of (f.lst ha), by simp [hl]⟩
  · exact ⟨xs, SqL.of (f.lst ha), by rw [rs.len]; exact Nat.le_refl _⟩
  · obtain ⟨e, y⟩ := y
    subst e
    obtain ⟨d, h1, h2⟩ := rs.get (y xs (SqL.of (f.lst ha)))
    exact ⟨Same.refl _, d, h1, h2.fx (f.msk hn)⟩
theorem ia_tup (h : EvD M te s H (.tup ds)) : EvI M (iAny K te) s H ds := fun H1 e R k => h H1 e _ fun v H2 e2 r => by
  obtain ⟨a, xs, ev, ha, rs⟩ := r
  have ha2 := msk_same _ _ ha
  refine .inr (.inl ⟨a, xs, ev, ha2, k _ H2 e2 ⟨fun i H f hi => ?_, fun H f => ?_, fun i H x H' N f m hn hi y => ?_⟩⟩)
  · have hl : i < xs.length := by rw [rs.len]; exact hi
    exact ⟨xs, xs[i], SqT.of (f.tup ha), by simp [hl]⟩
  · exact ⟨xs, SqT.of (f.tup ha), by rw [rs.len]; exact Nat.le_refl _⟩
  · obtain ⟨e, y⟩ := y
    subst e
    obtain ⟨d, h1, h2⟩ := rs.get (y xs (SqT.of (f.tup ha)))
    exact ⟨Same.refl _, d, h1, h2.fx (f.msk hn)⟩
theorem ia_str {x : Str} (h : EvD M te s H (.str x)) : EvI M (iAny K te) s H (signs x) := fun H1 e R k => h H1 e _ fun v H2 e2 r => by
  refine .inr (.inr (.inl ⟨x, r, k _ H2 e2 ⟨fun i H f hi => ?_, fun H f => ?_, fun i H x H' N f m hn hi y => ?_⟩⟩))
  · unfold signs at hi
    rw [List.length_map, Array.length_toList] at hi
    exact hi
  · unfold signs
    rw [List.length_map, Array.length_toList]
    exact Nat.le_refl _
  · obtain ⟨e, c, h1, h2⟩ := y
    subst e h2
    refine ⟨Same.refl _, .str ⟨#[c]⟩, ?_, rfl⟩
    unfold signs
    rw [List.getElem?_map, Array.getElem?_toList, h1] <;> rfl
end
end Ak
/-! Ak 5: promises over data, calls, isinstance, len, tuple, list, all, any, raise. -/
namespace Ak
open PySem PySem.Spec PyProof.Rows L2

/-! ### promises -/
/-- a def that makes of the data ds the datum d, and changes nothing -/
def SpR (R : List D -> D -> Prop) : Sp := fun vs H Q _ => exists (M : MK) (ds : List D) (d : D), Mok M H ∧ Reps (msk M H) ds vs ∧ R ds d ∧ forall v H', Same H H' -> Rep (msk M H') d v -> Q v H'
/-- .. or raises the exception of the class C with the attributes fs -/
def SpE (R : List D -> D -> Prop) (X : List D -> Addr -> List (Str × D) -> Prop) : Sp := fun vs H Q E => exists (M : MK) (ds : List D), Mok M H ∧ Reps (msk M H) ds vs ∧
  ((exists d, R ds d ∧ forall v H', Same H H' -> Rep (msk M H') d v -> Q v H') ∨
   (exists C fs, X ds C fs ∧ forall dx ws H', Same H H' -> H dx = none -> H' dx = some (.xd ws) -> RepF (msk M H') fs ws -> E (.ref C) (some dx) H'))
/-- an __init__ of a plain class: self's attributes -/
def SpI (C : Addr) (R : List D -> List (Str × D) -> Prop) (X : List D -> Addr -> List (Str × D) -> Prop) : Sp := fun vs H Q E => exists (M : MK) (ds : List D) (x dx : Addr) (ws : List V), Mok M H ∧ M x ∧ vs = .ref x :: ws ∧ Reps (msk M H) ds ws ∧ H x = some (.ins C dx []) ∧
  ((exists fs, R ds fs ∧ forall vs' H', (forall a o, a ≠ x -> H a = some o -> H' a = some o) -> H' x = some (.ins C dx vs') -> RepF (msk M H') fs vs' -> Q .non H') ∨
   (exists C' fs, X ds C' fs ∧ forall dy ys H', (forall a o, a ≠ x -> H a = some o -> H' a = some o) -> H dy = none -> H' dy = some (.xd ys) -> RepF (msk M H') fs ys -> E (.ref C') (some dy) H'))
def nox : List D -> Addr -> List (Str × D) -> Prop := fun _ _ _ => False
/-- an exception's __init__ that keeps its arguments as attributes -/
def SpX (C : Addr) (ns : List Str) : Sp := fun vs H Q _ => exists (a : Addr) (ys : List V), vs = .ref a :: ys ∧ ys.length = ns.length ∧ H a = some (exo a C none) ∧
  forall d H2, H d = none -> d ≠ a -> H2 a = some (exo a C (some d)) -> H2 d = some (exd d (ns.zip ys).reverse) -> (forall b, b ≠ a -> b ≠ d -> H2 b = H b) -> Q .non H2
theorem SpR.len {R : List D -> D -> Prop} {n : Nat} (hR : forall ds d, R ds d -> ds.length = n) {vs : List V} {H : Hp} {Q : VK} {E : XK} (h : SpR R vs H Q E) : vs.length = n := by
  obtain ⟨M, ds, d, _, rs, r, _⟩ := h
  rw [rs.len, hR ds d r]
theorem SpE.len {R : List D -> D -> Prop} {X : List D -> Addr -> List (Str × D) -> Prop} {n : Nat} (hR : forall ds d, R ds d -> ds.length = n) (hX : forall ds C fs, X ds C fs -> ds.length = n) {vs : List V} {H : Hp} {Q : VK} {E : XK} (h : SpE R X vs H Q E) : vs.length = n := by
  obtain ⟨M, ds, _, rs, ⟨d, r, _⟩ | ⟨C, fs, r, _⟩⟩ := h
  · rw [rs.len, hR ds d r]
  · rw [rs.len, hX ds C fs r]
theorem SpI.len {C : Addr} {R : List D -> List (Str × D) -> Prop} {X : List D -> Addr -> List (Str × D) -> Prop} {n : Nat} (hR : forall ds d, R ds d -> ds.length = n) (hX : forall ds C fs, X ds C fs -> ds.length = n) {vs : List V} {H : Hp} {Q : VK} {E : XK} (h : SpI C R X vs H Q E) : vs.length = n + 1 := by
  obtain ⟨M, ds, x, dx, ws, _, _, ev, rs, _, ⟨d, r, _⟩ | ⟨C', fs, r, _⟩⟩ := h
  · rw [ev, List.length_cons, rs.len, hR ds d r]
  · rw [ev, List.length_cons, rs.len, hX ds C' fs r]
theorem Reps.cons_iff {G : Hp} {d : D} {ds : List D} {vs : List V} : Reps G (d :: ds) vs <-> exists x xs, vs = x :: xs ∧ Rep G d x ∧ Reps G ds xs := Iff.rfl

section
variable {K : PySem.W.Frag} {M : MK} {s : L2.St} {H : Hp} {ta te to : TE} {tr : TA} {ds : List D} {d e z : D} {E : XK}
/-! ### calls -/
theorem ev_call {R : List D -> D -> Prop} (m : Mok M H) (h : EvDs M tr s H ds) (hR : R ds d) : EvD M (tCall (SpR R) [] E tr) s H d := fun H1 e1 Q q =>
  h H1 e1 _ fun vs H2 e2 rs => ⟨M, ds, d, (m.up e1).up e2, by rw [List.append_nil]; exact rs, hR, fun v H' e3 r => q v H' (e2.trans e3) r⟩
theorem ev_callE {R : List D -> D -> Prop} {X : List D -> Addr -> List (Str × D) -> Prop} (m : Mok M H) (h : EvDs M tr s H ds) (hR : R ds d) : EvD M (tCall (SpE R X) [] E tr) s H d := fun H1 e1 Q q =>
  h H1 e1 _ fun vs H2 e2 rs => ⟨M, ds, (m.up e1).up e2, by rw [List.append_nil]; exact rs, .inl ⟨d, hR, fun v H' e3 r => q v H' (e2.trans e3) r⟩⟩
theorem ev_meth {C : Addr} {nm : Str} {R : List D -> D -> Prop} {fs : List (Str × D)} (m : Mok M H) (ho : EvD M to s H (.ins C fs)) (hl : fs.lookup nm = none) (h : EvDs M tr s H ds) (hR : R (.ins C fs :: ds) d) : EvD M (tMeth C nm (SpR R) [] E to tr) s H d := fun H1 e1 Q q =>
  ho H1 e1 _ fun v H2 e2 r => by
    obtain ⟨a, dx, vs, ev, ha, rf⟩ := id r
    refine ⟨a, dx, vs, ev, msk_same _ _ ha, rf.none hl, h H2 (e1.trans e2) _ fun ws H3 e3 rs => ?_⟩
    exact ⟨M, .ins C fs :: ds, d, ((m.up e1).up e2).up e3, ⟨v, ws, by rw [List.append_nil], r.up (msk_mono e3), rs⟩, hR, fun v' H' e4 r' => q v' H' ((e2.trans e3).trans e4) r'⟩
theorem ev_methE {C : Addr} {nm : Str} {R : List D -> D -> Prop} {X : List D -> Addr -> List (Str × D) -> Prop} {fs : List (Str × D)} (m : Mok M H) (ho : EvD M to s H (.ins C fs)) (hl : fs.lookup nm = none) (h : EvDs M tr s H ds) (hR : R (.ins C fs :: ds) d) : EvD M (tMeth C nm (SpE R X) [] E to tr) s H d := fun H1 e1 Q q =>
  ho H1 e1 _ fun v H2 e2 r => by
    obtain ⟨a, dx, vs, ev, ha, rf⟩ := id r
    refine ⟨a, dx, vs, ev, msk_same _ _ ha, rf.none hl, h H2 (e1.trans e2) _ fun ws H3 e3 rs => ?_⟩
    exact ⟨M, .ins C fs :: ds, ((m.up e1).up e2).up e3, ⟨v, ws, by rw [List.append_nil], r.up (msk_mono e3), rs⟩, .inl ⟨d, hR, fun v' H' e4 r' => q v' H' ((e2.trans e3).trans e4) r'⟩⟩
/-- a new object of a plain class -/
theorem make_ok {C : Addr} {R : List D -> List (Str × D) -> Prop} {X : List D -> Addr -> List (Str × D) -> Prop} {fs : List (Str × D)} {vs : List V} {Q : VK} (m : Mok M H) (rs : Reps (msk M H) ds vs) (hR : R ds fs) (q : forall v H', Same H H' -> Rep (msk M H') (.ins C fs) v -> Q v H') {x dx : Addr} (hx : H x = none) (hdx : H dx = none) (hne : dx ≠ x) :
    SpI C R X (.ref x :: vs) (upd (upd H dx (.own x)) x (.ins C dx [])) (fun v H2 => v = .non ∧ Q (.ref x) H2) E := by
  have sm : Same H (upd (upd H dx (.own x)) x (.ins C dx [])) := fun a o h => by
    rw [upd_ne (ne_of_none h hx), upd_ne (ne_of_none h hdx)]
    exact h
  have low : forall {H' : Hp}, (forall a o, a ≠ x -> H a = some o -> H' a = some o) -> Same (msk M H) (msk (fun a => M a ∨ a = x) H') := fun {H'} k a o h => by
    obtain ⟨n, h⟩ := msk_of h
    have hne : a ≠ x := ne_of_none h hx
    rw [msk_at fun z => z.elim n hne]
    exact k a o hne h
  refine ⟨fun a => M a ∨ a = x, ds, x, dx, vs, fun a z => ?_, .inr rfl, rfl, rs.up (low fun a o _ h => sm a o h), upd_same, .inl ⟨fs, hR, fun vs' H' k hx' rf => ⟨rfl, q _ H' (fun a o h => k a o (ne_of_none h hx) (sm a o h)) ?_⟩⟩⟩
  · rcases z with z | z
    · exact (m.up sm) a z
    · rw [z]
      exact ⟨_, upd_same, fun _ e => nomatch e⟩
  · refine ⟨x, dx, vs', rfl, ?_, RepF.fx (Fx.of (msk_less fun a z => .inl z)) fs rf⟩
    rw [msk_at (m.new hx)]
    exact hx'
theorem ev_make {C : Addr} {R : List D -> List (Str × D) -> Prop} {X : List D -> Addr -> List (Str × D) -> Prop} {fs : List (Str × D)} (m : Mok M H) (h : EvDs M tr s H ds) (hR : R ds fs) : EvD M (tMake C (SpI C R X) [] E tr) s H (.ins C fs) := fun H1 e1 Q q =>
  h H1 e1 _ fun vs H2 e2 rs x dx hx hdx hne => by
    rw [List.append_nil]
    exact make_ok ((m.up e1).up e2) rs hR (fun v H' e3 r => q v H' (e2.trans e3) r) hx hdx hne
/-- .. that raises -/
theorem make_err {C C' : Addr} {R : List D -> List (Str × D) -> Prop} {X : List D -> Addr -> List (Str × D) -> Prop} {fs : List (Str × D)} {vs : List V} {Q : VK} (m : Mok M H) (rs : Reps (msk M H) ds vs) (hX : X ds C' fs)
    (q : forall dy ys H', Same H H' -> H dy = none -> H' dy = some (.xd ys) -> RepF (msk M H') fs ys -> E (.ref C') (some dy) H') {x dx : Addr} (hx : H x = none) (hdx : H dx = none) (hne : dx ≠ x) :
    SpI C R X (.ref x :: vs) (upd (upd H dx (.own x)) x (.ins C dx [])) Q E := by
  have sm : Same H (upd (upd H dx (.own x)) x (.ins C dx [])) := fun a o h => by
    rw [upd_ne (ne_of_none h hx), upd_ne (ne_of_none h hdx)]
    exact h
  have low : forall {H' : Hp}, (forall a o, a ≠ x -> H a = some o -> H' a = some o) -> Same (msk M H) (msk (fun a => M a ∨ a = x) H') := fun {H'} k a o h => by
    obtain ⟨n, h⟩ := msk_of h
    have hne : a ≠ x := ne_of_none h hx
    rw [msk_at fun z => z.elim n hne]
    exact k a o hne h
  refine ⟨fun a => M a ∨ a = x, ds, x, dx, vs, fun a z => ?_, .inr rfl, rfl, rs.up (low fun a o _ h => sm a o h), upd_same, .inr ⟨C', fs, hX, fun dy ys H' k hn hy rf => q dy ys H' (fun a o h => k a o (ne_of_none h hx) (sm a o h)) (sm.free hn) hy (RepF.fx (Fx.of (msk_less fun a z => .inl z)) fs rf)⟩⟩
  rcases z with z | z
  · exact (m.up sm) a z
  · rw [z]
    exact ⟨_, upd_same, fun _ e => nomatch e⟩
/-! ### raise -/
theorem RepF.zip {G : Hp} : forall {ns : List Str} {ds : List D} {ys : List V}, Reps G ds ys -> RepF G (ns.zip ds) (ns.zip ys)
  | [], _, _, _ => rfl
  | _ :: _, [], _, r => by rw [show _ = [] from r]; exact rfl
  | n :: ns, d :: ds, _, ⟨x, xs, e, h, r⟩ => by rw [e]; exact ⟨x, _, rfl, h, RepF.zip r⟩
theorem RepF.app {G : Hp} : forall {fs gs : List (Str × D)} {xs ys : List (Str × V)}, RepF G fs xs -> RepF G gs ys -> RepF G (fs ++ gs) (xs ++ ys)
  | [], _, _, _, h, k => by rw [show _ = [] from h]; exact k
  | (f, d) :: fs, _, _, _, ⟨x, xs, e, h, r⟩, k => by rw [e]; exact ⟨x, _, rfl, h, RepF.app r k⟩
theorem RepF.rev {G : Hp} : forall {fs : List (Str × D)} {xs : List (Str × V)}, RepF G fs xs -> RepF G fs.reverse xs.reverse
  | [], _, h => by rw [show _ = [] from h]; exact rfl
  | (f, d) :: fs, _, ⟨x, xs, e, h, r⟩ => by
    rw [e, List.reverse_cons, List.reverse_cons]
    exact RepF.app (RepF.rev r) ⟨x, [], rfl, h, rfl⟩
theorem tmk_ok {C : Addr} {ns : List Str} {Q : XK} (h : EvDs M tr s H ds) (hn : ds.length = ns.length) (hz : ds.length ≤ 100) (m : Mok M H)
    (k : forall dx ws H', Same H H' -> H dx = none -> H' dx = some (.xd ws) -> RepF (msk M H') (ns.zip ds).reverse ws -> Q (.ref C) (some dx) H') : tMkO C (SpX C ns) [] tr s H Q :=
  h H (Same.refl H) _ fun vs H1 e1 rs => by
    refine ⟨by rw [rs.len]; omega, fun a ha => ⟨a, vs, by rw [List.append_nil], by rw [rs.len, hn], upd_same, fun d H2 hd hne h1 h2 h3 => ⟨rfl, d, _, h1, h2, ?_, ?_⟩⟩⟩
    · rw [upd_ne hne] at hd
      exact hd
    · rw [upd_ne hne] at hd
      have sm : Same H1 (upd (del H2 a) d (.xd (ns.zip vs).reverse)) := fun b o hb => by
        have hba : b ≠ a := ne_of_none hb ha
        have hbd : b ≠ d := ne_of_none hb hd
        rw [upd_ne hbd, del_ne hba, h3 b hba hbd, upd_ne hba]
        exact hb
      exact k d _ _ (e1.trans sm) (e1.free hd) upd_same (RepF.rev (RepF.zip (rs.up (msk_mono sm))))
end
end Ak
/-! Ak 6: sorted of data. -/
namespace Ak
open PySem PySem.Spec PyProof.Rows L2
section
variable {X : Cx} {pins : List (Addr × Obj)} {σ : L2.St} {H : Hp} {s : Shared}
mutual
theorem Rep.reads (I : Inv X pins σ H s) : forall (d : D) (v : V) (u : Value), d.pl = true -> Rep H d v -> RelV v u -> exists as, Reads s.heap u d.py as ∧ forall b, b ∈ as -> b < s.heap.objs.size
  | .non, v, u, _, h, r => by
    have e : v = V.non := h
    subst e
    cases r
    exact ⟨[], .none, by simp⟩
  | .bl b, v, u, _, h, r => by
    have e : v = V.bl b := h
    subst e
    cases r
    exact ⟨[], .bool b, by simp⟩
  | .int i, v, u, _, h, r => by
    have e : v = V.int i := h
    subst e
    obtain ⟨t, rfl⟩ := r
    exact ⟨[], .int i t, by simp⟩
  | .str x, v, u, _, h, r => by
    have e : v = V.str x := h
    subst e
    obtain ⟨t, rfl⟩ := r
    exact ⟨[], .str x t, by simp⟩
  | .lst ds, v, u, p, ⟨a, xs, e, ha, rs⟩, r => by
    subst e
    cases r
    obtain ⟨its, rv, ⟨o, n, ho, hc, _, hd⟩, _⟩ := I.list (SqL.of ha)
    obtain ⟨as, h1, h2⟩ := Reps.reads I ds xs its p rs rv
    refine ⟨a :: as, .list ho hc hd h1, fun b hb => ?_⟩
    rcases List.mem_cons.mp hb with z | z
    · rw [z]
      exact Heap.lt_size ho
    · exact h2 b z
  | .tup ds, v, u, p, ⟨a, xs, e, ha, rs⟩, r => by
    subst e
    cases r
    obtain ⟨its, rv, ⟨o, ho, hc, n, hd⟩, _⟩ := I.tuple (SqT.of ha)
    obtain ⟨as, h1, h2⟩ := Reps.reads I ds xs its p rs rv
    exact ⟨as, .tuple ho hc hd h1, h2⟩
  | .oth _, _, _, p, _, _ => by cases (show false = true from p)
  | .ins _ _, _, _, p, _, _ => by cases (show false = true from p)
  | .dK _, _, _, p, _, _ => by cases (show false = true from p)
  | .dT _, _, _, p, _, _ => by cases (show false = true from p)
theorem Reps.reads (I : Inv X pins σ H s) : forall (ds : List D) (vs : List V) (us : List Value), D.pls ds = true -> Reps H ds vs -> Vals vs us -> exists as, ReadsAll s.heap us (D.pys ds) as ∧ forall b, b ∈ as -> b < s.heap.objs.size
  | [], vs, us, _, h, r => by
    have e : vs = [] := h
    subst e
    cases r
    exact ⟨[], .nil, by simp⟩
  | d :: ds, vs, us, p, ⟨x, xs, e, h, rs⟩, r => by
    subst e
    have p' : (d.pl && D.pls ds) = true := p
    rw [Bool.and_eq_true] at p'
    cases r with
    | cons r1 r2 =>
      obtain ⟨as, a1, a2⟩ := Rep.reads I d x _ p'.1 h r1
      obtain ⟨bs, b1, b2⟩ := Reps.reads I ds xs _ p'.2 rs r2
      exact ⟨as ++ bs, .cons a1 b1, fun b hb => (List.mem_append.mp hb).elim (a2 b) (b2 b)⟩
end
end

/-! ### the order of data -/
/-- Python's sorted, of data -/
def leD (a b : D) : Bool := PySem.W.dataLe false D.py a b
def sortD (ds : List D) : List D := ds.mergeSort leD
theorem sortD_perm (ds : List D) : (sortD ds).Perm ds := List.mergeSort_perm ds leD
theorem sortD_len (ds : List D) : (sortD ds).length = ds.length := (sortD_perm ds).length_eq
/-- what can be sorted -/
structure CanSort (ds : List D) : Prop where
  alike : PySem.W.AllAlike (ds.map D.py)
  kind : PySem.W.Sortable (ds.map D.py)
  ok : forall d, d ∈ ds -> d.ok = true
theorem CanSort.perm {ds es : List D} (c : CanSort ds) (p : es.Perm ds) : CanSort es := by
  have hm : forall x, x ∈ es.map D.py -> x ∈ ds.map D.py := fun x hx => (p.map D.py).mem_iff.mp hx
  refine ⟨fun d h d' h' => c.alike d (hm d h) d' (hm d' h'), ?_, fun d h => c.ok d (p.mem_iff.mp h)⟩
  rcases c.kind with k | k
  · exact .inl fun d h => k d (hm d h)
  · exact .inr fun d h => k d (hm d h)
theorem reps_zip {G : Hp} : forall {bs : List (V × D)}, (forall p, p ∈ bs -> Rep G p.2 p.1) -> Reps G (bs.map (·.2)) (bs.map (·.1))
  | [], _ => rfl
  | b :: bs, h => ⟨b.1, _, rfl, h b List.mem_cons_self, reps_zip fun p hp => h p (List.mem_cons_of_mem _ hp)⟩
theorem zip_reps {G : Hp} : forall {ds : List D} {vs : List V}, Reps G ds vs -> exists bs : List (V × D), bs.map (·.1) = vs ∧ bs.map (·.2) = ds ∧ forall p, p ∈ bs -> Rep G p.2 p.1
  | [], _, h => ⟨[], (show _ = [] from h).symm, rfl, by simp⟩
  | d :: ds, _, ⟨x, xs, e, h, r⟩ => by
    obtain ⟨bs, h1, h2, h3⟩ := zip_reps r
    refine ⟨(x, d) :: bs, by rw [e, ← h1] <;> rfl, by rw [← h2] <;> rfl, fun p hp => ?_⟩
    rcases List.mem_cons.mp hp with z | z
    · rw [z]
      exact h
    · exact h3 p z
theorem each_vals : forall {bs : List (V × D)} {us : List Value}, Vals (bs.map (·.1)) us -> PySem.W.EachIs (fun (u : Value) (b : V × D) => RelV b.1 u) us bs
  | [], _, r => by cases r; exact .nil
  | b :: bs, _, r => by
    cases r with
    | cons r1 r2 => exact .cons r1 (each_vals r2)
theorem vals_each : forall {bs : List (V × D)} {us : List Value}, PySem.W.EachIs (fun (u : Value) (b : V × D) => RelV b.1 u) us bs -> Vals (bs.map (·.1)) us
  | _, _, .nil => .nil
  | _, _, .cons h t => .cons h (vals_each t)
theorem each_reads {X : Cx} {pins : List (Addr × Obj)} {σ : L2.St} {H : Hp} {s s2 : Shared} (I : Inv X pins σ H s) (k : forall b o, s.heap.get? b = some o -> s2.heap.get? b = some o) {a : Addr} (ha : s.heap.objs.size ≤ a) : forall {bs : List (V × D)} {us : List Value}, (forall p, p ∈ bs -> Rep H p.2 p.1 ∧ p.2.pl = true) -> Vals (bs.map (·.1)) us ->
    PySem.W.EachIs (fun (u : Value) (b : V × D) => exists as, Reads s2.heap u b.2.py as ∧ ¬ a ∈ as) us bs
  | [], _, _, r => by cases r; exact .nil
  | b :: bs, _, h, r => by
    cases r with
    | cons r1 r2 =>
      obtain ⟨h1, h2⟩ := h b List.mem_cons_self
      obtain ⟨as, h3, h4⟩ := Rep.reads I b.2 b.1 _ h2 h1 r1
      exact .cons ⟨as, PyProof.Rows.Reads.keeps k h3, fun z => absurd (h4 a z) (Nat.not_lt.mpr ha)⟩ (each_reads I k ha (fun p hp => h p (List.mem_cons_of_mem _ hp)) r2)
theorem sort_pairs (bs : List (V × D)) : (bs.mergeSort (PySem.W.dataLe false fun b => b.2.py)).map (·.2) = sortD (bs.map (·.2)) :=
  List.map_mergeSort (r := PySem.W.dataLe false fun b : V × D => b.2.py) (s := leD) (f := fun b : V × D => b.2) fun _ _ _ _ => rfl

section
variable {X : Cx} {pins : List (Addr × Obj)} {σ : L2.St} {H : Hp} {s : Shared}
/-- from what was gathered: the list, sorted -/
theorem sorted_go {G : Hp} (hG : Same G H) {s1 : Shared} {us : List Value} {bs : List (V × D)} {Q : VK} (I : Inv X pins σ H s1) (hu : X.A.units + 64 < cLine) (rv : Vals (bs.map (·.1)) us) (hb : forall p, p ∈ bs -> Rep G p.2 p.1) (c : CanSort (bs.map (·.2))) (hz : bs.length ≤ sizeLine)
    (q : forall p out, H p = none -> Reps G (sortD (bs.map (·.2))) out -> Q (.ref p) (upd H p (.lst out))) {β : Type} {mk : Value -> β} {R : β -> Shared -> Prop} (fin : forall u s2, EP X pins σ Q u s2 -> R (mk u) s2) {E : Value -> Shared -> Prop} {A : Around} (hA : A.units ≤ X.A.units + 2) :
    wpAny (model X.prog X.w) A (newList us >>= fun l => holding [l] (call (.builtin "list.sort") [l]) >>= fun _ => pure (mk l)) R E s1 := by
  have hl : us.length = bs.length := by rw [← rv.length, List.length_map]
  have okb : forall p, p ∈ bs -> Rep H p.2 p.1 ∧ p.2.pl = true := fun p hp => ⟨(hb p hp).up hG, D.ok_pl (c.ok p.2 (List.mem_map.mpr ⟨p, hp, rfl⟩))⟩
  have hmap : (bs.map (·.2)).map D.py = bs.map fun b => b.2.py := by rw [List.map_map] <;> rfl
  refine wpAny_bind (wpAny_newList ?_ (by rw [hl]; exact hz))
  have hobj : (s1.heap.push (seqObj "list" us.toArray 0)).get? s1.heap.objs.size = some (seqObj "list" us.toArray 0) := Heap.get?_push_size _ rfl
  refine wpAny_bind (wpAny_holding ?_)
  refine PySem.W.list_sort_data (s := { s1 with heap := s1.heap.push (seqObj "list" us.toArray 0) }) (enc := fun b : V × D => b.2.py) (R := fun (u : Value) (b : V × D) => RelV b.1 u) hobj (each_vals rv) (each_reads I (s2 := { s1 with heap := s1.heap.push (seqObj "list" us.toArray 0) }) (fun b o e => Heap.get?_push_of_some _ e) (Nat.le_refl _) okb rv)
    (by rw [← hmap]; exact c.alike) (by rw [← hmap]; exact c.kind) hz (fun b hb' => ?_) fun out ho he => ?_
  · have h1 := D.ok_dp (c.ok b.2 (List.mem_map.mpr ⟨b, hb', rfl⟩))
    omega
  · have pm := List.mergeSort_perm bs (PySem.W.dataLe false fun b => b.2.py)
    obtain ⟨e', he'⟩ := PyProof.Rows.sortedHeap_at (vs := us) (out := out.toArray) hobj
    have hlen : ((bs.mergeSort (PySem.W.dataLe false fun b => b.2.py)).map (·.1)).length ≤ sizeLine := by
      rw [List.length_map, pm.length_eq]
      exact hz
    have hn : H s1.heap.objs.size = none := I.hok.fresh (Nat.le_refl _)
    refine wpAny_pure (fin _ _ ⟨.ref s1.heap.objs.size, upd H s1.heap.objs.size (.lst ((bs.mergeSort (PySem.W.dataLe false fun b => b.2.py)).map (·.1))), I.laid (t' := s1.toks) (fun b u e => ?_) (Nat.le_refl _) ?_, rfl, q _ _ hn ?_⟩)
    · have hb : b < s1.heap.objs.size := Heap.lt_size e
      show (PyProof.Rows.sortedHeap _ _ _ _).get? b = some u
      rw [PyProof.Rows.sortedHeap_old (Nat.ne_of_lt hb) (by rw [size_push']; exact Nat.lt_succ_of_lt hb)]
      exact Heap.get?_push_of_some _ e
    · exact ⟨hlen, out, e', vals_each he, he'⟩
    · rw [← sort_pairs]
      exact reps_zip fun p hp => hb p (pm.mem_iff.mp hp)
end
end Ak
/-! Ak 7: what can be walked; sorted, isinstance, len, list, tuple. -/
namespace Ak
open PySem PySem.Spec PyProof.Rows L2

/-! ### keys as data -/
def kD : Key -> D
  | .inl i => .int i
  | .inr x => .str x
def kT (k : List Key) : D := .tup (k.map kD)
section
variable {G H : Hp}
theorem kD_rep : forall k : Key, Rep G (kD k) (kV k)
  | .inl _ => rfl
  | .inr _ => rfl
theorem kD_reps : forall ks : List Key, Reps G (ks.map kD) (ks.map kV)
  | [] => rfl
  | k :: ks => ⟨_, _, rfl, kD_rep k, kD_reps ks⟩
theorem kT_rep {b : Addr} {k : List Key} (h : G b = some (.tup (k.map kV))) : Rep G (kT k) (.ref b) := ⟨b, _, rfl, h, kD_reps k⟩
/-- the tuples of H stand in G -/
structure Sub (G H : Hp) : Prop where
  same : Same G H
  tup : forall {b xs}, H b = some (.tup xs) -> G b = some (.tup xs)
theorem Sub.of {M : MK} (m : Mok M H) : Sub (msk M H) H := ⟨msk_same, fun h => m.tup h⟩
inductive Src (G : Hp) : V -> List D -> Prop
  | lst {ds : List D} {x : V} (h : Rep G (.lst ds) x) : Src G x ds
  | tup {ds : List D} {x : V} (h : Rep G (.tup ds) x) : Src G x ds
  | dK {a : Addr} {kvs : List (Key × V)} (h : Rd G a (.dK kvs)) : Src G (.ref a) (kvs.map fun p => kD p.1)
  | dT {a : Addr} {kvs : List (List Key × V)} (h : Rd G a (.dT kvs)) : Src G (.ref a) (kvs.map fun p => kT p.1)
theorem RepK.keys : forall {kvs : List (Key × D)} {ws : List (Key × V)}, RepK G kvs ws -> ws.map (·.1) = kvs.map (·.1)
  | [], _, h => by rw [show _ = [] from h] <;> rfl
  | (k, d) :: kvs, _, ⟨x, xs, e, _, r⟩ => by
    rw [e, List.map_cons, List.map_cons, RepK.keys r]
theorem RepT.keys : forall {kvs : List (List Key × D)} {ws : List (List Key × V)}, RepT G kvs ws -> ws.map (·.1) = kvs.map (·.1)
  | [], _, h => by rw [show _ = [] from h] <;> rfl
  | (k, d) :: kvs, _, ⟨x, xs, e, _, r⟩ => by
    rw [e, List.map_cons, List.map_cons, RepT.keys r]
/-- what a datum gives when it is walked -/
def D.its : D -> Option (List D)
  | .lst ds => some ds
  | .tup ds => some ds
  | .dK kvs => some (kvs.map fun p => kD p.1)
  | .dT kvs => some (kvs.map fun p => kT p.1)
  | _ => none
theorem Src.of {d : D} {ds : List D} {v : V} (h : d.its = some ds) (r : Rep G d v) : Src G v ds := by
  cases d with
  | lst es => cases h; exact .lst r
  | tup es => cases h; exact .tup r
  | dK kvs =>
    cases h
    obtain ⟨a, ws, e, ha, rk⟩ := r
    have hk := rk.keys
    have e2 : (kvs.map fun p => kD p.1) = ws.map fun p => kD p.1 := by
      have q := congrArg (List.map kD) hk
      rw [List.map_map, List.map_map] at q
      exact q.symm
    rw [e2, e]
    exact .dK ha
  | dT kvs =>
    cases h
    obtain ⟨a, ws, e, ha, rk⟩ := r
    have hk := rk.keys
    have e2 : (kvs.map fun p => kT p.1) = ws.map fun p => kT p.1 := by
      have q := congrArg (List.map kT) hk
      rw [List.map_map, List.map_map] at q
      exact q.symm
    rw [e2, e]
    exact .dT ha
  | _ => cases h
theorem vals_pt : forall {xs : List V} {us : List Value}, xs.length = us.length -> (forall (j : Nat) x u, xs[j]? = some x -> us[j]? = some u -> RelV x u) -> Vals xs us
  | [], [], _, _ => .nil
  | x :: xs, u :: us, h, k => .cons (k 0 x u rfl rfl) (vals_pt (by simpa using h) fun j y v a b => k (j + 1) y v (by simpa using a) (by simpa using b))
  | [], _ :: _, h, _ => by simp at h
  | _ :: _, [], h, _ => by simp at h
theorem paired_at {α β : Type} {F : α -> β -> Prop} : forall {xs : List α} {ys : List β} {j : Nat} {y : β}, Paired F xs ys -> ys[j]? = some y -> exists x, xs[j]? = some x ∧ F x y
  | _, _, _, _, .nil, e => by simp at e
  | _, _, 0, _, .cons r _, e => by simp at e; subst e; exact ⟨_, rfl, r⟩
  | _, _, j + 1, y, .cons _ t, e => by
    obtain ⟨x, h1, h2⟩ := paired_at (j := j) t (by simpa using e)
    exact ⟨x, by simpa using h1, h2⟩
end

section
variable {X : Cx} {pins : List (Addr × Obj)} {σ : L2.St} {G H : Hp} {s : Shared}
/-- a thing that can be walked is gathered -/
theorem gather {x : V} {u : Value} {ds : List D} (hG : Sub G H) (hcalm : X.calm = true) (I : Inv X pins σ H s) (src : Src G x ds) (rx : RelV x u) {R : List Value -> Shared -> Prop} {E : Value -> Shared -> Prop}
    (k : forall us s1 (bs : List (V × D)), Inv X pins σ H s1 -> Vals (bs.map (·.1)) us -> bs.map (·.2) = ds -> (forall p, p ∈ bs -> Rep G p.2 p.1) -> bs.length ≤ sizeLine -> R us s1) : wpAny (model X.prog X.w) X.A.in1 (collect u) R E s := by
  cases src with
  | lst h =>
    obtain ⟨a, xs, e, ha, rs⟩ := h
    subst e
    cases rx
    obtain ⟨its, rv, pl, hz⟩ := I.list (SqL.of (hG.same _ _ ha))
    obtain ⟨o, ho, hc, n, hd⟩ := pl.isList
    obtain ⟨bs, b1, b2, b3⟩ := zip_reps rs
    have hl := rv.length
    refine wpAny_collect_seq a (.inl rfl) ho hc hd (fun h' kp => k _ _ bs (I.kept (t' := s.toks) kp) (by rw [b1]; exact rv) b2 b3 (by rw [← List.length_map (f := (·.1)), b1]; exact hz)) (by rw [List.size_toArray, ← hl]; exact hz)
  | tup h =>
    obtain ⟨a, xs, e, ha, rs⟩ := h
    subst e
    cases rx
    obtain ⟨its, rv, pl, hz⟩ := I.tuple (SqT.of (hG.same _ _ ha))
    obtain ⟨o, ho, hc, n, hd⟩ := pl
    obtain ⟨bs, b1, b2, b3⟩ := zip_reps rs
    have hl := rv.length
    refine wpAny_collect_seq a (.inr rfl) ho hc hd (fun h' kp => k _ _ bs (I.kept (t' := s.toks) kp) (by rw [b1]; exact rv) b2 b3 (by rw [← List.length_map (f := (·.1)), b1]; exact hz)) (by rw [List.size_toArray, ← hl]; exact hz)
  | @dK a kvs h =>
    cases rx
    obtain ⟨z, lo, vs, rel, dd⟩ := dk_rd I.hok (rd_same hG.same h)
    obtain ⟨ep, hat⟩ := dd.dictAt
    have hl : kvs.length = vs.length := Paired.length rel
    refine PySem.W.kdu_collect (PySem.W.kdl_dict (knd := mixKind X.prog X.w) (kvs := vs) (ep := ep) lo) (I.ok.hd hcalm) hat (by rw [← hl]; exact z) fun h' tk acc hk hacc => ?_
    refine k _ _ (kvs.map fun p => (kV p.1, kD p.1)) (I.kept hk) ?_ (by rw [List.map_map] <;> rfl) (fun p hp => ?_) (by rw [List.length_map]; exact z)
    · have hla : acc.toList.length = kvs.length := by rw [Array.length_toList, hacc.1, hl]
      refine vals_pt (by rw [List.length_map, List.length_map, hla]) fun j y v hy hv => ?_
      obtain ⟨k0, w0, e1, e2⟩ := hacc.2 j v (by rw [← Array.getElem?_toList]; exact hv)
      obtain ⟨q, e3, e4, _⟩ := paired_at rel e1
      rw [List.map_map, List.getElem?_map, e3] at hy
      cases hy
      show RelV (kV q.1) v
      rw [e4]
      rcases keyIs_shape (k := k0) (v := v) e2 with ⟨i, t, ek, ev⟩ | ⟨z', t, ek, ev⟩
      · show RelV (kV k0) v
        rw [ek, ev]
        exact ⟨t, rfl⟩
      · show RelV (kV k0) v
        rw [ek, ev]
        exact ⟨t, rfl⟩
    · obtain ⟨q, _, rfl⟩ := List.mem_map.mp hp
      exact kD_rep q.1
  | @dT a kvs h =>
    cases rx
    obtain ⟨z, lo, xs, rel, dd⟩ := dt_rd I.hok (rd_same hG.same h)
    obtain ⟨o, es, ep, e1, e2, e3, e4, e5, e6⟩ := dd
    have hl : kvs.length = xs.length := Paired.length rel
    have hes : es.size = xs.length := by
      have q := congrArg List.length e4
      rw [Array.length_toList, List.length_map] at q
      exact q
    refine PySem.W.kdu_collect (KdlSrc.rawDict (es := es) (ep := ep) lo) (I.ok.hd hcalm) ⟨o, e1, e2, e3⟩ (by rw [hes, ← hl]; exact z) fun h' tk acc hk hacc => ?_
    have key : exists bs : List (V × D), bs.map (·.1) = xs.map (fun q => V.ref q.2.1) ∧ bs.map (·.2) = kvs.map (fun p => kT p.1) ∧ forall p, p ∈ bs -> Rep G p.2 p.1 := by
      clear hacc hes hl e6 e5 e4 z h
      have go : forall {l : List (List Key × V)} {m : List (List Key × Addr × Value)}, KT H l m -> exists bs : List (V × D), bs.map (·.1) = m.map (fun q => V.ref q.2.1) ∧ bs.map (·.2) = l.map (fun p => kT p.1) ∧ forall p, p ∈ bs -> Rep G p.2 p.1 := by
        intro l m r
        induction r with
        | nil => exact ⟨[], rfl, rfl, by simp⟩
        | @cons p q l m h1 _ ih =>
          obtain ⟨bs, a1, a2, a3⟩ := ih
          refine ⟨(.ref q.2.1, kT p.1) :: bs, by rw [List.map_cons, List.map_cons, a1], by rw [List.map_cons, List.map_cons, a2], fun y hy => ?_⟩
          rcases List.mem_cons.mp hy with ey | hy
          · rw [ey]
            exact kT_rep (hG.tup h1.2.1)
          · exact a3 y hy
      exact go rel
    obtain ⟨bs, b1, b2, b3⟩ := key
    refine k _ _ bs (I.kept hk) ?_ b2 b3 (by rw [← List.length_map (f := (·.2)), b2, List.length_map]; exact z)
    rw [b1]
    have hla : acc.toList.length = xs.length := by rw [Array.length_toList, hacc.1, hes]
    refine vals_pt (by rw [List.length_map, hla]) fun j y v hy hv => ?_
    obtain ⟨hi, ev⟩ := hacc.2 j v (by rw [← Array.getElem?_toList]; exact hv)
    have e7 : es.toList[j]? = some es[j] := by rw [Array.getElem?_toList]; simp [hi]
    rw [e4, List.getElem?_map] at e7
    rw [List.getElem?_map] at hy
    cases q : xs[j]? with
    | none => rw [q] at e7; cases e7
    | some t =>
      rw [q] at e7 hy
      cases hy
      have e8 : entryOfKey (tupleKind (mixKind X.prog X.w)) t = es[j] := Option.some.inj e7
      rw [ev, ← e8]
      exact rfl
end
/-! ### sorted -/
def rSortU (K : PySem.W.Frag) : List V -> Hp -> VK -> Prop := fun xs H Q => exists (x : V) (ds : List D) (G : Hp), xs = [x] ∧ Sub G H ∧ Src G x ds ∧ CanSort ds ∧ forall p out, H p = none -> Reps G (sortD ds) out -> Q (.ref p) (upd H p (.lst out))
theorem call_sortU {X : Cx} (hcalm : X.calm = true) (hu : X.A.units + 64 < cLine) : CallR X (.builtin "sorted") (rSortU X.K) := by
  intro pins σ s H xs us Q I r q
  obtain ⟨x, ds, G, ex, hG, src, c, q⟩ := q
  subst ex
  obtain ⟨u, eu, rx⟩ := vals1 r
  subst eu
  refine Calls.call_function_entry PyProof.Rows.kind_sorted PyProof.Rows.plain_sorted PyProof.Rows.entry_sorted (PyProof.Rows.args_sorted1 _) ?_
  unfold Builtin.«sorted»
  refine wpAny_bind (m := checkCount "sorted" 1 1 _) (wpAny_pure ?_)
  refine wpAny_bind (gather hG hcalm I src rx fun us' s1 bs I1 rv e2 hb hz => ?_)
  subst e2
  refine sorted_go (mk := fun l => Fin.done (Flow.ret l)) hG.same I1 hu rv hb c hz q (fun u s2 h => ⟨_, rfl, h⟩) ?_
  show X.A.in1.units ≤ _
  first | exact Nat.le_succ _ | exact Nat.le_add_right _ _ | (simp [Around.in1]) | omega
/-! ### list(x), tuple(x) -/
def rListU (K : PySem.W.Frag) : List V -> Hp -> VK -> Prop := fun xs H Q => exists p ys, xs = [.ref p] ∧ (SqL K H p ys ∨ SqT K H p ys) ∧ forall l, H l = none -> Q (.ref l) (upd H l (.lst ys))
section
variable {K : PySem.W.Frag} {M : MK} {s : L2.St} {H : Hp} {te : TE} {tr : TA} {ds : List D} {d e z : D} {P : V -> Hp -> Prop}
theorem ev_sort (m : Mok M H) (h : EvDs M tr s H [d]) (hi : d.its = some ds) (c : CanSort ds) : EvD M (tCB (rSortU K) tr) s H (.lst (sortD ds)) := ev_cb h fun vs H1 e1 rs Q q => by
  obtain ⟨x, xs, ev, rx, r0⟩ := rs
  have e4 : xs = [] := r0
  subst e4 ev
  refine ⟨x, ds, msk M H1, rfl, Sub.of (m.up e1), Src.of hi rx, c, fun p out hp ro => q _ _ (same_new hp) ⟨p, out, rfl, msk_new (m.up e1) hp, ro.up (msk_mono (same_new hp))⟩⟩
theorem ev_lof (m : Mok M H) (h : EvDs M tr s H [d]) (hi : d = .lst ds ∨ d = .tup ds) : EvD M (tCB (fun xs H Q => exists p ys, xs = [V.ref p] ∧ (SqL K H p ys ∨ SqT K H p ys) ∧ forall l, H l = none -> Q (.ref l) (upd H l (.lst ys))) tr) s H (.lst ds) := ev_cb h fun vs H1 e1 rs Q q => by
  obtain ⟨x, xs, ev, rx, r0⟩ := rs
  have e4 : xs = [] := r0
  subst e4 ev
  rcases hi with hi | hi
  · subst hi
    obtain ⟨a, ys, ea, ha, rs⟩ := rx
    exact ⟨a, ys, by rw [ea], .inl (SqL.of (msk_same _ _ ha)), fun l hl => q _ _ (same_new hl) ⟨l, ys, rfl, msk_new (m.up e1) hl, rs.up (msk_mono (same_new hl))⟩⟩
  · subst hi
    obtain ⟨a, ys, ea, ha, rs⟩ := rx
    exact ⟨a, ys, by rw [ea], .inr (SqT.of (msk_same _ _ ha)), fun l hl => q _ _ (same_new hl) ⟨l, ys, rfl, msk_new (m.up e1) hl, rs.up (msk_mono (same_new hl))⟩⟩
theorem ev_tof (m : Mok M H) (h : EvDs M tr s H [d]) (hi : d = .lst ds ∨ d = .tup ds) : EvD M (tCB (fun xs H Q => exists p ys, xs = [V.ref p] ∧ ((SqL K H p ys ∧ forall l, H l = none -> Q (.ref l) (upd H l (.tup ys))) ∨ (SqT K H p ys ∧ Q (.ref p) H))) tr) s H (.tup ds) := ev_cb h fun vs H1 e1 rs Q q => by
  obtain ⟨x, xs, ev, rx, r0⟩ := rs
  have e4 : xs = [] := r0
  subst e4 ev
  rcases hi with hi | hi
  · subst hi
    obtain ⟨a, ys, ea, ha, rs⟩ := rx
    exact ⟨a, ys, by rw [ea], .inl ⟨SqL.of (msk_same _ _ ha), fun l hl => q _ _ (same_new hl) ⟨l, ys, rfl, msk_new (m.up e1) hl, rs.up (msk_mono (same_new hl))⟩⟩⟩
  · subst hi
    obtain ⟨a, ys, ea, ha, rs⟩ := rx
    subst ea
    exact ⟨a, ys, rfl, .inr ⟨SqT.of (msk_same _ _ ha), q _ H1 (Same.refl H1) ⟨a, ys, rfl, ha, rs⟩⟩⟩
/-! ### isinstance -/
/-- the name of a datum's type -/
def D.tn : D -> String
  | .non => "NoneType"
  | .bl _ => "bool"
  | .int _ => "int"
  | .str _ => "str"
  | .tup _ => "tuple"
  | .lst _ => "list"
  | .dK _ => "dict"
  | .dT _ => "dict"
  | _ => ""
theorem Rep.ty {G : Hp} {v : V} (hG : Same G H) (r : Rep G d v) (h : d.tn ≠ "") (hT : forall kvs, d ≠ .dT kvs) : TyX K H v (.type d.tn) := by
  cases d with
  | non => rw [show v = _ from r]; exact .base .non
  | bl b => rw [show v = _ from r]; exact .base (.bl b)
  | int i => rw [show v = _ from r]; exact .base (.int i)
  | str x => rw [show v = _ from r]; exact .base (.str x)
  | tup ds => obtain ⟨a, xs, e, ha, _⟩ := r; rw [e]; exact .base (.tup (hG _ _ ha))
  | lst ds => obtain ⟨a, xs, e, ha, _⟩ := r; rw [e]; exact .base (.lst (hG _ _ ha))
  | dK kvs =>
    obtain ⟨a, ws, e, ha, _⟩ := r
    rw [e]
    rcases ha with ha | ⟨o, ha⟩
    · exact .base (.dK (hG _ _ ha))
    · exact .fDict (hG _ _ ha)
  | dT kvs => exact absurd rfl (hT kvs)
  | oth w => exact absurd rfl h
  | ins C fs => exact absurd rfl h
/-- isinstance(d, m), for the built-in types of data -/
def isB (d : D) (m : String) : Bool := d.tn == m || (d.tn == "bool" && m == "int")
theorem kitB_ok (hd : d.tn ≠ "") {m : String} (hm : m ∈ ["str", "int", "bool", "list", "tuple", "dict"]) : kitB d.tn m = some (isB d m) := by
  have key : forall a : String, a ∈ ["NoneType", "bool", "int", "str", "tuple", "list", "dict"] -> forall b : String, b ∈ ["str", "int", "bool", "list", "tuple", "dict"] -> kitB a b = some (a == b || (a == "bool" && b == "int")) := by
    decide +kernel
  refine key _ ?_ m hm
  cases d <;> first | exact absurd rfl hd | simp [D.tn]
theorem ev_isi {m : String} (h : EvDs M tr s H [d, .oth (.ty m)]) (hd : d.tn ≠ "") (hT : forall kvs, d ≠ .dT kvs) (hm : m ∈ ["str", "int", "bool", "list", "tuple", "dict"]) : EvD M (tCB (rIsi K) tr) s H (.bl (isB d m)) := ev_cb h fun vs H1 e1 rs Q q => by
  obtain ⟨x, xs, ev, rx, y, ys, ew, ry, r0⟩ := rs
  have e4 : ys = [] := r0
  have e5 : y = V.ty m := ry
  subst e4 ew e5 ev
  exact ⟨x, .ty m, _, _, _, rfl, .ty m, Rep.ty msk_same rx hd hT, kit_ty (kitB_ok hd hm), q _ H1 (Same.refl H1) rfl⟩
theorem ev_isi2 {m n : String} (h : EvDs M tr s H [d, .tup [.oth (.ty m), .oth (.ty n)]]) (hd : d.tn ≠ "") (hT : forall kvs, d ≠ .dT kvs) (hm : m ∈ ["str", "int", "bool", "list", "tuple", "dict"]) (hn : n ∈ ["str", "int", "bool", "list", "tuple", "dict"]) :
    EvD M (tCB (rIsiT K) tr) s H (.bl (isB d m || isB d n)) := ev_cb h fun vs H1 e1 rs Q q => by
  obtain ⟨x, xs, ev, rx, y, ys, ew, ry, r0⟩ := rs
  have e4 : ys = [] := r0
  obtain ⟨tp, cs, e6, ht, c1, c2, ec, rc1, c3, c4, ed, rc3, rc4⟩ := ry
  have e7 : c1 = V.ty m := rc1
  have e8 : c3 = V.ty n := rc3
  have e9 : c4 = [] := rc4
  subst e4 ew e6 ed ec e7 e8 e9 ev
  refine ⟨x, tp, _, _, [.type m, .type n], _, rfl, msk_same _ _ ht, .cons (.ty m) (.cons (.ty n) .nil), Rep.ty msk_same rx hd hT, kitAny_cons (kit_ty (kitB_ok hd hm)) (fun z => kitAny_cons (kit_ty (kitB_ok hd hn)) (fun z2 => ?_) fun z2 => ?_) fun z => ?_, q _ H1 (Same.refl H1) rfl⟩
  · rw [z, z2]
    exact kitAny_nil
  · rw [z2, Bool.or_true]
  · rw [z, Bool.true_or]
/-! ### len, all, any -/
def rLenU (K : PySem.W.Frag) : List V -> Hp -> VK -> Prop := fun xs H Q => (exists x n, xs = [x] ∧ LenV K x H n ∧ Q (.int n) H) ∨ exists (p : Addr) (kvs : List (Key × V)), xs = [.ref p] ∧ Rd H p (.dK kvs) ∧ Q (.int kvs.length) H
theorem call_lenU {X : Cx} : CallR X (.builtin "len") (rLenU X.K) := by
  intro pins s σ H xs us Q I r h
  rcases h with h | ⟨p, kvs, ex, hp, q⟩
  · exact call_len pins s σ H xs us Q I r h
  · subst ex
    obtain ⟨u, eu, rx⟩ := vals1 r
    subst eu
    cases rx
    exact d_len I hp fun t s' I' => ⟨.int kvs.length, H, I', ⟨t, rfl⟩, q⟩
theorem ev_len {n : Nat} (h : EvDs M tr s H [d]) (hn : d.len = some n) (hT : forall kvs, d ≠ .dT kvs) (hS : forall x, d = .str x -> x.length ≤ sizeLine) : EvD M (tCB (rLenU K) tr) s H (.int n) := ev_cb h fun vs H1 e1 rs Q q => by
  obtain ⟨x, xs, ev, rx, r0⟩ := rs
  have e4 : xs = [] := r0
  subst e4 ev
  cases d with
  | str y =>
    cases hn
    exact .inl ⟨x, _, rfl, by rw [show x = V.str y from rx]; exact ⟨hS y rfl, rfl⟩, q _ H1 (Same.refl H1) rfl⟩
  | tup ds =>
    cases hn
    obtain ⟨a, ys, ea, ha, rs⟩ := rx
    exact .inl ⟨x, _, rfl, by rw [ea]; exact .inr ⟨ys, SqT.of (msk_same _ _ ha), rs.len.symm⟩, q _ H1 (Same.refl H1) rfl⟩
  | lst ds =>
    cases hn
    obtain ⟨a, ys, ea, ha, rs⟩ := rx
    exact .inl ⟨x, _, rfl, by rw [ea]; exact .inl ⟨ys, SqL.of (msk_same _ _ ha), rs.len.symm⟩, q _ H1 (Same.refl H1) rfl⟩
  | dK kvs =>
    cases hn
    obtain ⟨a, ws, ea, ha, rk⟩ := rx
    have hl : ws.length = kvs.length := by
      have e := congrArg List.length rk.keys
      rw [List.length_map, List.length_map] at e
      exact e
    exact .inr ⟨a, ws, by rw [ea], rd_same msk_same ha, by rw [hl]; exact q _ H1 (Same.refl H1) rfl⟩
  | dT kvs => exact absurd rfl (hT kvs)
  | _ => cases hn
theorem Reps.bls {G : Hp} : forall {bs : List Bool} {vs : List V}, Reps G (bs.map D.bl) vs -> vs = bs.map V.bl
  | [], _, h => h
  | b :: bs, _, ⟨x, xs, e, h, r⟩ => by rw [e, show x = V.bl b from h, Reps.bls r] <;> rfl
theorem ev_all {bs : List Bool} (h : EvDs M tr s H [.lst (bs.map D.bl)]) : EvD M (tCB (rAll K) tr) s H (.bl (bs.all id)) := ev_cb h fun vs H1 e1 rs Q q => by
  obtain ⟨x, xs, ev, rx, r0⟩ := rs
  have e4 : xs = [] := r0
  obtain ⟨a, ys, ea, ha, rs⟩ := rx
  subst e4 ea ev
  exact ⟨a, bs, rfl, by rw [← rs.bls]; exact SqL.of (msk_same _ _ ha), q _ H1 (Same.refl H1) rfl⟩
theorem ev_any {bs : List Bool} (h : EvDs M tr s H [.lst (bs.map D.bl)]) : EvD M (tCB (rAny K) tr) s H (.bl (bs.any id)) := ev_cb h fun vs H1 e1 rs Q q => by
  obtain ⟨x, xs, ev, rx, r0⟩ := rs
  have e4 : xs = [] := r0
  obtain ⟨a, ys, ea, ha, rs⟩ := rx
  subst e4 ea ev
  exact ⟨a, bs, rfl, by rw [← rs.bls]; exact SqL.of (msk_same _ _ ha), q _ H1 (Same.refl H1) rfl⟩
end
end Ak
/-! Ak 8: dict comprehensions and setdefault, keys of any form. -/
namespace Ak
open PySem PySem.Spec PyProof.Rows L2

section
variable {X : Cx} {pins : List (Addr × Obj)} {σ : L2.St} {H H' : Hp} {s : Shared} {E : Value -> Shared -> Prop}
/-- a pair goes into a dict, as a comprehension does it -/
theorem put_any {D : Addr} {y v : V} {u r : Value} {Q : Unit -> Shared -> Prop} (hu : X.A.units + 1 < cLine) (I : Inv X pins σ H s) (g : DPut H D y v H') (ry : RelV y u) (rv : RelV v r) (h : forall s', Inv X pins σ H' s' -> Q () s') : wpAny (model X.prog X.w) X.A (dictSet D u r) Q E s := by
  rcases g with ⟨kvs, k, e, ey, l, eH⟩ | ⟨kvs, k, b, e, ey, eb, l, eH⟩
  · subst ey eH
    exact d_dictSet I e l ry rv h
  · subst ey eH
    obtain rfl : u = Value.ref b := ry
    obtain ⟨z, lo, xs, rel, dd⟩ := dt_of I.hok e
    have hlen := length_putK kvs k v
    refine wpAny_dictSet_heap (hsz := by rw [← Paired.length rel]; exact z) (show X.A.units < cLine from Nat.lt_of_succ_lt hu) (key_of I.hok eb) dd fun h' dd' hs => h _ ?_
    obtain ⟨ob, es, ep, g1, g2, g3, g4, _, g6⟩ := dd'
    have mu : Mut (H D) := by
      rw [e]
      exact True.intro
    exact d_write I mu hs ⟨ob, g1⟩ ⟨by omega, lo, _, (rel.put k eb rv).keeps fun c ys ec => (upd_ne (ne_of ec e fun z => nomatch z)).trans ec, ob, es, ep, g1, g2, g3, g4, g6⟩
end
section
variable {X : Cx}
/-- {k: v for target in iter if ..}: o the empty dict of the kind that is wanted -/
def tDcU (o : HO) (wi : TI) (g : TG) (tt : TT) (tk tv : TE) (vs : List Nat) : TE := fun σ H Q => wi σ H fun J H1 => forall D, H1 D = none -> exists W : Nat -> Nat -> Hp -> Prop, (exists m, W 0 m (upd H1 D o)) ∧ forall i m H, W i m H ->
  (J.stop i H ∧ Q (.ref D) H) ∨ (J.go i H ∧ exists Nx : Hp -> Prop, (forall H', Nx H' -> exists m', m' < m ∧ W (i + 1) m' H') ∧ forall x H', J.yld i H x H' -> g x (wipe σ vs) H' fun σ2 H2 => wipe σ2 vs = wipe σ vs ∧ tt σ2 H2 fun b H3 =>
    if b = true then tk σ2 H3 fun y H4 => tv σ2 H4 fun z H5 => exists H6, DPut H5 D y z H6 ∧ Nx H6 else Nx H3)
theorem pe_dcU (o : HO) (ho : o = .dK [] ∨ o = .dT []) (hu : X.A.units + 1 < cLine) {kx vx tg iter : Expr} {ifs : List Expr} {scope : Scope} {own : List (Str × Nat)} {pos : Pos} {wi : TI} {g : TG} {tt : TT} {tk tv : TE} (calm : X.calm = true) (nd : X.N.Nodup) (hi : PI X tg iter wi) (ok : BlkOk X.N X.env.scope scope own)
    (hg : forall (s : Shared) (H : Hp) (C : Addr) (cl : List (Str × Addr)) (fp : List Addr), PG (X.blk s H scope (compEnvC scope cl C X.env) fp) tg g)
    (ht : forall (s : Shared) (H : Hp) (C : Addr) (cl : List (Str × Addr)) (fp : List Addr), PTs (X.blk s H scope (compEnvC scope cl C X.env) fp) ifs tt)
    (hk : forall (s : Shared) (H : Hp) (C : Addr) (cl : List (Str × Addr)) (fp : List Addr), PE (X.blk s H scope (compEnvC scope cl C X.env) fp) kx tk)
    (he : forall (s : Shared) (H : Hp) (C : Addr) (cl : List (Str × Addr)) (fp : List Addr), PE (X.blk s H scope (compEnvC scope cl C X.env) fp) vx tv)
    (hs : forall x, foldedSetIterable iter X.env x = pure x := by intro _; rfl) :
    PE X (.DictComp kx vx [⟨tg, iter, ifs, 0⟩] scope pos) (tDcU o wi g tt tk tv (own.map (·.2))) := by
  refine ⟨fun pins s σ H Q I wish => ?_⟩
  rw [arm_eval_DictComp]
  have fr : forall y, y ∈ scope.names -> y.2 = .free -> exists c, X.env.cells.lookup y.1 = some c := by
    intro y hy e
    have := ok.free y hy e
    exact I.ok.has _ this
  refine wpAny_comprehension_free (use := none) rfl hs (closure_ok fr) ok.kind (fun y hy e => by rw [ok.uniq y hy, e]) ?_
  refine thn (hi.run pins s σ H _ I wish) fun xv s1 hx => thn hx fun itv s2 h2 => ?_
  obtain ⟨it, fp, tn, J, H2, rfl, I2, T, st2, f2, q⟩ := h2
  refine wpAny_newObj_type (newEnv_comp ?_)
  have hDn : H2 s2.heap.objs.size = none := I2.hok.fresh (Nat.le_refl _)
  obtain ⟨W, ⟨m0, w0⟩, turn⟩ := q s2.heap.objs.size hDn
  generalize hD : s2.heap.objs.size = D at *
  -- the dict is laid
  obtain ⟨s3, hs3⟩ : exists s3 : Shared, s3 = { s2 with heap := s2.heap.push { cls := .type "dict", data := .dict #[] } } := ⟨_, rfl⟩
  have heap3 : s3.heap = s2.heap.push { cls := .type "dict", data := .dict #[] } := congrArg Shared.heap hs3
  have I3 : Inv X pins σ (upd H2 D o) s3 := by
    rw [hs3]
    refine I2.laid (t' := s2.toks) (fun b ob e => Heap.get?_push_of_some _ e) (Nat.le_of_eq hD) ?_
    rcases ho with z | z
    · rw [z, ← hD]
      exact dk_empty s2.heap I2.big
    · rw [z, ← hD]
      exact dt_empty s2.heap I2.big
  have low : forall b, b ∈ fp -> b < D := by
    intro b hb
    obtain ⟨ob, e, _⟩ := T.obj _ _ st2 b hb
    rw [← hD]
    exact Heap.lt_size e
  have f3 : forall b, b ∈ fp -> FpOk X pins (upd H2 D o) b ∧ b < s3.heap.objs.size := by
    intro b hb
    have l := low b hb
    obtain ⟨z1, z2⟩ := f2 b hb
    refine ⟨⟨(upd_ne (Nat.ne_of_lt l)).trans z1, z2⟩, ?_⟩
    rw [heap3, Heap.size_push, hD]
    exact Nat.lt_succ_of_lt l
  have st3 : tn 0 s3.heap := T.keep _ _ _ st2 fun b _ ob e => by
    rw [heap3]
    exact Heap.get?_push_of_some _ e
  have I4 := block_start I3 ok nd f3
  have none3 : forall b, b ∈ fp -> (upd H2 D o) b = none := fun b hb => (f3 b hb).1.1
  generalize hH3 : upd H2 D o = H3 at *
  have g1 := hg s3 H3 s3.heap.objs.size (cellsFrom (s3.heap.objs.size + 1) scope.names (cloFrom X.env.cells scope.names [])) fp
  have g2 := ht s3 H3 s3.heap.objs.size (cellsFrom (s3.heap.objs.size + 1) scope.names (cloFrom X.env.cells scope.names [])) fp
  have g3 := hk s3 H3 s3.heap.objs.size (cellsFrom (s3.heap.objs.size + 1) scope.names (cloFrom X.env.cells scope.names [])) fp
  have g4 := he s3 H3 s3.heap.objs.size (cellsFrom (s3.heap.objs.size + 1) scope.names (cloFrom X.env.cells scope.names [])) fp
  have aim : codeAny (model X.prog X.w) X.A (.compStart (.DictComp kx vx [⟨tg, iter, ifs, 0⟩] scope pos) 0 (.ref it) (.ref D) (compEnvC scope (cellsFrom (s3.heap.objs.size + 1) scope.names (cloFrom X.env.cells scope.names [])) s3.heap.objs.size X.env))
      (compPost (model X.prog X.w) X.A X.xe none (EP X pins σ Q) (.ref D) s3.heap.objs.size) { s3 with heap := pushCells (s3.heap.push { cls := .type "dict", data := .dict #[] }) scope.names } := by
    generalize hce : compEnvC scope (cellsFrom (s3.heap.objs.size + 1) scope.names (cloFrom X.env.cells scope.names [])) s3.heap.objs.size X.env = ce at *
    have loc : ce.locals = s3.heap.objs.size := by rw [← hce] <;> rfl
    obtain ⟨s4, hs4⟩ : exists s4 : Shared, s4 = { s3 with heap := pushCells (s3.heap.push { cls := .type "dict", data := .dict #[] }) scope.names } := ⟨_, rfl⟩
    rw [← hs4] at I4 ⊢
    have st4 : tn 0 s4.heap := T.keep _ _ _ st3 fun b _ ob e => by
      rw [hs4]
      exact pushCells_keeps _ _ _ _ (Heap.get?_push_of_some _ e)
    have foot : forall {σ' : L2.St} {H' : Hp} {s' : Shared}, Inv (X.blk s3 H3 scope ce fp) [] σ' H' s' -> (forall b, b ∈ fp -> H' b = none) -> forall b, b ∈ fp -> FpOk (X.blk s3 H3 scope ce fp) [] H' b := by
      intro σ' H' s' I' hn b hb
      have e1 := I'.ok.exf b hb
      exact ⟨hn b hb, e1.1, I'.ok.exfs b hb, .inl hb, fun x c e => e1.2 x c e, fun p hp => absurd (show p ∈ ([] : List (Addr × Obj)) ++ [] from hp) (by simp)⟩
    have loop : codeAny (model X.prog X.w) X.A (.compLoop (.DictComp kx vx [⟨tg, iter, ifs, 0⟩] scope pos) 0 (.ref it) (.ref D) ce) (compPost (model X.prog X.w) X.A X.xe none (EP X pins σ Q) (.ref D) s3.heap.objs.size) s4 := by
      refine compLoop_anyD (fun n s' => exists i H', W i n H' ∧ Inv (X.blk s3 H3 scope ce fp) [] (wipe σ (own.map (·.2))) H' s' ∧ tn i s'.heap ∧ forall b, b ∈ fp -> H' b = none) ?_ m0 ⟨0, H3, w0, I4, st4, none3⟩
      rintro n s5 ⟨i, H5, w5, I5, st5, n5⟩
      rcases turn i n H5 w5 with ⟨stop, qq⟩ | ⟨go, Nx, hNx, step⟩
      · refine thnF (T.done (X.blk s3 H3 scope ce fp) rfl rfl rfl calm i [] s5 _ H5 (fun _ _ => False) I5 (foot I5 n5) st5 stop) fun r s6 z => ?_
        obtain ⟨rfl, I6⟩ := z
        have back : Inv X pins σ H5 s6 := I3.call' (ch := fp) I6.os I6.base I6.hok I6.bare fun b hb => by
          obtain ⟨⟨_, a1, a2, a3, a4, a5⟩, _⟩ := f3 b hb
          exact ⟨a3, a1, a4, a5⟩
        have nC : H5 s3.heap.objs.size = none := by
          rw [← loc]
          exact I6.free
        obtain ⟨m, hn, _⟩ := I6.loc
        have hn' : s6.heap.Ns s3.heap.objs.size m := by
          rw [← loc]
          exact hn
        refine ⟨m, hn', fun h'' sb => ?_⟩
        obtain ⟨b0, b1, b2, b3, b4, b5⟩ := I3.fpOk (Nat.le_refl _) nC
        exact ⟨.ref D, H5, back.turned (t' := s6.toks) (fun b ob hb e => (sb.2 b hb).trans e) b0 b1 b3 b4 b5, rfl, qq⟩
      · refine thnF (T.item (X.blk s3 H3 scope ce fp) rfl rfl rfl calm i [] s5 _ H5 (fun _ _ => False) I5 (foot I5 n5) st5 go) fun r s6 z => ?_
        obtain ⟨u, rfl, h6⟩ := z
        refine thnF h6 fun _ s7 ⟨x, H7, I7, r7, y7, st7, n7⟩ => ?_
        have pinned := I7.pinned (foot I7 n7) (T.obj _ _ st7)
        refine thnF (g1.run _ s7 _ H7 x u _ pinned r7 (step x H7 y7)) fun _ s8 ⟨σ8, H8, I8, hw8, q8⟩ => thnF (g2.run _ s8 σ8 H8 _ I8 q8) fun b s9 ⟨H9, I9, q9⟩ => ?_
        have fin : forall {s' : Shared} {H' : Hp}, Inv (X.blk s3 H3 scope ce fp) ([] ++ pinsAt fp s7.heap) σ8 H' s' -> Nx H' -> exists m, m < n ∧ exists i H', W i m H' ∧ Inv (X.blk s3 H3 scope ce fp) [] (wipe σ (own.map (·.2))) H' s' ∧ tn i s'.heap ∧ forall b, b ∈ fp -> H' b = none := by
          intro s' H' I' nx
          obtain ⟨m', hm, w'⟩ := hNx H' nx
          have pin' : forall b, b ∈ fp -> forall ob, s7.heap.get? b = some ob -> s'.heap.get? b = some ob ∧ H' b = none := by
            intro b hb ob e
            have z := I'.pin (b, ob) (List.mem_append_right _ (List.mem_append_right _ (mem_pinsAt hb e)))
            exact ⟨z.1, z.2.1⟩
          have hl : (wipe σ (own.map (·.2))).length = σ8.length := by
            rw [← hw8]
            exact wipe_length ..
          refine ⟨m', hm, i + 1, H', w', (I'.unpinned (pins := [])).weak hl (fun j v e => ?_), T.keep _ _ _ st7 fun b hb ob e => (pin' b hb ob e).1, fun b hb => ?_⟩
          · rw [← hw8] at e
            exact (wipe_some e).1
          · obtain ⟨ob, e, _⟩ := T.obj _ _ st7 b hb
            exact (pin' b hb ob e).2
        cases b with
        | false =>
          rw [if_neg Bool.false_ne_true] at q9 ⊢
          exact fin I9 q9
        | true =>
          rw [if_pos rfl] at q9 ⊢
          refine thnF (g3.run _ s9 σ8 H9 _ I9 q9) fun z s10 ⟨yk, H10, I10, r10, q10⟩ => thnF (g4.run _ s10 σ8 H10 _ I10 q10) fun z2 s11 ⟨yv, H11, I11, r11, H12, pt, nx⟩ => ?_
          exact put_any (X := X.blk s3 H3 scope ce fp) hu I11 pt r10 r11 fun s12 I12 => fin I12 nx
    exact codeAny_compStart_dict loop (T.self X.A 0 _ _ _ st4 loop)
  have e5 : ({ s3 with heap := pushCells (s3.heap.push { cls := .type "dict", data := .dict #[] }) scope.names } : Shared) = { s2 with heap := pushCells ((s2.heap.push { cls := .type "dict", data := .dict #[] }).push { cls := .type "dict", data := .dict #[] }) scope.names } := by rw [hs3]
  rw [heap3] at aim
  simp only [hs3] at aim
  exact aim
end
end Ak
/-! Ak 9: dicts as data. -/
namespace Ak
open PySem PySem.Spec PyProof.Rows L2

/-! ### key classes: int or text keys, tuple keys -/
section
variable {κ : Type} [DecidableEq κ]
def pD (kvs : List (κ × D)) (k : κ) (v : D) : List (κ × D) := if (kvs.any fun kv => decide (kv.1 = k)) = true then kvs.map (fun kv => if kv.1 = k then (kv.1, v) else kv) else kvs ++ [(k, v)]
def vD (kvs : List (κ × D)) (k : κ) : Option D := (kvs.find? fun kv => decide (kv.1 = k)).map (·.2)
def foldP (l : List (κ × D)) : List (κ × D) := l.foldl (fun kvs p => pD kvs p.1 p.2) []
theorem pD_len (kvs : List (κ × D)) (k : κ) (v : D) : (pD kvs k v).length ≤ kvs.length + 1 := by
  unfold pD
  split
  · rw [List.length_map]
    omega
  · rw [List.length_append, List.length_singleton]
    omega
theorem foldP_snoc (l : List (κ × D)) (p : κ × D) : foldP (l ++ [p]) = pD (foldP l) p.1 p.2 := by
  unfold foldP
  rw [List.foldl_append] <;> rfl
theorem foldP_len (l : List (κ × D)) : (foldP l).length ≤ l.length := by
  have go : forall (l : List (κ × D)) (acc : List (κ × D)), (l.foldl (fun kvs p => pD kvs p.1 p.2) acc).length ≤ acc.length + l.length := by
    intro l
    induction l with
    | nil => intro acc; exact Nat.le_refl _
    | cons p l ih =>
      intro acc
      have h1 := ih (pD acc p.1 p.2)
      have h2 := pD_len acc p.1 p.2
      rw [List.foldl_cons, List.length_cons]
      omega
  have h := go l []
  rw [List.length_nil, Nat.zero_add] at h
  exact h
abbrev RepP (G : Hp) (kvs : List (κ × D)) (ws : List (κ × V)) : Prop := Paired (fun (p : κ × D) (q : κ × V) => p.1 = q.1 ∧ Rep G p.2 q.2) kvs ws
variable {G G' : Hp}
theorem RepP.fx (f : Fx G G') {kvs : List (κ × D)} {ws : List (κ × V)} (r : RepP G kvs ws) : RepP G' kvs ws := Paired.mapP r fun _ _ z => ⟨z.1, Rep.fx f _ z.2⟩
theorem RepP.any {kvs : List (κ × D)} {ws : List (κ × V)} (r : RepP G kvs ws) (k : κ) : (kvs.any fun kv => decide (kv.1 = k)) = ws.any fun kv => decide (kv.1 = k) := by
  induction r with
  | nil => rfl
  | @cons p q ps qs h t ih => rw [List.any_cons, List.any_cons, ih, h.1]
theorem RepP.repl {kvs : List (κ × D)} {ws : List (κ × V)} (r : RepP G kvs ws) (k : κ) {d : D} {v : V} (h : Rep G d v) : RepP G (kvs.map fun kv => if kv.1 = k then (kv.1, d) else kv) (ws.map fun kv => if kv.1 = k then (kv.1, v) else kv) := by
  induction r with
  | nil => exact .nil
  | @cons p q ps qs hpq t ih =>
    refine .cons ?_ ih
    show (if p.1 = k then (p.1, d) else p).1 = (if q.1 = k then (q.1, v) else q).1 ∧ Rep G (if p.1 = k then (p.1, d) else p).2 (if q.1 = k then (q.1, v) else q).2
    by_cases e : p.1 = k
    · rw [if_pos e, if_pos (hpq.1 ▸ e)]
      exact ⟨hpq.1, h⟩
    · rw [if_neg e, if_neg (hpq.1 ▸ e)]
      exact hpq
theorem RepP.put {kvs : List (κ × D)} {ws : List (κ × V)} (r : RepP G kvs ws) (k : κ) {d : D} {v : V} (h : Rep G d v) : RepP G (pD kvs k d) (putK ws k v) := by
  unfold pD putK
  rw [r.any k]
  split
  · exact r.repl k h
  · exact Paired.snoc r ⟨rfl, h⟩
theorem RepP.val {kvs : List (κ × D)} {ws : List (κ × V)} (r : RepP G kvs ws) (k : κ) : (vD kvs k = none ∧ valV ws k = none) ∨ exists d v, vD kvs k = some d ∧ valV ws k = some v ∧ Rep G d v := by
  induction r with
  | nil => exact .inl ⟨rfl, rfl⟩
  | @cons p q ps qs h t ih =>
    by_cases e : p.1 = k
    · exact .inr ⟨p.2, q.2, by simp [vD, List.find?_cons, e], valV_pos (h.1 ▸ e), h.2⟩
    · have e1 : vD (p :: ps) k = vD ps k := by simp [vD, List.find?_cons, e]
      rw [e1, valV_neg (h.1 ▸ e)]
      exact ih
theorem repK_iff : forall {kvs : List (Key × D)} {ws : List (Key × V)}, RepK G kvs ws <-> RepP G kvs ws
  | [], ws => by
    constructor
    · intro h
      rw [show ws = [] from h]
      exact .nil
    · intro h
      cases h
      exact rfl
  | (k, d) :: kvs, ws => by
    constructor
    · rintro ⟨x, xs, e, h, r⟩
      rw [e]
      exact .cons ⟨rfl, h⟩ (repK_iff.mp r)
    · intro h
      cases h with
      | @cons p q ps qs h t =>
        obtain ⟨k', v⟩ := q
        obtain ⟨e, h⟩ := h
        cases e
        exact ⟨v, qs, rfl, h, repK_iff.mpr t⟩
theorem repT_iff : forall {kvs : List (List Key × D)} {ws : List (List Key × V)}, RepT G kvs ws <-> RepP G kvs ws
  | [], ws => by
    constructor
    · intro h
      rw [show ws = [] from h]
      exact .nil
    · intro h
      cases h
      exact rfl
  | (k, d) :: kvs, ws => by
    constructor
    · rintro ⟨x, xs, e, h, r⟩
      rw [e]
      exact .cons ⟨rfl, h⟩ (repT_iff.mp r)
    · intro h
      cases h with
      | @cons p q ps qs h t =>
        obtain ⟨k', v⟩ := q
        obtain ⟨e, h⟩ := h
        cases e
        exact ⟨v, qs, rfl, h, repT_iff.mpr t⟩
theorem kD_val {k : Key} {v : V} (h : Rep G (kD k) v) : v = kV k := by
  cases k <;> exact h
theorem kD_vals : forall {ks : List Key} {vs : List V}, Reps G (ks.map kD) vs -> vs = ks.map kV
  | [], _, h => h
  | k :: ks, _, ⟨x, xs, e, h, r⟩ => by rw [e, kD_val h, kD_vals r] <;> rfl
theorem kT_val {k : List Key} {v : V} (h : Rep G (kT k) v) : exists b, v = .ref b ∧ G b = some (.tup (k.map kV)) := by
  obtain ⟨b, xs, e, hb, rs⟩ := h
  exact ⟨b, e, by rw [← kD_vals rs]; exact hb⟩
end
/-- a kind of dicts -/
structure KC (κ : Type) [DecidableEq κ] where
  kd : κ -> D
  hk : List (κ × V) -> HO
  md : List (κ × D) -> D
  rep : forall {G kvs v}, Rep G (md kvs) v <-> exists a ws, v = .ref a ∧ Rd G a (hk ws) ∧ RepP G kvs ws
  put : forall {H a ws k y v}, H a = some (hk ws) -> Rep H (kd k) y -> ws.length < sizeLine -> DPut H a y v (upd H a (hk (putK ws k v)))
  get : forall {H a ws k y}, Rd H a (hk ws) -> Rep H (kd k) y -> DGet H a y (valV ws k)
  emp : hk [] = .dK [] ∨ hk [] = .dT []
  dict : forall ws, isDict (hk ws)
  rk : forall {G G' a ws}, Fx G G' -> Rd G a (hk ws) -> Rd G' a (hk ws)
  isd : forall {H a ws}, Rd H a (hk ws) -> IsD H a
def kcK : KC Key where
  kd := kD
  hk := .dK
  md := .dK
  rep := fun {G kvs v} => ⟨fun ⟨a, ws, e, h, r⟩ => ⟨a, ws, e, h, repK_iff.mp r⟩, fun ⟨a, ws, e, h, r⟩ => ⟨a, ws, e, h, repK_iff.mpr r⟩⟩
  put := fun {H a ws k y v} h r l => by
    rw [kD_val r]
    exact DPut.k h l
  get := fun {H a ws k y} h r => .inl ⟨ws, k, h, kD_val r, rfl⟩
  emp := .inl rfl
  dict := fun ws => .inl ⟨ws, rfl⟩
  rk := fun f h => f.rk h
  isd := fun h => .inl ⟨_, h⟩
def kcT : KC (List Key) where
  kd := kT
  hk := .dT
  md := .dT
  rep := fun {G kvs v} => ⟨fun ⟨a, ws, e, h, r⟩ => ⟨a, ws, e, h, repT_iff.mp r⟩, fun ⟨a, ws, e, h, r⟩ => ⟨a, ws, e, h, repT_iff.mpr r⟩⟩
  put := fun {H a ws k y v} h r l => by
    obtain ⟨b, e, hb⟩ := kT_val r
    rw [e]
    exact DPut.t h hb l
  get := fun {H a ws k y} h r => by
    obtain ⟨b, e, hb⟩ := kT_val r
    exact .inr ⟨ws, k, b, h, e, hb, rfl⟩
  emp := .inr rfl
  dict := fun ws => .inr ⟨ws, rfl⟩
  rk := fun f h => f.rt h
  isd := fun h => .inr ⟨_, h⟩
theorem isDict.nt {o : HO} (h : isDict o) : forall xs, o ≠ .tup xs := fun xs e => by
  rcases h with ⟨k, z⟩ | ⟨k, z⟩ <;> rw [e] at z <;> cases z
theorem isDict.mut {o : HO} (h : isDict o) : Mut (some o) := by
  rcases h with ⟨k, z⟩ | ⟨k, z⟩ <;> rw [z] <;> exact True.intro

section
variable {κ : Type} [DecidableEq κ] (c : KC κ) {K : PySem.W.Frag} {M : MK} {s : L2.St} {H : Hp} {te ta tb : TE} {ds : List D} {d : D}
/-- one entry of a dict comprehension -/
def EltP (N : MK) (g : TG) (tt : TT) (tk tv : TE) (vs : List Nat) (s : L2.St) (H3 : Hp) (x : V) (o : Option (κ × D)) : Prop :=
  forall (P : V -> V -> Hp -> Prop) (S : Hp -> Prop), (forall k d, o = some (k, d) -> forall y z H4, Same H3 H4 -> Rep (msk N H4) (c.kd k) y -> Rep (msk N H4) d z -> P y z H4) -> (o = none -> forall H4, Same H3 H4 -> S H4) ->
    g x (wipe s vs) H3 fun s2 H4 => wipe s2 vs = wipe s vs ∧ tt s2 H4 fun b H5 => if b = true then tk s2 H5 fun y H6 => tv s2 H6 fun z H7 => P y z H7 else S H5
variable {c}
theorem eltp_of {N : MK} {g : TG} {tt : TT} {tk tv : TE} {vs : List Nat} {H3 : Hp} {x : V} {o : Option (κ × D)} {s2 : L2.St} (hg : forall Q : L2.St -> Hp -> Prop, Q s2 H3 -> g x (wipe s vs) H3 Q) (hw : wipe s2 vs = wipe s vs) {b : Bool}
    (ht : EvT tt s2 H3 b) (he : b = true -> exists k d, o = some (k, d) ∧ EvD N tk s2 H3 (c.kd k) ∧ EvD N tv s2 H3 d) (hn : b = false -> o = none) : EltP c N g tt tk tv vs s H3 x o := fun P S kp ks => hg _ ⟨hw, ht H3 (Same.refl _) _ fun H4 e4 => by
  cases b with
  | true =>
    obtain ⟨k, d, eo, h1, h2⟩ := he rfl
    exact iteT (h1 H4 e4 _ fun y H5 e5 r => h2 H5 (e4.trans e5) _ fun z H6 e6 r2 => kp k d eo y z H6 ((e4.trans e5).trans e6) (r.up (msk_mono e6)) r2)
  | false => exact iteF (ks (hn rfl) H4 e4)⟩
theorem ev_dc {wi : TI} {g : TG} {tt : TT} {tk tv : TE} {vs : List Nat} (f : D -> Option (κ × D)) (m : Mok M H) (hi : EvI M wi s H ds) (hz : ds.length ≤ 1000000)
    (hs : forall (N : MK) H3 d x, Mok N H3 -> Same (msk M H) (msk N H3) -> d ∈ ds -> Rep (msk N H3) d x -> EltP c N g tt tk tv vs s H3 x (f d)) : EvD M (tDcU (c.hk []) wi g tt tk tv vs) s H (c.md (foldP (ds.filterMap f))) := fun H1 e1 Q q =>
  hi H1 e1 _ fun J H2 e2 it Da hD => by
    have m2 : Mok M H2 := (m.up e1).up e2
    have hM : ¬ M Da := m2.new hD
    let N : MK := fun a => M a ∨ a = Da
    have i2 : forall a, N a -> M a ∨ H2 a = none := fun a z => by
      rcases z with z | z
      · exact .inl z
      · exact .inr (by rw [z]; exact hD)
    have hlow : forall {H3 : Hp}, Same H2 H3 -> Same (msk M H2) (msk N H3) := fun {H3} e a o h => by
      obtain ⟨n, h⟩ := msk_of h
      rw [msk_at]
      · exact e _ _ h
      · rintro (z | z)
        · exact n z
        · rw [z, hD] at h
          cases h
    refine ⟨fun i k H3 => k = ds.length - i ∧ i ≤ ds.length ∧ Same H2 H3 ∧ exists acc, H3 Da = some (c.hk acc) ∧ RepP (msk N H3) (foldP ((ds.take i).filterMap f)) acc,
      ⟨ds.length, by simp, Nat.zero_le _, same_new hD, [], upd_same, .nil⟩, ?_⟩
    rintro i k H3 ⟨rfl, hi, e3, acc, ha, rs⟩
    have m3 : Mok N H3 := Mok.add (m2.up e3) ha (c.dict acc).nt
    have hlen : acc.length ≤ i := by
      rw [← Paired.length rs]
      have h1 := foldP_len ((ds.take i).filterMap f)
      have h2 := List.length_filterMap_le f (ds.take i)
      have h3 : (ds.take i).length ≤ i := by rw [List.length_take]; omega
      omega
    by_cases hlt : i < ds.length
    · refine .inr ⟨it.go i H3 (Kp.of e3) hlt, fun H4 => Same H2 H4 ∧ exists acc, H4 Da = some (c.hk acc) ∧ RepP (msk N H4) (foldP ((ds.take (i + 1)).filterMap f)) acc, fun H4 w => ⟨ds.length - (i + 1), by omega, rfl, hlt, w⟩, fun x H4 y => ?_⟩
      obtain ⟨e4, d, hd, rd⟩ := it.yld i H3 x H4 N (Kp.of e3) m3 i2 hlt y
      have tk : ds.take (i + 1) = ds.take i ++ [d] := by rw [List.take_succ, hd] <;> rfl
      have ha4 := e4 _ _ ha
      have rs4 := rs.fx (Fx.of (msk_mono e4))
      refine hs N H4 d x (m3.up e4) (fun a o h => hlow (e3.trans e4) _ _ (msk_mono (e1.trans e2) _ _ h)) (List.mem_of_getElem? hd) rd _ _ (fun k d' ho y z H5 e5 ry rz => ?_) (fun ho H5 e5 => ?_)
      · refine ⟨upd H5 Da (c.hk (putK acc k z)), c.put (e5 _ _ ha4) (ry.up msk_same) (by rw [sizeLine_eq]; omega), fun a o h => ?_, putK acc k z, upd_same, ?_⟩
        · rw [upd_ne (ne_of_none h hD)]
          exact e5 _ _ (e4 _ _ (e3 _ _ h))
        · rw [tk, List.filterMap_append, List.filterMap_cons_some ho, List.filterMap_nil, msk_upd (M := N) (.inr rfl), foldP_snoc]
          exact RepP.put (rs4.fx (Fx.of (msk_mono e5))) k rz
      · refine ⟨(e3.trans e4).trans e5, acc, e5 _ _ ha4, ?_⟩
        rw [tk, List.filterMap_append, List.filterMap_cons_none ho, List.filterMap_nil, List.append_nil]
        exact rs4.fx (Fx.of (msk_mono e5))
    · have e : i = ds.length := by omega
      subst e
      rw [List.take_length] at rs
      refine .inl ⟨it.stop H3 (Kp.of e3), q _ H3 (e2.trans e3) (c.rep.mpr ⟨Da, acc, rfl, .inl ?_, rs.fx (Fx.of (msk_less fun a z => .inl z))⟩)⟩
      rw [msk_at hM]
      exact ha
/-- d[k], there -/
theorem rd_dget {kvs : List (κ × D)} {k : κ} {z : D} (h : vD kvs k = some z) : forall x y H1, Same H H1 -> Rep (msk M H1) (c.md kvs) x -> Rep (msk M H1) (c.kd k) y -> exists a v, x = .ref a ∧ DGet H1 a y (some v) ∧ Rep (msk M H1) z v := fun x y H1 _ rx ry => by
  obtain ⟨a, ws, e, ha, r⟩ := c.rep.mp rx
  rcases r.val k with ⟨h1, _⟩ | ⟨d', v, h1, h2, h3⟩
  · rw [h] at h1
    cases h1
  · rw [h] at h1
    cases h1
    refine ⟨a, v, e, ?_, h3⟩
    rw [← h2]
    exact c.get (c.rk (Fx.of msk_same) ha) (ry.up msk_same)
theorem ev_dget {kvs : List (κ × D)} {k : κ} {z : D} (ha : EvD M ta s H (c.md kvs)) (hb : EvD M tb s H (c.kd k)) (h : vD kvs k = some z) : EvD M (tDGet ta tb) s H z := fun H1 e1 Q q =>
  ha H1 e1 _ fun x H2 e2 rx => hb H2 (e1.trans e2) _ fun y H3 e3 ry => by
    obtain ⟨a, v, e, g, r⟩ := rd_dget (c := c) h x y H3 ((e1.trans e2).trans e3) (rx.up (msk_mono e3)) ry
    exact ⟨a, v, e, g, q v H3 (e2.trans e3) r⟩
theorem rd_inDU {neg : Bool} {kvs : List (κ × D)} {k : κ} : RD M (rInU neg) H (c.kd k) (c.md kvs) (.bl (if neg then !(vD kvs k).isSome else (vD kvs k).isSome)) := fun v w H1 _ rx ry Q q => by
  obtain ⟨a, ws, e, ha, r⟩ := c.rep.mp ry
  refine .inr (.inr ⟨a, valV ws k, e, c.get (c.rk (Fx.of msk_same) ha) (rx.up msk_same), ?_⟩)
  rcases r.val k with ⟨h1, h2⟩ | ⟨d', v, h1, h2, h3⟩
  · rw [h2]
    exact q _ H1 (Same.refl H1) (by rw [h1] <;> rfl)
  · rw [h2]
    exact q _ H1 (Same.refl H1) (by rw [h1] <;> rfl)
/-- d.get(k, x) -/
theorem ev_dget2 {tx : TE} {kvs : List (κ × D)} {k : κ} {z : D} (ha : EvD M ta s H (c.md kvs)) (hb : EvD M tb s H (c.kd k)) (hx : EvD M tx s H z) : EvD M (tDGet2 ta tb tx) s H ((vD kvs k).getD z) := fun H1 e1 Q q =>
  ha H1 e1 _ fun x H2 e2 rx => by
    obtain ⟨a, ws, e, ha, r⟩ := c.rep.mp rx
    refine ⟨a, e, c.isd (c.rk (Fx.of msk_same) ha), hb H2 (e1.trans e2) _ fun y H3 e3 ry => hx H3 ((e1.trans e2).trans e3) _ fun zv H4 e4 rz => ?_⟩
    have ha4 := c.rk (Fx.of (msk_mono (e3.trans e4))) ha
    refine ⟨valV ws k, c.get (c.rk (Fx.of msk_same) ha4) ((ry.up (msk_mono e4)).up msk_same), ?_⟩
    have r4 := r.fx (Fx.of (msk_mono (M := M) (e3.trans e4)))
    rcases r4.val k with ⟨h1, h2⟩ | ⟨d', v, h1, h2, h3⟩
    · rw [h2]
      exact q _ H4 ((e2.trans e3).trans e4) (by rw [h1]; exact rz)
    · rw [h2]
      exact q _ H4 ((e2.trans e3).trans e4) (by rw [h1]; exact h3)
end

/-! ### locks -/
def tLockU (t : TE) : TE := fun σ H Q => tLockE t σ H Q ∨ t σ H Q
theorem pe_lockU {X : Cx} {e : Expr} {t : TE} (h : PE X e t) : PE X e (tLockU t) := by
  have h2 := pe_lock h
  exact ⟨fun pins s σ H Q I w => w.elim (h2.run pins s σ H Q I) (h.run pins s σ H Q I)⟩
section
variable {κ : Type} [DecidableEq κ] {c : KC κ} {K : PySem.W.Frag} {M : MK} {s : L2.St} {H : Hp} {te : TE} {z : D}
/-- under the lock of the dict v -/
theorem ev_lock {kvs : List (κ × D)} {v : V} (m : Mok M H) (hd : Rep (msk M H) (c.md kvs) v)
    (h : forall Hl a od ws, Mok M Hl -> Fx (msk M H) (msk M Hl) -> v = .ref a -> ¬ M a -> Hl a = some (.frz od (c.hk ws)) -> RepP (msk M Hl) kvs ws -> EvD M te s Hl z) : EvD M (tLockU te) s H z := fun H1 e1 Q q => by
  obtain ⟨a, ws, e, ha, r⟩ := c.rep.mp hd
  obtain ⟨nm, ha'⟩ := rd_msk ha
  have m1 := m.up e1
  rcases ha' with h0 | ⟨od, h0⟩
  · have h1 := e1 _ _ h0
    refine .inl ⟨a, c.hk ws, h1, (c.dict ws).mut, fun od => ?_⟩
    have f : Fx (msk M H1) (msk M (upd H1 a (.frz od (c.hk ws)))) := by
      have k := fx_lock (od := od) h1 (c.dict ws)
      exact Fx.msk k fun b z => .inl z
    have fl := (Fx.of (msk_mono (M := M) e1)).trans f
    have ml : Mok M (upd H1 a (.frz od (c.hk ws))) := m1.upd (by intro xs e; cases e)
    refine h _ a od ws ml fl e nm upd_same (r.fx fl) _ (Same.refl _) _ fun y H2 e2 ry => ?_
    have h2 : H2 a = some (.frz od (c.hk ws)) := e2 _ _ upd_same
    refine ⟨h2, q y _ (fun b o hb => ?_) ?_⟩
    · by_cases hba : b = a
      · rw [hba] at hb ⊢
        rw [h1] at hb
        rw [upd_same]
        exact hb
      · rw [upd_ne hba]
        exact e2 _ _ (by rw [upd_ne hba]; exact hb)
    · have k := fx_unlock h2 (c.dict ws)
      exact Rep.fx (Fx.msk k fun b z => .inl z) z ry
  · have h1 := e1 _ _ h0
    refine .inr (h H1 a od ws m1 (Fx.of (msk_mono e1)) e nm h1 (r.fx (Fx.of (msk_mono e1))) _ (Same.refl _) _ fun y H2 e2 ry => q y H2 e2 ry)
/-- a locked dict, walked -/
theorem ia_dict {a : Addr} {od : Obj} (m : Mok M H) {ds : List D} (h : Ev M te s H fun v _ => v = .ref a) (nm : ¬ M a) (hz : (exists ws : List (Key × V), H a = some (.frz od (.dK ws)) ∧ ds = ws.map fun p => kD p.1) ∨ exists ws : List (List Key × V), H a = some (.frz od (.dT ws)) ∧ ds = ws.map fun p => kT p.1) : EvI M (iAny K te) s H ds := fun H1 e R k => h H1 e _ fun v H2 e2 r => by
  rcases hz with ⟨ws, hz, ed⟩ | ⟨ws, hz, ed⟩
  · subst ed
    have h2 := e2 _ _ (e _ _ hz)
    refine .inr (.inr (.inr (.inl ⟨a, od, ws, r, h2, k _ H2 e2 ⟨fun i H f hi => ⟨f.fz h2, by simpa using hi⟩, fun H f => ⟨f.fz h2, by simp⟩, fun i H x H' N f m hn hi y => ?_⟩⟩)))
    obtain ⟨e3, kk, vv, g1, g2⟩ := y
    subst e3 g2
    exact ⟨Same.refl _, kD kk, by rw [List.getElem?_map, g1] <;> rfl, kD_rep kk⟩
  · subst ed
    have h2 := e2 _ _ (e _ _ hz)
    refine .inr (.inr (.inr (.inr ⟨a, od, ws, r, h2, k _ H2 e2 ⟨fun i H f hi => ⟨f.fz h2, by simpa using hi⟩, fun H f => ⟨f.fz h2, by simp⟩, fun i H x H' N f mN hn hi y => ?_⟩⟩)))
    obtain ⟨e3, kk, vv, qa, g1, g2, g3⟩ := y
    subst e3 g2
    exact ⟨Same.refl _, kT kk, by rw [List.getElem?_map, g1] <;> rfl, kT_rep (mN.tup g3)⟩
end
end Ak
/-! Ak 10: what changes; enumerate, zip; the rest of the words. -/
namespace Ak
open PySem PySem.Spec PyProof.Rows L2

/-! ### enumerate of a tuple -/
theorem enum_new1 {v : Value} {o : Obj} {Ok : Heap -> Prop} (B : Begins v o Ok) :
    Meets (Builtin.«enumerate.__new__» ⟨[.type "enumerate", v], []⟩) (fun _ R s => Ok s.heap ∧
      R (.ok (.ret (.ref (s.heap.push o).objs.size))) { s with heap := (s.heap.push o).push { cls := .type "enumerate", data := .fields #[.none, .bool false, .ref s.heap.objs.size, rawInt 0, .none, .none] } }) :=
  .of_wp fun prog w A R s wish => by
    obtain ⟨hh, gg, dd, tt, oo⟩ := s
    obtain ⟨ok, wish⟩ := wish
    have subt := sub_enumerate
    have itr : forall {A' : Around} {E : Value -> Shared -> Prop} {Q : Value -> Shared -> Prop}, Q (.ref hh.objs.size) ⟨hh.push o, gg, dd, tt, oo⟩ -> wpAny (model prog w) A' (pyIter v) Q E ⟨hh, gg, dd, tt, oo⟩ :=
      fun q => B.iter prog w _ _ ⟨hh, gg, dd, tt, oo⟩ _ ok q
    wp_walk using itr
    refine wpAny_stack_any fun st => wpAny_pure ?_
    split
    · rename_i c _ _ _ _ _
      cases (c == Value.type "enumerate")
      · wp_walk using itr
        exact ⟨_, rfl, wish⟩
      · wp_walk using itr
        exact ⟨_, rfl, wish⟩
    · wp_walk using itr
      exact ⟨_, rfl, wish⟩
theorem call_enum1 {prog : Program} {w : World} {A : Around} {E : Value -> Shared -> Prop} {s : Shared} {v : Value} {o : Obj} {Ok : Heap -> Prop} {Q : Value -> Shared -> Prop} (B : Begins v o Ok) (ok : Ok s.heap)
    (h : forall h', IsEnum h' (s.heap.objs.size + 1) s.heap.objs.size 0 .none -> h'.get? s.heap.objs.size = some o -> (forall b ob, s.heap.get? b = some ob -> h'.get? b = some ob) -> Q (.ref (s.heap.objs.size + 1)) { s with heap := h' }) :
    wpAny (model prog w) A (call (.type "enumerate") [v]) Q E s := by
  refine callType_new F.called_enumerate (by decide) (F.typeCall_enumerate_1 _) (F.newCall_enumerate_1 _) (fun obj => F.args_object_init_2 obj _) F.entry_enumerate_new (enum_new1 B) ⟨ok, ?_⟩
  have sz : (s.heap.push o).objs.size = s.heap.objs.size + 1 := Heap.size_push ..
  have there := Heap.get?_push_size (s.heap.push o) (o := { cls := .type "enumerate", data := .fields #[.none, .bool false, .ref s.heap.objs.size, rawInt 0, .none, .none] }) rfl
  show _ ∧ _
  rw [sz] at there ⊢
  exact ⟨⟨_, there, rfl⟩, h _ there (Heap.get?_push_of_some _ (Heap.get?_push_size _ B.free)) fun b ob x => Heap.get?_push_of_some _ (Heap.get?_push_of_some _ x)⟩
def IteT (K : PySem.W.Frag) (a : Addr) : It :=
  ⟨fun i H => exists (xs : List V) (x : V), SqT K H a xs ∧ xs[i]? = some x, fun i H v H' => exists T x, v = .ref T ∧ H T = none ∧ H' = upd H T (.tup [.int (i : Nat), x]) ∧ forall xs, SqT K H a xs -> xs[i]? = some x, fun i H => exists xs : List V, SqT K H a xs ∧ xs.length = i⟩
theorem turn_enumT {P : Program} {w : World} {K : PySem.W.Frag} {elts : List Expr} {kk : Nat} {tpos : Pos} (a e it : Addr) :
    Turn P w K (.Tuple elts kk tpos) (IteT K a) [e, it] e (fun i h => (exists old, IsEnum h e it ((i : Nat) : Int) old) ∧ h.IsTupleIter it a i ∧ e ≠ it) where
  mem := List.mem_cons_self
  obj := fun i h st b hb => by
    obtain ⟨⟨old, he⟩, ⟨o, ho, hc, hd⟩, _⟩ := st
    rcases List.mem_cons.mp hb with z | z
    · rw [z]
      exact ⟨_, he, fun v q => nomatch q⟩
    · rw [List.mem_singleton.mp z]
      exact ⟨o, ho, fun v q => by rw [hd] at q; cases q⟩
  keep := fun i h h' st k => by
    obtain ⟨⟨old, he⟩, hi, hne⟩ := st
    exact ⟨⟨old, k e (by simp) _ he⟩, hi.at fun o q => k it (by simp) o q, hne⟩
  item := by
    intro X eP ew eK hc i pins s σ H E I hf st hg
    subst eP ew eK
    obtain ⟨⟨old, he⟩, hit, hne⟩ := st
    obtain ⟨xs, x, hq, hx⟩ := hg
    obtain ⟨its, rv, p, hz⟩ := I.tuple hq
    obtain ⟨u, hu, ru⟩ := rv.get hx
    have lte : e < s.heap.objs.size := Heap.lt_size he
    have lti : it < s.heap.objs.size := by
      obtain ⟨_, q, _⟩ := hit
      exact Heap.lt_size q
    have hta : a ≠ it := by
      rintro rfl
      obtain ⟨o1, g1, c1, _⟩ := p
      obtain ⟨o2, g2, c2, _⟩ := hit
      rw [g1] at g2
      cases g2
      rw [c1] at c2
      injection c2 with c3
      exact absurd c3 (by decide)
    have hea : e ∉ [it, a] := by
      intro z
      rcases List.mem_cons.mp z with z | z
      · exact hne z
      · rw [List.mem_singleton.mp z] at he
        obtain ⟨o1, g1, c1, _⟩ := p
        rw [he] at g1
        cases g1
        injection c1 with c3
        exact absurd c3 (by decide)
    have hlt : i < its.toArray.size := by
      have hl := (List.getElem?_eq_some_iff.mp hu).1
      simpa using hl
    refine wpAny_pyNext_enum_itemD (Draws.tuple (A := X.A.in1) (I.ok.hd hc) it a hta its.toArray) he ⟨hit, p⟩ hlt hne hea fun y h' tk hy ho hst hT hsz hk => ?_
    have ey : y = u := by
      have h1 : its.toArray[i]? = some u := by simpa using hu
      exact Option.some.inj (hy.symm.trans h1)
    subst ey
    refine ⟨_, rfl, wpAny_letOwnedTupleGo_enum (s := { s with heap := h', toks := tk + 1 }) ho fun h'' he' sb => ?_⟩
    have hT2 : h''.get? s.heap.objs.size = some { cls := .type "tuple", data := .seq #[.int i tk, y] } := (sb.2 _ (Nat.ne_of_gt lte)).trans hT
    have made : ObjOk X.prog X.w (upd H s.heap.objs.size (.tup [.int (i : Nat), x])) h'' s.heap.objs.size (.tup [.int (i : Nat), x]) := by
      refine ⟨?_, [.int i tk, y], .cons ⟨_, rfl⟩ (.cons ru .nil), ⟨_, hT2, rfl, _, rfl⟩⟩
      rw [sizeLine_eq]
      show 2 ≤ 16777216
      decide
    have stays : forall b ob, b ∉ [e, it] -> s.heap.get? b = some ob -> h''.get? b = some ob := by
      intro b ob hb q
      have nb : b ≠ e ∧ b ≠ it := by
        constructor
        · rintro rfl
          exact hb (by simp)
        · rintro rfl
          exact hb (by simp)
      exact (sb.2 b nb.1).trans (hk b ob nb.1 nb.2 q)
    refine ⟨.ref s.heap.objs.size, _, I.turnedNew (ch := [e, it]) (t' := tk + 1) stays hf (Nat.le_refl _) made, rfl, ⟨_, x, rfl, I.hok.fresh (Nat.le_refl _), rfl, fun ys hy => by rw [I.tuple_inj hy hq]; exact hx⟩, ⟨⟨y, ?_⟩, hst.1.at fun o q => (sb.2 it (Ne.symm hne)).trans q, hne⟩, fun b hb => ?_⟩
    · rw [show ((i + 1 : Nat) : Int) = (i : Int) + 1 from by omega]
      exact he'
    · have lb : b < s.heap.objs.size := by
        rcases List.mem_cons.mp hb with z | z
        · rw [z]
          exact lte
        · rw [List.mem_singleton.mp z]
          exact lti
      exact (upd_ne (Nat.ne_of_lt lb)).trans (hf b hb).1
  done := by
    intro X eP ew eK hc i pins s σ H E I hf st hg
    subst eP ew eK
    obtain ⟨⟨old, he⟩, hit, hne⟩ := st
    obtain ⟨xs, hq, hx⟩ := hg
    obtain ⟨its, rv, p, hz⟩ := I.tuple hq
    obtain ⟨f0, f1, f2, f3, f4, f5⟩ := hf it (by simp)
    have hta : a ≠ it := by
      rintro rfl
      obtain ⟨o1, g1, c1, _⟩ := p
      obtain ⟨o2, g2, c2, _⟩ := hit
      rw [g1] at g2
      cases g2
      rw [c1] at c2
      injection c2 with c3
      exact absurd c3 (by decide)
    have hn : its.toArray.size = i := by
      rw [List.size_toArray, ← rv.length]
      exact hx
    subst hn
    exact wpAny_pyNext_enum_endD (Draws.tuple (A := X.A.in1) (I.ok.hd hc) it a hta its.toArray) he ⟨hit, p⟩ fun h' eb => ⟨rfl, I.turned (t' := s.toks) (fun b o hb q => eb b o hb q) f0 f1 f3 f4 f5⟩
  self := fun A i s Q E st h => by
    obtain ⟨⟨_, he⟩, _⟩ := st
    exact wpAny_pyIter_enum he h
def iEnumU (K : PySem.W.Frag) (ta : TA) : TI := fun σ H R => iEnum K ta σ H R ∨ ta σ H fun vs H1 => exists a xs, vs = [.ref a] ∧ SqT K H1 a xs ∧ R (IteT K a) H1
theorem pi_enumU {X : Cx} {e : Expr} {ta : TA} {p pos tpos : Pos} {elts : List Expr} {kk : Nat} (hg : Gl X "enumerate") (hm : X.mg "enumerate" = none) (ha : PA X [e] ta) (hs : starEach [e] X.env = [(false, eval e X.env)] := by rfl) :
    PI X (.Tuple elts kk tpos) (.Call (.Name "enumerate" p) [e] [] pos) (iEnumU X.K ta) := by
  have lists := pi_enum (tpos := tpos) (elts := elts) (kk := kk) (p := p) (pos := pos) hg hm ha hs
  refine ⟨fun pins s σ H R I h => ?_⟩
  rcases h with h | h
  · exact lists.run pins s σ H R I h
  · refine Call_ (ld_blt I hg hm boot_enumerate (PyProof.Rows.callWith_type1 (thn (ha.run pos pins s σ H _ I h) fun us s1 ⟨vs, H1, I1, r1, q1⟩ => ?_) hs rfl))
    obtain ⟨a, xs, ex, hq, q⟩ := q1
    subst ex
    obtain ⟨u, eu, r⟩ := vals1 r1
    subst eu
    cases r
    obtain ⟨its, rv, p', hz⟩ := I1.tuple hq
    have tup : s1.heap.IsTuple a its.toArray := p'
    refine call_enum1 (begins_tuple a its.toArray) tup fun h' he hit hk => wpAny_pyIter_enum he ?_
    have I2 : Inv X pins σ H1 { s1 with heap := h' } := I1.kept (t' := s1.toks) hk
    refine ⟨s1.heap.objs.size + 1, [s1.heap.objs.size + 1, s1.heap.objs.size], _, _, H1, rfl, I2, turn_enumT a (s1.heap.objs.size + 1) s1.heap.objs.size, ⟨⟨.none, he⟩, ⟨_, hit, rfl, rfl⟩, Nat.succ_ne_self _⟩, fun b hb => ?_, q⟩
    have hle : s1.heap.objs.size ≤ b := by
      rcases List.mem_cons.mp hb with z | z
      · rw [z]
        exact Nat.le_succ _
      · rw [List.mem_singleton.mp z]
        exact Nat.le_refl _
    exact I1.fpOk hle (I1.hok.fresh hle)
end Ak
/-! Ak 11: the words' readings as data. -/
namespace Ak
open PySem PySem.Spec PyProof.Rows L2

section
variable {K : PySem.W.Frag} {M : MK} {s : L2.St} {H : Hp} {ta tb tc te : TE} {tr : TA} {ds es : List D} {d e z : D} {E : Ends}
/-! ### enumerate, zip -/
theorem ei_enumU {tr : TA} (h : EvDs M tr s H [d]) (hi : d = .lst ds ∨ d = .tup ds) : EvI M (iEnumU K tr) s H (enumD ds) := fun H1 e R k => by
  rcases hi with hi | hi
  · subst hi
    exact .inl (ei_enum h H1 e R k)
  · subst hi
    refine .inr (h H1 e _ fun vs H2 e2 r => ?_)
    obtain ⟨x, xs, ev, rx, r0⟩ := r
    have e4 : xs = [] := r0
    obtain ⟨a, ys, ea, ha, rs⟩ := rx
    have ha2 := msk_same _ _ ha
    subst e4 ea
    refine ⟨a, ys, ev, SqT.of ha2, k _ H2 e2 ⟨fun i H f hi => ?_, fun H f => ?_, fun i H x H' N f m hn hi y => ?_⟩⟩
    · rw [enumD_len] at hi
      have hl : i < ys.length := by rw [rs.len]; exact hi
      exact ⟨ys, ys[i], SqT.of (f.tup ha), by simp [hl]⟩
    · rw [enumD_len]
      exact ⟨ys, SqT.of (f.tup ha), rs.len⟩
    · obtain ⟨T, z, e5, hT, e6, hz⟩ := y
      subst e5 e6
      obtain ⟨d, h1, h2⟩ := rs.get (hz ys (SqT.of (f.tup ha)))
      exact ⟨same_new hT, _, enumD_at h1, rep_new2 m hT rfl (h2.fx (f.msk hn))⟩
theorem ia_seq (h : EvD M te s H d) (hi : d = .lst ds ∨ d = .tup ds) : EvI M (iAny K te) s H ds := by
  rcases hi with rfl | rfl
  · exact ia_list h
  · exact ia_tup h
/-- pairs, one behind the other -/
def zipD (ds es : List D) : List D := (ds.zip es).map fun p => .tup [p.1, p.2]
theorem zipD_at {i : Nat} {a b : D} (h1 : ds[i]? = some a) (h2 : es[i]? = some b) : (zipD ds es)[i]? = some (.tup [a, b]) := by
  unfold zipD
  have h : (ds.zip es)[i]? = some (a, b) := List.getElem?_zip_eq_some.mpr ⟨h1, h2⟩
  rw [List.getElem?_map, h] <;> rfl
theorem zipD_len : (zipD ds es).length = min ds.length es.length := by unfold zipD; rw [List.length_map, List.length_zip]
/-- a tuple, and a written one -/
theorem ei_zipK {b : Addr} {ys : List V} (h : EvDs M tr s H [.tup ds, .oth (.ref b)]) (hb : forall G, SqT K G b ys) (hy : forall G, Reps G es ys) (hl : ds.length = es.length) : EvI M (RZ.iZipA K tr) s H (zipD ds es) := fun H1 e R k => h H1 e _ fun vs H2 e2 r => by
  obtain ⟨x, xs, ev, rx, x2, xs2, ev2, rx2, r0⟩ := r
  have e4 : xs2 = [] := r0
  have e5 : x2 = V.ref b := rx2
  obtain ⟨a, zs, ea, ha, rs⟩ := rx
  have ha2 := msk_same _ _ ha
  subst e4 ea e5 ev2
  have hyl : ys.length = es.length := (hy H2).len
  have hlen : (zipD ds es).length = zs.length := by
    rw [zipD_len, rs.len, hl]
    omega
  refine ⟨a, b, zs, ys, ev, .inr ⟨SqT.of ha2, hb _, k _ H2 e2 ⟨fun i H f hi => ?_, fun H f => ?_, fun i H x H' N f m hn hi y => ?_⟩⟩⟩
  · rw [hlen] at hi
    have hi2 : i < ys.length := by rw [hyl, ← hl, ← rs.len]; exact hi
    exact ⟨zs, ys, zs[i], ys[i], SqT.of (f.tup ha), hb _, by simp [hi], by simp [hi2]⟩
  · exact ⟨zs, ys, SqT.of (f.tup ha), hb _, .inl (by rw [hlen]; exact Nat.le_refl _)⟩
  · obtain ⟨T, p, q, e5, hT, e6, h1, h2⟩ := y
    subst e5 e6
    obtain ⟨d1, g1, g2⟩ := rs.get (h1 zs (SqT.of (f.tup ha)))
    obtain ⟨d2, g3, g4⟩ := (hy (msk N H)).get (h2 ys (hb _))
    exact ⟨same_new hT, _, zipD_at g1 g3, rep_new2 m hT (g2.fx (f.msk hn)) g4⟩
/-! ### a class's own constant -/
theorem ev_con {C : Addr} {f : Str} {fs : List (Str × D)} {v : V} {u : Value} (h : EvD M ta s H (.ins C fs)) (c : Cls K C) (k : Con K C f v u) (l : fs.lookup f = none) : EvD M (tCon K ta f) s H (.oth v) := fun H1 e1 Q q =>
  h H1 e1 _ fun x H2 e2 r => by
    obtain ⟨a, dx, vs, ev, ha, rf⟩ := r
    exact ⟨a, C, dx, vs, v, u, ev, msk_same _ _ ha, c, k, rf.none l, q v H2 e2 rfl⟩
/-! ### displays with a star -/
theorem ea_star {tr : TA} (h : EvD M te s H d) (hd : d = .lst ds ∨ d = .tup ds) (hr : EvDs M tr s H es) : EvDs M (StX.tStar K te tr) s H (ds ++ es) := fun H1 e1 Q q =>
  h H1 e1 _ fun x H2 e2 rx => by
    have key : exists p xs, x = V.ref p ∧ (SqT K H2 p xs ∨ SqL K H2 p xs) ∧ Reps (msk M H2) ds xs := by
      rcases hd with hd | hd
      · subst hd
        obtain ⟨a, xs, ea, ha, rs⟩ := rx
        exact ⟨a, xs, ea, .inr (SqL.of (msk_same _ _ ha)), rs⟩
      · subst hd
        obtain ⟨a, xs, ea, ha, rs⟩ := rx
        exact ⟨a, xs, ea, .inl (SqT.of (msk_same _ _ ha)), rs⟩
    obtain ⟨p, xs, ex, hq, rs⟩ := key
    exact ⟨p, xs, ex, hq, hr H2 (e1.trans e2) _ fun ys H3 e3 rr => q (xs ++ ys) H3 (e2.trans e3) (Reps.app (rs.up (msk_mono e3)) rr)⟩
/-! ### displays of any number -/
theorem ev_tupB {tr : TA} (m : Mok M H) (h : EvDs M tr s H ds) (hz : ds.length ≤ sizeLine) : EvD M (tTup tr) s H (.tup ds) := fun H1 e1 Q q =>
  h H1 e1 _ fun xs H2 e2 rs => ⟨by rw [rs.len]; exact hz, fun p hp => q (.ref p) _ (e2.trans (same_new hp)) ⟨p, xs, rfl, msk_new ((m.up e1).up e2) hp, rs.up (msk_mono (same_new hp))⟩⟩
/-! ### list(range(n)) -/
theorem rgV_reps {G : Hp} (a b : Int) : Reps G (rngD a (b - a).toNat) (rgV a b) := by
  have go : forall (l : List Nat), Reps G (l.map fun (i : Nat) => D.int (a + (i : Int))) (l.map fun (i : Nat) => V.int (a + (i : Int))) := by
    intro l
    induction l with
    | nil => exact rfl
    | cons i l ih => exact ⟨_, _, rfl, rfl, ih⟩
  exact go _
theorem ev_lrg {n : Int} (m : Mok M H) (h : EvD M te s H (.int n)) (h0 : 0 ≤ n) (h1 : n ≤ 16777216) : EvD M (tLstRg (tRg1 te)) s H (.lst (rngD 0 n.toNat)) := fun H1 e1 Q q =>
  h H1 e1 _ fun x H2 e2 rx => ⟨n, rx, RgOk.of_le (by omega) h1 (by omega) h0, fun p hp => q _ _ (e2.trans (same_new hp)) ⟨p, _, rfl, msk_new ((m.up e1).up e2) hp, by
    have r := rgV_reps (G := msk M (upd H2 p (.lst (rgV 0 n)))) 0 n
    rw [show (n - 0) = n from by omega] at r
    exact r⟩⟩
/-! ### slices -/
theorem ev_sl {tl th : TO} {lo hi : Option Int} (m : Mok M H) (h : EvD M te s H (.lst ds)) (hl : forall H1, Same H H1 -> forall Q : Option Int -> Hp -> Prop, (forall H2, Same H1 H2 -> Q lo H2) -> tl s H1 Q) (hh : forall H1, Same H H1 -> forall Q : Option Int -> Hp -> Prop, (forall H2, Same H1 H2 -> Q hi H2) -> th s H1 Q) :
    EvD M (tSl (rSlL K) te tl th) s H (.lst (cutD ds lo hi)) := fun H1 e1 Q q => h H1 e1 _ fun x H2 e2 rx => hl H2 (e1.trans e2) _ fun H3 e3 => hh H3 ((e1.trans e2).trans e3) _ fun H4 e4 => by
  obtain ⟨a, xs, ea, ha, rs⟩ := rx
  have e24 := e3.trans e4
  refine ⟨a, xs, ea, SqL.of (e24 _ _ (msk_same _ _ ha)), fun p hp => q _ _ ((e2.trans e24).trans (same_new hp)) ⟨p, _, rfl, msk_new (m.up (((e1.trans e2).trans e3).trans e4)) hp, ?_⟩⟩
  exact Reps.cutV (rs.up (msk_mono (e24.trans (same_new hp)))) lo hi
theorem eo_none : forall H1, Same H H1 -> forall Q : Option Int -> Hp -> Prop, (forall H2, Same H1 H2 -> Q none H2) -> tNoPart s H1 Q := fun H1 _ Q q => q H1 (Same.refl H1)
theorem eo_some {i : Int} (h : EvD M te s H (.int i)) : forall H1, Same H H1 -> forall Q : Option Int -> Hp -> Prop, (forall H2, Same H1 H2 -> Q (some i) H2) -> tPart te s H1 Q := fun H1 e Q q => h H1 e _ fun x H2 e2 rx => ⟨i, rx, q H2 e2⟩
theorem ev_rev (m : Mok M H) (h : EvD M te s H (.lst ds)) : EvD M (tRevL K te) s H (.lst ds.reverse) := fun H1 e1 Q q => h H1 e1 _ fun x H2 e2 rx => by
  obtain ⟨a, xs, ea, ha, rs⟩ := rx
  refine ⟨a, xs, ea, SqL.of (msk_same _ _ ha), fun p hp => q _ _ (e2.trans (same_new hp)) ⟨p, _, rfl, msk_new ((m.up e1).up e2) hp, ?_⟩⟩
  have go : forall {G : Hp} {ds : List D} {xs : List V}, Reps G ds xs -> Reps G ds.reverse xs.reverse := by
    intro G ds
    induction ds with
    | nil => intro xs h; rw [show xs = [] from h]; exact rfl
    | cons d ds ih =>
      rintro xs ⟨x, ys, e, h, r⟩
      rw [e, List.reverse_cons, List.reverse_cons]
      exact Reps.app (ih r) (Reps.one h)
  exact go (rs.up (msk_mono (same_new hp)))
/-! ### chains of comparisons of whole numbers -/
theorem ev_chain {r r' : R2} {a b : Bool} (ha : EvD M ta s H d) (hb : EvD M tb s H e) (hc : a = true -> EvD M tc s H z) (h1 : RD M r H d e (.bl a)) (h2 : a = true -> RD M r' H e z (.bl b)) (h3 : a = false -> b = false) : EvD M (tChain r r' ta tb tc) s H (.bl b) := fun H1 e1 Q q =>
  ha H1 e1 _ fun x H2 e2 rx => hb H2 (e1.trans e2) _ fun y H3 e3 ry => h1 x y H3 ((e1.trans e2).trans e3) (rx.up (msk_mono e3)) ry _ fun v H4 e4 rv => ⟨a, rv, by
    cases a with
    | true => exact iteT (hc rfl H4 (((e1.trans e2).trans e3).trans e4) _ fun w H5 e5 rw' => h2 rfl y w H5 ((((e1.trans e2).trans e3).trans e4).trans e5) (ry.up (msk_mono (e4.trans e5))) rw' Q fun u H6 e6 ru => q u H6 ((((e2.trans e3).trans e4).trans e5).trans e6) ru)
    | false => exact iteF (q _ H4 ((e2.trans e3).trans e4) (by rw [h3 rfl]; rfl))⟩
/-! ### whole numbers -/
theorem rd_lt {i j : Int} : RD M (rI0 fun i j => .bl (decide (i < j))) H (.int i) (.int j) (.bl (decide (i < j))) := rd_I0 fun _ => rfl
theorem rd_le {i j : Int} : RD M (rI0 fun i j => .bl (decide (i ≤ j))) H (.int i) (.int j) (.bl (decide (i ≤ j))) := rd_I0 fun _ => rfl
theorem rd_gt {i j : Int} : RD M (rI0 fun i j => .bl (decide (j < i))) H (.int i) (.int j) (.bl (decide (j < i))) := rd_I0 fun _ => rfl
theorem rd_ge {i j : Int} : RD M (rI0 fun i j => .bl (decide (j ≤ i))) H (.int i) (.int j) (.bl (decide (j ≤ i))) := rd_I0 fun _ => rfl
theorem rd_sub {i j : Int} : RD M (rI0 fun i j => .int (i - j)) H (.int i) (.int j) (.int (i - j)) := rd_I0 fun _ => rfl
theorem rd_mod {i j : Int} (h : 0 < j) : RD M (rI (fun _ j => 0 < j) fun i j => .int (i % j)) H (.int i) (.int j) (.int (i % j)) := rd_I h fun _ => rfl
theorem rd_fdiv {i j : Int} (h : CDivW i j) : RD M (rI CDivW fun i j => .int (i / j)) H (.int i) (.int j) (.int (i / j)) := rd_I h fun _ => rfl
theorem rd_mulW {i j : Int} (h : CMulW i j) : RD M (rI CMulW fun i j => .int (i * j)) H (.int i) (.int j) (.int (i * j)) := rd_I h fun _ => rfl
theorem rd_pow {i j : Int} (h : CPow i j) : RD M (rI CPow fun i j => .int (i ^ j.toNat)) H (.int i) (.int j) (.int (i ^ j.toNat)) := rd_I h fun _ => rfl
theorem ev_neg {i : Int} (h : EvD M te s H (.int i)) : EvD M (tUn (rU fun i => .int (-i)) te) s H (.int (-i)) := fun H1 e1 Q q => h H1 e1 _ fun x H2 e2 rx => ⟨i, rx, q _ H2 e2 rfl⟩
theorem ev_int1 {i : Int} {tr : TA} (h : EvDs M tr s H [.int i]) : EvD M (tCB (fun xs H Q => (exists i, xs = [.int i] ∧ Q (.int i) H) ∨ exists k, xs = [.bl k] ∧ Q (.int (if k then 1 else 0)) H) tr) s H (.int i) := ev_cb h fun vs H1 e1 rs Q q => by
  obtain ⟨x, xs, ev, rx, r0⟩ := rs
  have e4 : xs = [] := r0
  have e5 : x = V.int i := rx
  subst e4 ev e5
  exact .inl ⟨i, rfl, q _ H1 (Same.refl H1) rfl⟩
/-! ### what changes -/
/-- xs.append(e) -/
theorem st_append {i : Nat} {p : Addr} {xs : List V} (hv : s[i]? = some (some (.ref p))) (hp : H p = some (.lst xs)) (hz : xs.length < sizeLine) (he : EvD M te s H d)
    (k : forall y H2, Same H H2 -> Rep (msk M H2) d y -> E.nx s (upd H2 p (.lst (xs ++ [y])))) : tDrop (tBM K "list" rAppend (tVar i) (tCons te tNil)) E s H :=
  ⟨_, hv, .inl ⟨rfl, xs, SqL.of hp⟩, he H (Same.refl H) _ fun y H2 e2 ry => ⟨p, xs, y, rfl, rfl, e2 _ _ hp, hz, k y H2 e2 ry⟩⟩
/-- one = xs.pop() -/
theorem st_pop {i j : Nat} {p : Addr} {xs : List V} {y : V} (hv : s[i]? = some (some (.ref p))) (hp : H p = some (.lst (xs ++ [y]))) (k : E.nx (s.set j (some y)) (upd H p (.lst xs))) : tAsg (tBM0 K "list" rPop (tVar i)) (gName j) E s H := by
  refine ⟨_, hv, .inl ⟨rfl, _, SqL.of hp⟩, p, xs ++ [y], y, rfl, rfl, hp, by simp, ?_⟩
  rw [List.dropLast_concat]
  exact k
/-- d[k] = v, d a dict of one's own -/
theorem st_dput {κ : Type} [DecidableEq κ] (c : KC κ) {i : Nat} {p : Addr} {ws : List (κ × V)} {k : κ} (hv : s[i]? = some (some (.ref p))) (hp : H p = some (c.hk ws)) (hz : ws.length < sizeLine) (hval : EvD M ta s H d) (hk : EvD M tb s H (c.kd k))
    (kk : forall y H2, Same H H2 -> Rep (msk M H2) d y -> E.nx s (upd H2 p (c.hk (putK ws k y)))) : sDPut (tVar i) tb ta E s H :=
  hval H (Same.refl H) _ fun y H2 e2 ry => ⟨_, hv, hk H2 e2 _ fun z H3 e3 rz => ⟨p, _, rfl, c.put (e3 _ _ (e2 _ _ hp)) (rz.up msk_same) hz, kk y H3 (e2.trans e3) (ry.up (msk_mono e3))⟩⟩
end
/-! ### draw[1] += 1 -/
def rGetL (K : PySem.W.Frag) : V -> V -> Hp -> VK -> Prop := fun o i H Q => exists p xs k v, o = .ref p ∧ i = .int k ∧ SqL K H p xs ∧ 0 ≤ k ∧ xs[k.toNat]? = some v ∧ Q v H
theorem pget_list {X : Cx} : PGet X (rGetL X.K) := by
  intro pins s σ H o i ov iv Q I ro ri h
  obtain ⟨p, xs, k, v, eo, ei, hq, h0, hx, q⟩ := h
  subst eo ei
  cases ro
  obtain ⟨t, rfl⟩ := ri
  obtain ⟨its, r, pl, hz⟩ := I.list hq
  obtain ⟨u, hu, ru⟩ := r.get hx
  have hl : k.toNat < its.length := (List.getElem?_eq_some_iff.mp hu).1
  have hlen := r.length
  refine wpAny_getItem_list pl.isList h0 ?_ (by simpa using hu) ⟨v, H, I, ru, q⟩
  rw [sizeLine_eq] at hz
  omega
/-- d.setdefault(y, z) -/
def tDSetU (td ty tx : TE) : TE := fun σ H Q => td σ H fun x H1 => exists a, x = .ref a ∧ IsD H1 a ∧ ty σ H1 fun y H2 => tx σ H2 fun z H3 => exists o, DGet H3 a y o ∧ (forall v, o = some v -> Q v H3) ∧ (o = none -> exists H4, DPut H3 a y z H4 ∧ Q z H4)
section
variable {X : Cx} {pins : List (Addr × Obj)} {σ : L2.St} {H H' : Hp} {s : Shared} {E : Value -> Shared -> Prop}
theorem setd_any {a : Addr} {y z : V} {u r : Value} {o : Option V} {Q : Value -> Shared -> Prop} (hu : X.A.units + 1 < cLine) (I : Inv X pins σ H s) (g : DGet H a y o) (ry : RelV y u) (rz : RelV z r)
    (h1 : forall v, o = some v -> forall w' s', Inv X pins σ H s' -> RelV v w' -> Q w' s') (h2 : o = none -> exists H', DPut H a y z H' ∧ forall w' s', Inv X pins σ H' s' -> RelV z w' -> Q w' s') :
    wpAny (model X.prog X.w) X.A (call (.builtin "dict.setdefault") [.ref a, u, r]) Q E s := by
  rcases g with ⟨kvs, k, e, ey, l⟩ | ⟨kvs, k, b, e, ey, eb, l⟩
  · subst ey l
    by_cases hn : valV kvs k = none
    · obtain ⟨H', hp, hq⟩ := h2 hn
      rcases hp with ⟨kvs', k', e', ey', hl, eH⟩ | ⟨kvs', k', b', e', ey', _, _, _⟩
      · have ek : kvs' = kvs ∧ k' = k := by
          constructor
          · rcases e with e | ⟨ob, e⟩
            · rw [e'] at e
              cases e
              rfl
            · rw [e'] at e
              cases e
          · cases k <;> cases k' <;> cases ey' <;> rfl
        obtain ⟨rfl, rfl⟩ := ek
        subst eH
        exact d_setd I e' ry rz hl (fun v hv => by rw [hn] at hv; cases hv) fun _ w' s' I' rw' => hq w' s' I' rw'
      · exfalso
        cases k <;> cases ey'
    · obtain ⟨v, hv⟩ : exists v, valV kvs k = some v := by
        cases q : valV kvs k with
        | none => exact absurd q hn
        | some v => exact ⟨v, rfl⟩
      obtain ⟨zl, lo, vs, rel, dd⟩ := dk_rd I.hok e
      refine call_meetsIn PySem.F.slot_dict_setdefault dd.typeIs PySem.F.entry_dict_setdefault (PySem.F.args_dict_setdefault_3 _ _ _) (kt_meets_setdefault (mixKind X.prog X.w) a (kV_is ry) lo r) ⟨vs, dd, by rw [← rel.length]; exact zl, fun w hw => ?_, fun hw => ?_⟩
      · have q := rel.val k
        rw [hw, hv] at q
        exact h1 v hv _ _ (I.tok _) q
      · have q := rel.val k
        rw [hw, hv] at q
        exact (show False from q).elim
  · subst ey l
    obtain rfl : u = Value.ref b := ry
    obtain ⟨zl, lo, xs, rel, dd⟩ := dt_rd I.hok e
    have hz : xs.length ≤ sizeLine := by rw [← Paired.length rel]; exact zl
    have rk := rel.val k
    refine call_setdefault_heap (hsz := hz) (tupleKind_room_in1 hu) (key_of I.hok eb) lo dd (fun p hp => ?_) fun hno h' dd' hs => ?_
    · rw [hp] at rk
      cases q : valV kvs k with
      | none =>
        rw [q] at rk
        exact (show False from rk).elim
      | some v =>
        rw [q] at rk
        exact h1 v q _ _ (I.tok _) rk
    · rw [hno] at rk
      cases q : valV kvs k with
      | some v =>
        rw [q] at rk
        exact (show False from rk).elim
      | none =>
        obtain ⟨H', hp, hq⟩ := h2 q
        rcases hp with ⟨kvs', k', e', ey', _, _⟩ | ⟨kvs', k', b', e', ey', eb', hl, eH⟩
        · exfalso
          cases k' <;> cases ey'
        · cases ey'
          have e1 : kvs' = kvs := by
            rcases e with e | ⟨ob, e⟩
            · rw [e'] at e
              cases e
              rfl
            · rw [e'] at e
              cases e
          subst e1
          have e2 : k' = k := by
            rw [eb] at eb'
            have e3 : k.map kV = k'.map kV := by injection (Option.some.inj eb')
            have inj : forall {l m : List Key}, l.map kV = m.map kV -> l = m := by
              intro l
              induction l with
              | nil =>
                intro m h
                cases m with
                | nil => rfl
                | cons _ _ => cases h
              | cons x l ih =>
                intro m h
                cases m with
                | nil => cases h
                | cons y m =>
                  rw [List.map_cons, List.map_cons] at h
                  injection h with h1 h2
                  rw [ih h2]
                  congr 1
                  cases x <;> cases y <;> cases h1 <;> rfl
            exact (inj e3).symm
          subst e2 eH
          have hl2 := length_putK kvs' k' z
          obtain ⟨ob, es, ep, g1, g2, g3, g4, _, g6⟩ := dd'
          have mu : Mut (H a) := by
            rw [e']
            exact True.intro
          exact hq _ _ (d_write I mu hs ⟨ob, g1⟩ ⟨by omega, lo, _, (rel.put k' eb rz).keeps fun c ys ec => (upd_ne (ne_of ec e' fun z => nomatch z)).trans ec, ob, es, ep, g1, g2, g3, g4, g6⟩) rz
theorem pe_dsetU {o e f : Expr} {td ty tx : TE} {apos cpos : Pos} (hu : X.A.units + 1 < cLine) (ho : PE X o td) (he : PE X e ty) (hf : PE X f tx) (m : M2 X o "setdefault" apos e f cpos) : PE X (.Call (.Attribute o "setdefault" apos) [e, f] [] cpos) (tDSetU td ty tx) := by
  refine ⟨fun pins s σ H Q I wish => ?_⟩
  refine wpAny_Call_method m.base m.few m.line PySem.F.plainAttrs_dict PySem.F.slot_dict_setdefault PySem.F.type_dict_setdefault (thn (ho.run pins s σ H _ I wish) fun u s1 got => ?_)
  obtain ⟨x, H1, I1, rx, a, ex, isd, rest⟩ := got
  subst ex
  obtain rfl : u = Value.ref a := rx
  obtain ⟨t1, t2, _⟩ := isD_at I1 isd
  refine ⟨t1, t2, ?_⟩
  rw [m.trees]
  refine Calls.callWith_builtin rfl (Calls.evalArgs_plain (Calls.spliced_cons (thn (he.run pins s1 σ H1 _ I1 rest) fun iv s2 got2 => ?_)))
  obtain ⟨y, H2, I2, ry, rest2⟩ := got2
  refine Calls.spliced_cons (thn (hf.run pins s2 σ H2 _ I2 rest2) fun fv s3 got3 => Calls.spliced_nil ?_)
  obtain ⟨z, H3, I3, rz, ov, g, k1, k2⟩ := got3
  refine setd_any hu I3 g ry rz (fun v ev w' s4 I4 rw' => ⟨v, _, I4, rw', k1 v ev⟩) fun en => ?_
  obtain ⟨H4, hp, q⟩ := k2 en
  exact ⟨H4, hp, fun w' s4 I4 rw' => ⟨z, _, I4, rw', q⟩⟩
end
end Ak
/-! Ak 12: short words for the walks. -/
namespace Ak
open PySem PySem.Spec PyProof.Rows L2

mutual
/-- data of everyday size -/
def D.fi : D -> Bool
  | .non => true
  | .bl _ => true
  | .int _ => true
  | .str x => decide (x.length ≤ 10000)
  | .tup ds => decide (ds.length ≤ 100000) && D.fis ds
  | .lst ds => decide (ds.length ≤ 100000) && D.fis ds
  | _ => false
def D.fis : List D -> Bool
  | [] => true
  | d :: ds => d.fi && D.fis ds
end
theorem kp_updN {M : MK} {H H' : Hp} (k : Kp M H H') {p : Addr} {o : HO} (hn : H p = none) : Kp M H (upd H' p o) := by
  have go : forall {a : Addr} {u : HO}, msk M H a = some u -> a ≠ p := by
    intro a u h e
    rw [e] at h
    have := (msk_of h).2
    rw [hn] at this
    cases this
  have keep : forall {a : Addr} {u v : HO}, msk M H a = some u -> msk M H' a = some v -> msk M (upd H' p o) a = some v := by
    intro a u v h1 h2
    obtain ⟨n1, h3⟩ := msk_of h2
    rw [msk_at n1, upd_ne (go h1)]
    exact h3
  have keepR : forall {a : Addr} {u v : HO}, Rd (msk M H) a u -> Rd (msk M H') a v -> Rd (msk M (upd H' p o)) a v := by
    intro a u v h1 h2
    obtain ⟨u1, g⟩ : exists u1, msk M H a = some u1 := by
      rcases h1 with h1 | ⟨ob, h1⟩
      · exact ⟨_, h1⟩
      · exact ⟨_, h1⟩
    rcases h2 with h2 | ⟨ob, h2⟩
    · exact .inl (keep g h2)
    · exact .inr ⟨ob, keep g h2⟩
  refine ⟨⟨fun h => keep h (k.fx.lst h), fun h => keep h (k.fx.tup h), fun h => keep h (k.fx.ins h), fun h => keepR h (k.fx.rk h), fun h => keepR h (k.fx.rt h)⟩, fun {a od u} e => ?_⟩
  rw [upd_ne (ne_of_none e hn)]
  exact k.fz e
theorem eqv_int (i j : Int) : PyData.eqv (.int i) (.int j) = decide (i = j) := by
  have h : PyData.eqv (.int i) (.int j) = (i == j) := by simp [PyData.eqv]
  rw [h, Bool.beq_eq_decide_eq]
theorem eqv_str (i j : Str) : PyData.eqv (.str i) (.str j) = decide (i = j) := by
  have h : PyData.eqv (.str i) (.str j) = (i == j) := by simp [PyData.eqv]
  rw [h, Bool.beq_eq_decide_eq]
theorem fi_tn {d : D} (h : d.fi = true) : d.tn ≠ "" := by
  cases d <;> first | (exact absurd (show false = true from h) Bool.false_ne_true) | (simp [D.tn])
theorem fi_dT {d : D} (h : d.fi = true) : forall kvs, d ≠ .dT kvs := by
  rintro kvs rfl
  cases (show false = true from h)
theorem fi_str {x : Str} (h : (D.str x).fi = true) : x.length ≤ 10000 := of_decide_eq_true (show decide (x.length ≤ 10000) = true from h)
theorem fi_strL {x : Str} (h : (D.str x).fi = true) : x.length ≤ sizeLine := by
  have := fi_str h
  rw [sizeLine_eq]
  omega
theorem fi_tup {ds : List D} (h : (D.tup ds).fi = true) : ds.length ≤ 100000 ∧ D.fis ds = true := by
  have h' : (decide (ds.length ≤ 100000) && D.fis ds) = true := h
  rw [Bool.and_eq_true, decide_eq_true_eq] at h'
  exact h'
theorem fi_lst {ds : List D} (h : (D.lst ds).fi = true) : ds.length ≤ 100000 ∧ D.fis ds = true := by
  have h' : (decide (ds.length ≤ 100000) && D.fis ds) = true := h
  rw [Bool.and_eq_true, decide_eq_true_eq] at h'
  exact h'
theorem fis_all : forall {ds : List D}, D.fis ds = true <-> forall d, d ∈ ds -> d.fi = true
  | [] => ⟨fun _ _ h => (by cases h), fun _ => rfl⟩
  | d :: ds => by
    show (d.fi && D.fis ds) = true <-> _
    rw [Bool.and_eq_true, fis_all (ds := ds)]
    exact ⟨fun h e he => (List.mem_cons.mp he).elim (fun z => z ▸ h.1) (h.2 e), fun h => ⟨h d List.mem_cons_self, fun e he => h e (List.mem_cons_of_mem _ he)⟩⟩
section
variable {X : Cx}
def rMulX : R2 := fun x y H Q => rI CMul (fun i j => .int (i * j)) x y H Q ∨ rI CMulW (fun i j => .int (i * j)) x y H Q ∨ rRep x y H Q
theorem op_mulX : OpR X (binaryOp .Mult) rMulX := op_mul.or (op_mulW.or op_rep)
end
section
variable {K : PySem.W.Frag} {M : MK} {s : L2.St} {H : Hp} {te : TE} {tr : TA} {ds : List D} {d e z : D} {E : Ends} {b : Bool}
theorem rd_mulC {i j : Int} (h : CMul i j) : RD M rMulX H (.int i) (.int j) (.int (i * j)) := fun v w H1 e1 rx ry Q q => .inl (rd_I (g := fun i j => .int (i * j)) (z := .int (i * j)) h (fun _ => rfl) v w H1 e1 rx ry Q q)
theorem rd_mulN {k : Int} (m : Mok M H) (h1 : -(2 ^ 63) ≤ k) (h2 : k < 2 ^ 63) (hz : ds.length * k.toNat ≤ sizeLine) : RD M rMulX H (.lst ds) (.int k) (.lst (List.replicate k.toNat ds).flatten) := fun v w H1 e1 rx ry Q q => .inr (.inr (rd_rep m h1 h2 hz v w H1 e1 rx ry Q q))
theorem Reps.one_of {G : Hp} {d : D} {vs : List V} (h : Reps G [d] vs) : exists v, vs = [v] ∧ Rep G d v := by
  obtain ⟨x, xs, e, r, r0⟩ := h
  have e2 : xs = [] := r0
  rw [e2] at e
  exact ⟨x, e, r⟩
theorem Reps.two_of {G : Hp} {d e : D} {vs : List V} (h : Reps G [d, e] vs) : exists v w, vs = [v, w] ∧ Rep G d v ∧ Rep G e w := by
  obtain ⟨x, xs, e1, r, r0⟩ := h
  obtain ⟨w, e2, r2⟩ := r0.one_of
  rw [e2] at e1
  exact ⟨x, w, e1, r, r2⟩
theorem Reps.three_of {G : Hp} {d e f : D} {vs : List V} (h : Reps G [d, e, f] vs) : exists v w u, vs = [v, w, u] ∧ Rep G d v ∧ Rep G e w ∧ Rep G f u := by
  obtain ⟨x, xs, e1, r, r0⟩ := h
  obtain ⟨w, u, e2, r2, r3⟩ := r0.two_of
  rw [e2] at e1
  exact ⟨x, w, u, e1, r, r2, r3⟩
/-- return e -/
theorem st_retD {Q : VK} (h : EvD M te s H d) (k : forall v H2, Same H H2 -> Rep (msk M H2) d v -> Q v H2) (hE : E.rt = Q) : tRet te E s H := by
  subst hE
  exact st_ret h k
theorem Rep.to {G : Hp} {v : V} (r : Rep G d v) (e : d = z) : Rep G z v := by
  subst e
  exact r
theorem st_seq {t u : TS} (h : t { E with nx := u E } s H) : tSeq t u E s H := h
theorem ev_chainLe {ta tb tc : TE} {i j k : Int} (ha : EvD M ta s H (.int i)) (hb : EvD M tb s H (.int j)) (hc : EvD M tc s H (.int k)) : EvD M (tChain (rI0 fun i j => .bl (decide (i ≤ j))) (rI0 fun i j => .bl (decide (i ≤ j))) ta tb tc) s H (.bl (decide (i ≤ j) && decide (j ≤ k))) :=
  ev_chain (a := decide (i ≤ j)) ha hb (fun _ => hc) rd_le (fun h => by rw [h, Bool.true_and]; exact rd_le) fun h => by rw [h, Bool.false_and]
theorem et_or2 {t u : TT} {a b : Bool} (h1 : EvT t s H a) (h2 : EvT u s H b) : EvT (tOr t u) s H (a || b) := et_or h1 fun _ => h2
theorem et_orT {t u : TT} (h1 : EvT t s H true) : EvT (tOr t u) s H true := et_or (b := true) h1 fun h => nomatch h
theorem et_orF {t u : TT} {b : Bool} (h1 : EvT t s H false) (h2 : EvT u s H b) : EvT (tOr t u) s H b := et_or h1 fun _ => h2
theorem et_andF {t u : TT} (h1 : EvT t s H false) : EvT (tAnd t u) s H false := et_and (b := false) h1 fun h => nomatch h
theorem et_andT {t u : TT} {b : Bool} (h1 : EvT t s H true) (h2 : EvT u s H b) : EvT (tAnd t u) s H b := et_and h1 fun _ => h2
theorem st_ifT {t : TT} {ts us : TS} (h : EvT t s H true) (k : forall H2, Same H H2 -> ts E s H2) : tIfS t ts us E s H := st_if h (fun _ => k) fun h => nomatch h
theorem st_ifF {t : TT} {ts us : TS} (h : EvT t s H false) (k : forall H2, Same H H2 -> us E s H2) : tIfS t ts us E s H := st_if h (fun h => nomatch h) fun _ => k
theorem ev_cbl {b : Bool} : EvD M (tC (.bl b)) s H (.bl b) := ev_c fun _ => rfl
theorem ev_ty {n : String} : EvD M (tC (.ty n)) s H (.oth (.ty n)) := ev_c fun _ => rfl
theorem et_ev {t : TT} {b c : Bool} (h : EvT t s H b) (e : b = c) : EvT t s H c := by
  subst e
  exact h
end
end Ak
/-! Ak 13: an object that is being made. -/
namespace Ak
open PySem PySem.Spec PyProof.Rows L2
section
variable {K : PySem.W.Frag} {M : MK} {s : L2.St} {H : Hp} {te : TE} {tr : TA} {ds : List D} {d e z : D} {E : Ends} {x C dx : Addr} {vs : List (Str × V)} {f : Str} {i : Nat}
/-- self.f, self masked -/
theorem ev_fldR {y : V} (hv : s[i]? = some (some (.ref x))) (hx : H x = some (.ins C dx vs)) (c : Cls K C) (n : NoAttr K C f) (l : vs.lookup f = some y) (ry : Rep (msk M H) d y) : EvD M (tFld K (tVar i) f) s H d := fun H1 e1 Q q =>
  ⟨.ref x, hv, x, C, dx, vs, y, rfl, e1 _ _ hx, c, n, l, q y H1 (Same.refl H1) (ry.up (msk_mono e1))⟩
theorem ev_conR {v : V} {u : Value} (hv : s[i]? = some (some (.ref x))) (hx : H x = some (.ins C dx vs)) (c : Cls K C) (k : Con K C f v u) (l : vs.lookup f = none) : EvD M (tCon K (tVar i) f) s H (.oth v) := fun H1 e1 Q q =>
  ⟨.ref x, hv, x, C, dx, vs, v, u, rfl, e1 _ _ hx, c, k, l, q v H1 (Same.refl H1) rfl⟩
/-- self.f = e -/
theorem st_fldR (hv : s[i]? = some (some (.ref x))) (hx : H x = some (.ins C dx vs)) (c : Cls K C) (n : NoAttr K C f) (hl : vs.length < 1000) (he : EvD M te s H d)
    (k : forall y H2, Same H H2 -> Rep (msk M H2) d y -> E.nx s (upd H2 x (.ins C dx (putF f y vs)))) : sFld K (tVar i) te f E s H :=
  he H (Same.refl H) _ fun y H2 e2 ry => ⟨.ref x, hv, x, C, dx, vs, rfl, e2 _ _ hx, c, n, hl, k y H2 e2 ry⟩
/-- o.m(..) that raises -/
theorem tm_raise {nm : Str} {R : List D -> D -> Prop} {X : List D -> Addr -> List (Str × D) -> Prop} {fs : List (Str × D)} {to : TE} {EX : XK} {Q : VK} {C' : Addr} {gs : List (Str × D)} (m : Mok M H) (ho : EvD M to s H (.ins C fs)) (hl : fs.lookup nm = none) (h : EvDs M tr s H ds) (hX : X (.ins C fs :: ds) C' gs)
    (k : forall dy ws H', Same H H' -> H dy = none -> H' dy = some (.xd ws) -> RepF (msk M H') gs ws -> EX (.ref C') (some dy) H') : tMeth C nm (SpE R X) [] EX to tr s H Q :=
  ho H (Same.refl H) _ fun v H2 e2 r => by
    obtain ⟨a, dx, vs, ev, ha, rf⟩ := id r
    refine ⟨a, dx, vs, ev, msk_same _ _ ha, rf.none hl, h H2 e2 _ fun ws H3 e3 rs => ?_⟩
    exact ⟨M, .ins C fs :: ds, (m.up e2).up e3, ⟨v, ws, by rw [List.append_nil], r.up (msk_mono e3), rs⟩, .inr ⟨C', gs, hX, fun dy ws' H' e4 hn hy rf' => k dy ws' H' ((e2.trans e3).trans e4) ((e2.trans e3).free hn) hy rf'⟩⟩
/-- what stands apart from x stands -/
def SameX (x : Addr) (H H' : Hp) : Prop := forall a o, a ≠ x -> H a = some o -> H' a = some o
theorem SameX.of {H H' : Hp} (e : Same H H') : SameX x H H' := fun a o _ h => e a o h
theorem SameX.trans {H H1 H2 : Hp} (a : SameX x H H1) (b : SameX x H1 H2) : SameX x H H2 := fun c o n h => b c o n (a c o n h)
theorem SameX.upd {H H' : Hp} (a : SameX x H H') {o : HO} : SameX x H (upd H' x o) := fun c u n h => (upd_ne n).trans (a c u n h)
theorem SameX.free {H H' : Hp} (a : SameX x H H') {p : Addr} (hx : H' x ≠ none) (h : H' p = none) : H p = none := by
  cases q : H p with
  | none => rfl
  | some o =>
    have n : p ≠ x := by
      rintro rfl
      exact hx h
    rw [a p o n q] at h
    cases h
end
end Ak
/-! Ak 14: the order of data. -/
namespace Ak
open PySem PySem.Spec PyProof.Rows L2
abbrev toks (d : D) : List (Int ⊕ List Nat) := PySem.W.keyToks d.py
theorem leD_eq (a b : D) : leD a b = !PyProof.Rows.lexLt PyProof.Rows.itemOrd (toks b) (toks a) := rfl
theorem leD_trans (a b c : D) (h1 : leD a b = true) (h2 : leD b c = true) : leD a c = true := by
  rw [leD_eq] at h1 h2 ⊢
  cases h : PyProof.Rows.lexLt PyProof.Rows.itemOrd (toks c) (toks a) with
  | false => rfl
  | true =>
    rcases PyProof.Rows.lex_negTrans (O := PyProof.Rows.itemOrd) (toks c) (toks b) (toks a) h with z | z
    · rw [z] at h2
      cases h2
    · rw [z] at h1
      cases h1
theorem leD_total (a b : D) : (leD a b || leD b a) = true := by
  rw [leD_eq, leD_eq]
  cases h1 : PyProof.Rows.lexLt PyProof.Rows.itemOrd (toks b) (toks a) with
  | false => rfl
  | true =>
    cases h2 : PyProof.Rows.lexLt PyProof.Rows.itemOrd (toks a) (toks b) with
    | false => rfl
    | true =>
      have h3 := PyProof.Rows.lex_trans (O := PyProof.Rows.itemOrd) _ _ _ h1 h2
      rw [PyProof.Rows.lex_irrefl] at h3
      cases h3
theorem leD_anti {a b : D} (h1 : leD a b = true) (h2 : leD b a = true) : toks a = toks b := by
  rw [leD_eq] at h1 h2
  exact PyProof.Rows.lex_total (O := PyProof.Rows.itemOrd) _ _ (by simpa using h2) (by simpa using h1)
theorem sortD_pw (l : List D) : (sortD l).Pairwise fun a b => leD a b = true := List.pairwise_mergeSort leD_trans leD_total l
theorem sortD_eq {l1 l2 : List D} (inj : forall a b, a ∈ l1 -> b ∈ l1 -> toks a = toks b -> a = b) (p : l1.Perm l2) : sortD l1 = sortD l2 := by
  refine List.Perm.eq_of_pairwise (le := fun a b => leD a b = true) (fun a b ha hb h1 h2 => inj a b ((sortD_perm l1).mem_iff.mp ha) (p.mem_iff.mpr ((sortD_perm l2).mem_iff.mp hb)) (leD_anti h1 h2)) (sortD_pw l1) (sortD_pw l2) ?_
  exact (sortD_perm l1).trans (p.trans (sortD_perm l2).symm)
theorem sortD_of {l : List D} (h : l.Pairwise fun a b => leD a b = true) : sortD l = l := List.mergeSort_of_pairwise h
theorem toks_int {i j : Int} (h : toks (.int i) = toks (.int j)) : D.int i = .int j := by
  injection h with h _
  injection h with h
  rw [h]
theorem toks_str {i j : Str} (h : toks (.str i) = toks (.str j)) : D.str i = .str j := by
  injection h with h _
  injection h with h
  have e : i = j := by
    obtain ⟨a⟩ := i
    obtain ⟨b⟩ := j
    have : a = b := by
      cases a
      cases b
      exact congrArg Array.mk h
    rw [this]
  rw [e]
theorem leD_int (i j : Int) : leD (.int i) (.int j) = decide (i ≤ j) := congrFun (congrFun (PySem.W.dataLe_int (β := Int) fun i => i) i) j
theorem canSort_ints (l : List Int) : CanSort (l.map .int) where
  alike := by
    rw [List.map_map]
    exact PySem.W.AllAlike.of (enc := fun i => (D.int i).py) fun a b => rfl
  kind := by
    rw [List.map_map]
    refine PySem.W.Sortable.others (enc := fun i => (D.int i).py) ?_
    intro b
    exact ⟨(fun e => nomatch e), fun ys e => nomatch e⟩
  ok := fun d hd => by
    obtain ⟨a, _, rfl⟩ := List.mem_map.mp hd
    rfl
theorem canSort_strs (l : List Str) : CanSort (l.map .str) where
  alike := by
    rw [List.map_map]
    exact PySem.W.AllAlike.of (enc := fun i => (D.str i).py) fun a b => rfl
  kind := by
    rw [List.map_map]
    refine PySem.W.Sortable.others (enc := fun i => (D.str i).py) ?_
    intro b
    exact ⟨(fun e => nomatch e), fun ys e => nomatch e⟩
  ok := fun d hd => by
    obtain ⟨a, _, rfl⟩ := List.mem_map.mp hd
    rfl
theorem depth_ints : forall l : List Int, PyData.depthAll (D.pys (l.map .int)) ≤ 3
  | [] => by simp [D.pys, PyData.depthAll]
  | i :: l => by
    have := depth_ints l
    simp [D.pys, D.py, PyData.depthAll, PyData.depth] at this ⊢
    omega
theorem pls_ints : forall l : List Int, D.pls (l.map .int) = true
  | [] => rfl
  | _ :: l => pls_ints l
theorem ok_ints (l : List Int) : (D.lst (l.map .int)).ok = true := by
  have h1 := depth_ints l
  unfold D.ok
  rw [Bool.and_eq_true, decide_eq_true_eq]
  refine ⟨pls_ints l, ?_⟩
  show PyData.depth (.list (D.pys (l.map .int))) ≤ 40
  simp only [PyData.depth]
  omega
/-- whole numbers, sorted -/
def sortI (l : List Int) : List Int := l.mergeSort fun a b => decide (a ≤ b)
theorem sortD_ints (l : List Int) : sortD (l.map .int) = (sortI l).map .int := (List.map_mergeSort (r := fun a b => decide (a ≤ b)) (s := leD) (f := D.int) fun a _ b _ => (leD_int a b).symm).symm
theorem sortI_perm (l : List Int) : (sortI l).Perm l := List.mergeSort_perm l _
theorem sortI_eq {l1 l2 : List Int} (p : l1.Perm l2) : sortI l1 = sortI l2 := by
  have h := sortD_eq (l1 := l1.map .int) (l2 := l2.map .int) (fun a b ha hb => by
    obtain ⟨i, _, rfl⟩ := List.mem_map.mp ha
    obtain ⟨j, _, rfl⟩ := List.mem_map.mp hb
    exact toks_int) (p.map _)
  rw [sortD_ints, sortD_ints] at h
  exact (List.map_inj_right fun a b h => by injection h).mp h
theorem nodup_perm {α : Type} {l1 l2 : List α} (h1 : l1.Nodup) (h2 : l2.Nodup) (h : forall x, x ∈ l1 <-> x ∈ l2) : l1.Perm l2 := by
  induction l1 generalizing l2 with
  | nil =>
    cases l2 with
    | nil => exact .nil
    | cons y l => exact absurd ((h y).mpr List.mem_cons_self) (by simp)
  | cons x l ih =>
    have hx := (h x).mp List.mem_cons_self
    obtain ⟨a, b, rfl⟩ := List.append_of_mem hx
    rw [List.nodup_cons] at h1
    have p : (a ++ x :: b).Perm (x :: (a ++ b)) := List.perm_middle
    have n2 := p.nodup h2
    rw [List.nodup_cons] at n2
    refine (List.Perm.cons x (ih h1.2 n2.2 fun y => ?_)).trans p.symm
    constructor
    · intro hy
      have := (h y).mp (List.mem_cons_of_mem _ hy)
      have := p.mem_iff.mp this
      rcases List.mem_cons.mp this with e | z
      · exact absurd (e ▸ hy) h1.1
      · exact z
    · intro hy
      have := (h y).mpr (p.mem_iff.mpr (List.mem_cons_of_mem _ hy))
      rcases List.mem_cons.mp this with e | z
      · exact absurd (e ▸ hy) n2.1
      · exact z
end Ak
/-! Ak 15: drawing from a list that counts. -/
namespace Ak
open PySem PySem.Spec PyProof.Rows L2
theorem dpi {K : PySem.W.Frag} {H : Hp} : forall ns : List Int, DpAll K H (ns.map V.int) (ns.map PyData.int)
  | [] => .nil
  | n :: ns => .cons (.int n) (dpi ns)
theorem _root_.L2.SqL.same {K : PySem.W.Frag} {H H' : Hp} {a : Addr} {xs : List V} (h : SqL K H a xs) (e : Same H H') : SqL K H' a xs := e.seq h
/-- the list at p: the script at a, how often was drawn -/
def Drw (p a : Addr) (H : Hp) : Prop := exists k : Int, 0 ≤ k ∧ H p = some (.lst [.ref a, .int k])
theorem Drw.up {p a : Addr} {H H' : Hp} (d : Drw p a H) (e : Same H H') : Drw p a H' := by
  obtain ⟨k, h, g⟩ := d
  exact ⟨k, h, e _ _ g⟩
theorem Drw.ne {p a : Addr} {H : Hp} (d : Drw p a H) : H p ≠ none := by
  obtain ⟨k, _, g⟩ := d
  rw [g]
  exact Option.some_ne_none _
theorem SameX.msk {M : MK} {p : Addr} {H H' : Hp} (e : SameX p H H') (hp : M p) : Same (Ak.msk M H) (Ak.msk M H') := fun a o h => by
  obtain ⟨n, h⟩ := msk_of h
  have hne : a ≠ p := by
    rintro rfl
    exact n hp
  rw [msk_at n]
  exact e a o hne h
theorem SameX.mok {M : MK} {p a : Addr} {H H' : Hp} (e : SameX p H H') (d : Drw p a H') (m : Mok M H) : Mok M H' := fun b z => by
  by_cases h : b = p
  · obtain ⟨k, _, g⟩ := d
    rw [h]
    exact ⟨_, g, fun xs e => nomatch e⟩
  · obtain ⟨o, g, nt⟩ := m b z
    exact ⟨o, e b o h g, nt⟩
theorem SameX.kp {M : MK} {p a : Addr} {H H' : Hp} (e : SameX p H H') (d : Drw p a H) (hp : M p) : Kp M H H' := ⟨Fx.of (e.msk hp), fun {b od u} h => by
  refine e b _ ?_ h
  rintro rfl
  obtain ⟨k, _, g⟩ := d
  rw [g] at h
  cases h⟩
theorem SameX.refl {p : Addr} (H : Hp) : SameX p H H := fun _ _ _ h => h
section
variable {K : PySem.W.Frag} {M : MK} {p a : Addr} {s : L2.St} {H : Hp} {te ta tb : TE} {tr : TA} {E : Ends} {C C1 C2 : D -> Prop} {Cs : List D -> Prop}
def EvC (M : MK) (p a : Addr) (te : TE) (s : L2.St) (H : Hp) (C : D -> Prop) : Prop :=
  forall H1, SameX p H H1 -> Drw p a H1 -> forall Q : VK, (forall d v H2, C d -> SameX p H1 H2 -> Drw p a H2 -> Rep (msk M H2) d v -> Q v H2) -> te s H1 Q
def EvCs (M : MK) (p a : Addr) (tr : TA) (s : L2.St) (H : Hp) (C : List D -> Prop) : Prop :=
  forall H1, SameX p H H1 -> Drw p a H1 -> forall Q : List V -> Hp -> Prop, (forall ds vs H2, C ds -> SameX p H1 H2 -> Drw p a H2 -> Reps (msk M H2) ds vs -> Q vs H2) -> tr s H1 Q
def EvCI (M : MK) (p a : Addr) (wi : TI) (s : L2.St) (H : Hp) (C : List D -> Prop) : Prop :=
  forall H1, SameX p H H1 -> Drw p a H1 -> forall R : It -> Hp -> Prop, (forall J ds H2, C ds -> SameX p H1 H2 -> Drw p a H2 -> ItD M J ds H2 -> R J H2) -> wi s H1 R
theorem EvC.imp (h : EvC M p a te s H C1) (i : forall d, C1 d -> C2 d) : EvC M p a te s H C2 := fun H1 e d Q q => h H1 e d Q fun z v H2 c => q z v H2 (i z c)
theorem ec_pure {z : D} (h : forall H1, SameX p H H1 -> Drw p a H1 -> EvD M te s H1 z) : EvC M p a te s H (fun d => d = z) := fun H1 e d Q q => h H1 e d H1 (Same.refl H1) Q fun v H2 e2 r => q z v H2 rfl (SameX.of e2) (d.up e2) r
theorem eci_pure {wi : TI} {ds : List D} (h : forall H1, SameX p H H1 -> Drw p a H1 -> EvI M wi s H1 ds) : EvCI M p a wi s H (fun d => d = ds) := fun H1 e d R k => h H1 e d H1 (Same.refl H1) R fun J H2 e2 it => k J ds H2 rfl (SameX.of e2) (d.up e2) it
theorem ecs_nil : EvCs M p a tNil s H (fun ds => ds = []) := fun H1 _ d Q q => q [] [] H1 rfl (SameX.refl H1) d rfl
theorem ecs_cons (hp : M p) (h : EvC M p a te s H C) (hr : EvCs M p a tr s H Cs) : EvCs M p a (tCons te tr) s H (fun ds => exists d es, ds = d :: es ∧ C d ∧ Cs es) := fun H1 e1 d1 Q q =>
  h H1 e1 d1 _ fun d v H2 c e2 d2 r => hr H2 (e1.trans e2) d2 _ fun es vs H3 cs e3 d3 rs => q (d :: es) (v :: vs) H3 ⟨d, es, rfl, c, cs⟩ (e2.trans e3) d3 ⟨v, vs, rfl, r.up (e3.msk hp), rs⟩
theorem ec_tup (m : Mok M H) (h : EvCs M p a tr s H Cs) (hz : forall ds, Cs ds -> ds.length ≤ 1000) : EvC M p a (tTup tr) s H (fun d => exists ds, d = .tup ds ∧ Cs ds) := fun H1 e1 d1 Q q =>
  h H1 e1 d1 _ fun ds vs H2 c e2 d2 rs => ⟨by rw [rs.len, sizeLine_eq]; have := hz ds c; omega, fun b hb => q (.tup ds) (.ref b) _ ⟨ds, rfl, c⟩ (e2.trans (SameX.of (same_new hb))) (d2.up (same_new hb)) ⟨b, vs, rfl, msk_new ((e1.trans e2).mok d2 m) hb, rs.up (msk_mono (same_new hb))⟩⟩
theorem ec_op {r : R2} (hp : M p) (ha : EvC M p a ta s H C1) (hb : EvC M p a tb s H C2) (hr : forall d e, C1 d -> C2 e -> exists z, C z ∧ forall H1, RD M r H1 d e z) : EvC M p a (tOp r ta tb) s H C := fun H1 e1 d1 Q q =>
  ha H1 e1 d1 _ fun d x H2 c1 e2 d2 rx => hb H2 (e1.trans e2) d2 _ fun e y H3 c2 e3 d3 ry => by
    obtain ⟨z, cz, rd⟩ := hr d e c1 c2
    exact rd H3 x y H3 (Same.refl H3) (rx.up (e3.msk hp)) ry Q fun v H4 e4 rv => q z v H4 cz ((e2.trans e3).trans (SameX.of e4)) (d3.up e4) rv
/-- a def that draws -/
def SpDr (K : PySem.W.Frag) (pre : List D -> Prop) (R : List D -> D -> Prop) : Sp := fun vs H Q _ => exists (M : MK) (p a : Addr) (ns : List Int) (ds : List D) (ws : List V), Mok M H ∧ M p ∧ vs = .ref p :: ws ∧ Reps (msk M H) ds ws ∧ Drw p a H ∧ SqL K H a (ns.map V.int) ∧ ns.length ≤ 1000 ∧ pre ds ∧
  forall d v H', R ds d -> SameX p H H' -> Drw p a H' -> Rep (msk M H') d v -> Q v H'
theorem SpDr.len {pre : List D -> Prop} {R : List D -> D -> Prop} {n : Nat} (hR : forall ds, pre ds -> ds.length = n) {vs : List V} {H : Hp} {Q : VK} {EX : XK} (h : SpDr K pre R vs H Q EX) : vs.length = n + 1 := by
  obtain ⟨M, p, a, ns, ds, ws, _, _, ev, rs, _, _, _, hp, _⟩ := h
  rw [ev, List.length_cons, rs.len, hR ds hp]
/-- the script stands wherever the list stands -/
theorem sql_x {ns : List Int} {H' : Hp} (h : SqL K H a (ns.map V.int)) (e : SameX p H H') (d : Drw p a H) : SqL K H' a (ns.map V.int) := by
  rcases h with h | h
  · have hne : a ≠ p := by
      rintro rfl
      obtain ⟨k, _, g⟩ := d
      rcases h with h | ⟨ob, h⟩
      · rw [g] at h
        injection h with h
        injection h with h
        cases ns with
        | nil => cases h
        | cons n ns => cases h
      · rw [g] at h
        cases h
    rcases h with h | ⟨ob, h⟩
    · exact .inl (.inl (e _ _ hne h))
    · exact .inl (.inr ⟨ob, e _ _ hne h⟩)
  · exact .inr h
theorem ec_call {pre : List D -> Prop} {R : List D -> D -> Prop} {EX : XK} {i : Nat} {ns : List Int} (m : Mok M H) (hp : M p) (hs : SqL K H a (ns.map V.int)) (d0 : Drw p a H) (hn : ns.length ≤ 1000) (hv : s[i]? = some (some (.ref p))) (h : EvCs M p a tr s H Cs) (hpre : forall ds, Cs ds -> pre ds) :
    EvC M p a (tCall (SpDr K pre R) [] EX (tCons (tVar i) tr)) s H (fun d => exists ds, Cs ds ∧ R ds d) := fun H1 e1 d1 Q q => ⟨_, hv, h H1 e1 d1 _ fun ds vs H2 c e2 d2 rs =>
  ⟨M, p, a, ns, ds, vs, (e1.trans e2).mok d2 m, hp, by rw [List.append_nil], rs, d2, sql_x hs (e1.trans e2) d0, hn, hpre ds c, fun d v H' hR e3 d3 r => q d v H' ⟨ds, c, hR⟩ (e2.trans e3) d3 r⟩⟩
theorem st_setC {i : Nat} (d0 : Drw p a H) (h : EvC M p a te s H C) (k : forall d v H2, C d -> SameX p H H2 -> Drw p a H2 -> Rep (msk M H2) d v -> E.nx (s.set i (some v)) H2) : tAsg te (gName i) E s H := h H (SameX.refl H) d0 _ k
theorem st_ifC {t : TT} {ts us : TS} (b : Prop) (h : forall Q : Bool -> Hp -> Prop, (forall c H2, SameX p H H2 -> Drw p a H2 -> Q c H2) -> t s H Q) (k1 : forall H2, SameX p H H2 -> Drw p a H2 -> ts E s H2) (k2 : forall H2, SameX p H H2 -> Drw p a H2 -> us E s H2) : tIfS t ts us E s H := h _ fun c H2 e d => by
  cases c with
  | true => exact iteT (k1 H2 e d)
  | false => exact iteF (k2 H2 e d)
theorem etC (d0 : Drw p a H) (h : EvC M p a te s H C) (hb : forall d, C d -> exists b, d = .bl b) : forall Q : Bool -> Hp -> Prop, (forall c H2, SameX p H H2 -> Drw p a H2 -> Q c H2) -> tTest te s H Q := fun Q q => h H (SameX.refl H) d0 _ fun d v H2 c e2 d2 r => by
  obtain ⟨b, rfl⟩ := hb d c
  exact ⟨b, r, q b H2 e2 d2⟩
theorem tcall_ev {sp : Sp} {EX : XK} {Q : VK} {ds : List D} (h : EvDs M tr s H ds) (k : forall vs H1, Same H H1 -> Reps (msk M H1) ds vs -> sp vs H1 Q EX) : tCall sp [] EX tr s H Q := h H (Same.refl H) _ fun vs H1 e r => by
  rw [List.append_nil]
  exact k vs H1 e r
/-! ### the script -/
theorem et_scr {i : Nat} {ns : List Int} (hv : s[i]? = some (some (.ref a))) (h : SqL K H a (ns.map V.int)) : EvT (tTest (tOp (rNeD K) (tVar i) (tLst tNil))) s H (!decide (ns = [])) := fun H1 e Q q => by
  refine ⟨_, hv, by rw [sizeLine_eq]; simp, fun b hb => ⟨.list (ns.map .int), .list [], .lst ((h.same e).same (same_new hb)) (dpi ns), .lst (SqL.of upd_same) .nil, PySem.W.shaped_ints ns, rfl, _, rfl, ?_⟩⟩
  have e1 : (!PyData.eqv (.list (ns.map .int)) (.list [])) = !decide (ns = []) := by
    cases ns <;> rfl
  rw [e1]
  exact q _ (same_new hb)
theorem ev_scrlen {i : Nat} {ns : List Int} (hv : s[i]? = some (some (.ref a))) (h : SqL K H a (ns.map V.int)) : EvD M (tCB (rLenU K) (tCons (tVar i) tNil)) s H (.int ns.length) := fun H1 e Q q =>
  ⟨_, hv, .inl ⟨.ref a, ns.length, rfl, .inl ⟨_, h.same e, (List.length_map _).symm⟩, q _ H1 (Same.refl H1) rfl⟩⟩
theorem ev_scrix {i : Nat} {ns : List Int} {j c : Int} (hv : s[i]? = some (some (.ref a))) (h : SqL K H a (ns.map V.int)) (he : EvD M te s H (.int j)) (hj : atI ns j = some c) : EvD M (tOp (rIx K) (tVar i) te) s H (.int c) := fun H1 e Q q =>
  ⟨_, hv, he H1 e _ fun v H2 e2 r => .inl ⟨a, _, j, .int c, rfl, r, h.same (e.trans e2), by
    unfold atI at hj ⊢
    rw [List.length_map]
    cases z : ixN ns.length j with
    | none => rw [z] at hj; cases hj
    | some k =>
      rw [z] at hj
      have hj' : ns[k]? = some c := hj
      show (ns.map V.int)[k]? = some (V.int c)
      rw [List.getElem?_map, hj'] <;> rfl, q _ H2 e2 rfl⟩⟩
/-! ### comprehensions that draw -/
inductive Yields (Ce : D -> Option D -> Prop) : List D -> List D -> Prop
  | nil : Yields Ce [] []
  | some {ds es : List D} {d e : D} (h : Yields Ce ds es) (c : Ce d (some e)) : Yields Ce (ds ++ [d]) (es ++ [e])
  | none {ds es : List D} {d : D} (h : Yields Ce ds es) (c : Ce d none) : Yields Ce (ds ++ [d]) es
theorem Yields.len {Ce : D -> Option D -> Prop} {ds es : List D} (h : Yields Ce ds es) : es.length ≤ ds.length := by
  induction h with
  | nil => exact Nat.le_refl _
  | some h c ih =>
    rw [List.length_append, List.length_append]
    exact Nat.add_le_add_right ih _
  | none h c ih =>
    rw [List.length_append]
    omega
def EltC (N : MK) (p a : Addr) (g : TG) (tt : TT) (te : TE) (vs : List Nat) (s : L2.St) (H3 : Hp) (x : V) (Co : Option D -> Prop) : Prop :=
  forall (P : V -> Hp -> Prop) (S : Hp -> Prop), (forall d, Co (some d) -> forall y H4, SameX p H3 H4 -> Drw p a H4 -> Rep (msk N H4) d y -> P y H4) -> (Co none -> forall H4, SameX p H3 H4 -> Drw p a H4 -> S H4) ->
    g x (wipe s vs) H3 fun s2 H4 => wipe s2 vs = wipe s vs ∧ tt s2 H4 fun b H5 => if b = true then te s2 H5 P else S H5
theorem ec_lc {wi : TI} {g : TG} {tt : TT} {vs : List Nat} {Ce : D -> Option D -> Prop} (m : Mok M H) (hp : M p) (d0 : Drw p a H) (hi : EvCI M p a wi s H Cs) (hz : forall ds, Cs ds -> ds.length ≤ 1000000)
    (hs : forall (ds : List D) (N : MK) H3 d x, Cs ds -> Mok N H3 -> N p -> SameX p H H3 -> Drw p a H3 -> Same (msk M H) (msk N H3) -> d ∈ ds -> Rep (msk N H3) d x -> EltC N p a g tt te vs s H3 x (Ce d)) : EvC M p a (tLc wi g tt te vs) s H (fun z => exists ds es, z = .lst es ∧ Cs ds ∧ Yields Ce ds es) := fun H1 e1 d1 Q q =>
  hi H1 e1 d1 _ fun J ds H2 cs e2 d2 it Da hD => by
    have m2 : Mok M H2 := (e1.trans e2).mok d2 m
    have hM : ¬ M Da := m2.new hD
    have hDp : Da ≠ p := by
      rintro rfl
      exact d2.ne hD
    let N : MK := fun b => M b ∨ b = Da
    have i2 : forall b, N b -> M b ∨ H2 b = none := fun b z => by
      rcases z with z | z
      · exact .inl z
      · exact .inr (by rw [z]; exact hD)
    have hlow : forall {H3 : Hp}, SameX p H2 H3 -> Same (msk M H2) (msk N H3) := fun {H3} e b o h => by
      obtain ⟨n, h⟩ := msk_of h
      have hbp : b ≠ p := by
        rintro rfl
        exact n hp
      rw [msk_at]
      · exact e b _ hbp h
      · rintro (z | z)
        · exact n z
        · rw [z, hD] at h
          cases h
    refine ⟨fun i k H3 => k = ds.length - i ∧ i ≤ ds.length ∧ SameX p H2 H3 ∧ Drw p a H3 ∧ exists acc es, H3 Da = some (.lst acc) ∧ Reps (msk N H3) es acc ∧ Yields Ce (ds.take i) es,
      ⟨ds.length, by simp, Nat.zero_le _, SameX.of (same_new hD), d2.up (same_new hD), [], [], upd_same, rfl, .nil⟩, ?_⟩
    rintro i k H3 ⟨rfl, hil, e3, d3, acc, es, ha, rs, ys⟩
    have kp3 : Kp M H2 H3 := e3.kp d2 hp
    have m3 : Mok N H3 := Mok.add (e3.mok d3 m2) ha
    have hlen : acc.length ≤ i := by
      rw [rs.len]
      exact Nat.le_trans ys.len (by rw [List.length_take]; omega)
    have hzz := hz ds cs
    by_cases hlt : i < ds.length
    · refine .inr ⟨it.go i H3 kp3 hlt, fun H4 => SameX p H2 H4 ∧ Drw p a H4 ∧ exists acc es, H4 Da = some (.lst acc) ∧ Reps (msk N H4) es acc ∧ Yields Ce (ds.take (i + 1)) es, fun H4 w => ⟨ds.length - (i + 1), by omega, rfl, hlt, w⟩, fun x H4 y => ?_⟩
      obtain ⟨e4, d, hd, rd⟩ := it.yld i H3 x H4 N kp3 m3 i2 hlt y
      have tk : ds.take (i + 1) = ds.take i ++ [d] := by rw [List.take_succ, hd] <;> rfl
      have ha4 := e4 _ _ ha
      have rs4 := rs.up (msk_mono e4)
      have d4 := d3.up e4
      have eA := (e1.trans e2).trans (e3.trans (SameX.of e4))
      refine hs ds N H4 d x cs (m3.up e4) (.inl hp) eA d4 (fun b o h => hlow (e3.trans (SameX.of e4)) _ _ ((e1.trans e2).msk hp _ _ h)) (List.mem_of_getElem? hd) rd _ _ (fun d' ho y' H5 e5 d5 r5 => ?_) (fun ho H5 e5 d5 => ?_)
      · have hn : forall {b : Addr} {o : HO}, H2 b = some o -> b ≠ Da := fun h => ne_of_none h hD
        refine ⟨acc, e5 _ _ hDp ha4, by rw [sizeLine_eq]; omega, fun b o h1 h => ?_, ?_, acc ++ [y'], es ++ [d'], upd_same, ?_, by rw [tk]; exact .some ys ho⟩
        · rw [upd_ne (hn h)]
          exact e5 b o h1 (e4 _ _ (e3 b o h1 h))
        · obtain ⟨k5, h5, g5⟩ := d5
          exact ⟨k5, h5, (upd_ne hDp.symm).trans g5⟩
        · rw [msk_upd (M := N) (.inr rfl)]
          exact Reps.app (rs4.up (e5.msk (.inl hp))) (Reps.one r5)
      · refine ⟨(e3.trans (SameX.of e4)).trans e5, d5, acc, es, e5 _ _ hDp ha4, rs4.up (e5.msk (.inl hp)), by rw [tk]; exact .none ys ho⟩
    · have e : i = ds.length := by omega
      subst e
      rw [List.take_length] at ys
      refine .inl ⟨it.stop H3 kp3, q (.lst es) _ H3 ⟨ds, es, rfl, cs, ys⟩ (e2.trans e3) d3 ⟨Da, acc, rfl, ?_, rs.up (msk_less fun b z => .inl z)⟩⟩
      rw [msk_at hM]
      exact ha
end
end Ak
/-! Ak 16: != by an own __eq__; isinstance of an own class. -/
namespace Ak
open PySem PySem.Spec PyProof.Rows L2
/-- the class at C: object's heir with an __eq__ at f and no __ne__ -/
structure EqC (K : PySem.W.Frag) (C f : Addr) : Prop where
  cls : exists nm q N bs hd sn sub ab col dd k0 k1 k2 k3 k5 nid, K.lookup C = some (excClassObj nm q C N bs [.type "object"] hd sn sub ab col dd k0 k1 k2 k3 k5 nid) ∧ PySem.W.nsOkIn K N = true ∧ PySem.W.nsIn K N "__eq__" = some (some (.ref f)) ∧ PySem.W.nsIn K N "__ne__" = some none
  fn : exists o, K.lookup f = some o ∧ o.cls = .type "function"
theorem objEq : typeLookup (.type "object") "__eq__" = pure (some (.builtin "object.__eq__")) := by
  rw [typeLookup_type, builtinLookup_eq_fast]
  kernel_rfl
theorem ns_some {K : PySem.W.Frag} {h : Heap} {N : Addr} {mg : Str -> Option Value} {n : Str} {v : Value} (X : K.In h) (G : h.Ns N mg) (e : PySem.W.nsIn K N n = some (some v)) : mg n = some v := by
  obtain ⟨o, es, ep, ho, hd, _, hf⟩ := G
  unfold PySem.W.nsIn at e
  split at e
  · rename_i c d es' n' sl q
    have z := X _ _ q
    rw [ho] at z
    cases z
    cases hd
    split at e
    · rename_i en he
      injection e with e
      injection e with e
      rw [← hf]
      unfold nsFind findBy
      rw [← Array.find?_toList, he, ← e] <;> rfl
    · split at e
      · cases e
      · injection e with e
        cases e
  · cases e
theorem EqC.own {K : PySem.W.Frag} {h : Heap} {C f x : Addr} {ox : Obj} (c : EqC K C f) (X : K.In h) (hx : h.get? x = some ox) (hc : ox.cls = .ref C) : h.OwnEqNoNe x C f "object" [.type "object"] := by
  obtain ⟨nm, q, N, bs, hd, sn, sub, ab, col, dd, k0, k1, k2, k3, k5, nid, e1, e2, e3, e4⟩ := c.cls
  obtain ⟨o, e5, e6⟩ := c.fn
  have G := Heap.Ns.of_isNs (PySem.W.isNs_of_in X e2)
  exact ⟨ox, o, nm, q, N, bs, hd, sn, sub, ab, col, dd, k0, k1, k2, k3, k5, nid, _, _, hx, hc, X _ _ e1, G, ns_some X G e3, X _ _ e5, e6, PySem.F.cmp_object.mro, objEq, PySem.W.nsMap_none_of_in X e2 e4⟩
def rNeOwn (C : Addr) (sp : Sp) (E : XK) : R2 := fun x y H Q => exists a b dx dy vs ws, x = .ref a ∧ y = .ref b ∧ H a = some (.ins C dx vs) ∧ H b = some (.ins C dy ws) ∧ sp [x, y] H (fun v H' => exists k, v = .bl k ∧ Q (.bl (!k)) H') E
section
variable {X : Cx} {CX : CXT} {C f : Addr} {n : Nat} {sp : Sp} {E : XK}
theorem op_neOwn (c : EqC X.K C f) (F : FnR X.prog X.w X.K X.mg X.base CX n f sp) (hr : Room (n + 1) X.A) (hx : forall (H : Hp) (s : Shared) (e : Value) (s' : Shared), CX X.stack H s E e s' -> False) : OpR X (compareOp .NotEq) (rNeOwn C sp E) := by
  intro pins s σ H x y v u Q I rx ry h
  obtain ⟨a, b, dx, dy, vs, ws, ex, ey, ha, hb, q⟩ := h
  subst ex ey
  cases rx
  cases ry
  obtain ⟨_, _, _, g1, _⟩ := (show ObjOk X.prog X.w H s.heap a (.ins C dx vs) from I.hok a _ ha)
  obtain ⟨_, _, _, g2, _⟩ := (show ObjOk X.prog X.w H s.heap b (.ins C dy ws) from I.hok b _ hb)
  have own := c.own (f := f) I.kIn g1 rfl
  have un : X.A.units + 1 < cLine := hu_of hr
  obtain ⟨hp, gs, dr, tk, os⟩ := s
  refine compareOp_ne_ownEq PySem.F.cmp_object own g2 rfl un ?_
  refine wpAny_call (codeAny_mono (F X.A.in1 X.stack _ H [.ref a, .ref b] [.ref a, .ref b] _ E hr.in1 I.env0.in1 (.cons rfl (.cons rfl .nil)) q) fun r s' hq => ?_)
  cases r with
  | error e => exact (hx _ _ _ _ hq).elim
  | ok fl =>
    cases fl with
    | ret w =>
      obtain ⟨z, H', I', rz, k, ez, qz⟩ := I.after hq
      subst ez
      cases rz
      exact ⟨k, rfl, .bl (!k), H', I', rfl, qz⟩
    | next => exact False.elim hq
    | brk => exact False.elim hq
    | cont => exact False.elim hq
end
section
variable {K : PySem.W.Frag} {M : MK} {s : L2.St} {H : Hp} {ta tb : TE} {tr : TA}
theorem rd_neOwn {C : Addr} {R : List D -> D -> Prop} {fs gs : List (Str × D)} {k : Bool} {E : XK} (m : Mok M H) (h : R [.ins C fs, .ins C gs] (.bl k)) : RD M (rNeOwn C (SpR R) E) H (.ins C fs) (.ins C gs) (.bl (!k)) := fun x y H1 e1 rx ry Q q => by
  obtain ⟨a, dx, vs, ex, ha, rf⟩ := id rx
  obtain ⟨b, dy, ws, ey, hb, rg⟩ := id ry
  have rs : Reps (msk M H1) [.ins C fs, .ins C gs] [x, y] := ⟨x, [y], rfl, rx, y, [], rfl, ry, rfl⟩
  exact ⟨a, b, dx, dy, vs, ws, ex, ey, msk_same _ _ ha, msk_same _ _ hb, M, _, _, m.up e1, rs, h, fun v H' e r => ⟨k, r, q _ H' e rfl⟩⟩
/-- what isinstance asks of the class -/
structure IsC (K : PySem.W.Frag) (C : Addr) : Prop where
  ha : PySem.W.findIn K (.ref C) "__class__" = some (some (.builtin "object.__class__"))
  hn : PySem.W.specialIn K (.builtin "object.__class__") "__get__" = some (some (.builtin "getset_descriptor.__get__"))
  ht : PySem.W.takesIn K (.builtin "object.__class__") = some true
  hm : PySem.W.mroIn K C (.type "object") = some true
  one : PySem.W.kitOne K (.ref C) (.ref C) = some true
theorem ev_isiC {C : Addr} {fs : List (Str × D)} (c : Cls K C) (i : IsC K C) (h : EvDs M tr s H [.ins C fs, .oth (.ref C)]) : EvD M (tCB (rIsi K) tr) s H (.bl true) := ev_cb h fun vs H1 e1 rs Q q => by
  obtain ⟨x, y, ev, rx, ry⟩ := rs.two_of
  have e5 : y = V.ref C := ry
  obtain ⟨a, dx, ws, ea, ha, rf⟩ := rx
  subst e5 ea ev
  exact ⟨.ref a, .ref C, .ref C, .ref C, true, rfl, .own C, .base (.ins (msk_same _ _ ha) c i.ha i.hn i.ht i.hm), i.one, q _ H1 (Same.refl H1) rfl⟩
end
end Ak
/-! Ak 17: sets, over the heap: members are ints, texts, or tuples of these. -/
namespace Ak
open PySem PySem.Spec PyProof.Rows L2
section
variable {P : Program} {w : World} {A : Around} {E : Value -> Shared -> Prop} {s : Shared}
abbrev TupK (P : Program) (w : World) (h : Heap) (ks : List Key) (b : Addr) : Prop := IsTupleKey (mixKind P w) h ks b
abbrev hashT (P : Program) (w : World) (ks : List Key) : Int := tupleKeyHash (mixKind P w) ks
theorem cls_key {n : Nat} {k : Key} {v : Value} (r : keyIs k v = true) : ofAClassStatement n v = pure false := by
  rcases keyIs_shape r with ⟨i, t, e1, e2⟩ | ⟨x, t, e1, e2⟩
  · subst e2
    cases n <;> rfl
  · subst e2
    cases n <;> rfl
theorem hby_key {n : Nat} {k : Key} {v : Value} (r : keyIs k v = true) : exists b, hashByValue n v = pure b := by
  rcases keyIs_shape r with ⟨i, t, e1, e2⟩ | ⟨x, t, e1, e2⟩
  · subst e2
    exact ⟨true, by cases n <;> rfl⟩
  · subst e2
    exact ⟨false, by cases n <;> rfl⟩
theorem items_each {ks : List Key} {us : List Value} (q : ItemsAre (mixKind P w) ks us) : forall v, v ∈ us -> exists k, keyIs k v = true := by
  induction q with
  | nil => intro v m; cases m
  | @cons k0 v0 ks0 us0 r _ ih =>
    intro v m
    rcases List.mem_cons.mp m with e | m
    · exact ⟨k0, by rw [e]; exact r⟩
    · exact ih v m
theorem cls_tup {ks : List Key} {b : Addr} {Q : Bool -> Shared -> Prop} (x : TupK P w s.heap ks b) (q : Q false s) : wpAny (model P w) A (ofAClassStatement 8 (.ref b)) Q E s := by
  have ty := x.typeIs
  obtain ⟨ob, its, n, g, _, gd, gi⟩ := x
  have each := items_each gi
  unfold ofAClassStatement
  refine wpAny_bind (wpAny_typeOf ty ?_)
  dsimp only
  simp only [show (("tuple" : String) == "tuple") = true from by decide, if_true, Bool.not_true, Bool.false_eq_true, if_false]
  try refine wpAny_bind (wpAny_pure ?_)
  try simp only [Bool.not_true, Bool.false_eq_true, if_false]
  show wpAny _ _ (seqItems? (.ref b) >>= _) _ _ s
  refine wpAny_bind (wpAny_seqItems g gd ?_)
  dsimp only
  refine wpAny_bind ?_
  show wpAny _ _ (forIn its _ _) _ _ s
  rw [← Array.forIn_toList]
  refine wpAny_forIn_list _ (fun l r s1 => r.1 = none ∧ s1 = s ∧ forall v, v ∈ l -> exists k, keyIs k v = true) _ ?_ ?_ _ _ ⟨rfl, rfl, each⟩
  · intro v l r s1 ⟨e1, e2, ev⟩
    subst e2
    obtain ⟨k, hk⟩ := ev v List.mem_cons_self
    rw [cls_key hk]
    refine wpAny_bind (wpAny_pure ?_)
    simp only [Bool.false_eq_true, if_false]
    exact wpAny_pure ⟨rfl, rfl, fun u m => ev u (List.mem_cons_of_mem _ m)⟩
  · intro ⟨r1, r2⟩ s1 ⟨e1, e2, _⟩
    subst e2
    simp only at e1
    subst e1
    exact wpAny_pure q
theorem hby_tup {ks : List Key} {b : Addr} {Q : Bool -> Shared -> Prop} (x : TupK P w s.heap ks b) (q : forall c, Q c s) : wpAny (model P w) A (hashByValue 8 (.ref b)) Q E s := by
  have ty := x.typeIs
  obtain ⟨ob, its, n, g, _, gd, gi⟩ := x
  have each := items_each gi
  unfold hashByValue
  refine wpAny_bind (wpAny_specialOf ty PySem.F.slot_tuple_hash.lookup ?_)
  show wpAny _ _ (seqItems? (.ref b) >>= _) _ _ s
  refine wpAny_bind (wpAny_seqItems g gd ?_)
  refine wpAny_bind ?_
  show wpAny _ _ (forIn its _ _) _ _ s
  rw [← Array.forIn_toList]
  refine wpAny_forIn_list _ (fun l r s1 => s1 = s ∧ forall v, v ∈ l -> exists k, keyIs k v = true) _ ?_ ?_ _ _ ⟨rfl, each⟩
  · intro v l r s1 ⟨e2, ev⟩
    subst e2
    obtain ⟨k, hk⟩ := ev v List.mem_cons_self
    obtain ⟨c, hc⟩ := hby_key (n := 7) hk
    rw [hc]
    refine wpAny_bind (wpAny_pure ?_)
    cases c with
    | true =>
      simp only [Bool.not_true, Bool.false_eq_true, if_false]
      exact wpAny_pure ⟨rfl, fun u m => ev u (List.mem_cons_of_mem _ m)⟩
    | false =>
      simp only [Bool.not_false, if_true]
      exact wpAny_pure (wpAny_pure (q _))
  · intro ⟨r1, r2⟩ s1 h1
    obtain ⟨e2, _⟩ := h1
    subst e2
    cases r1 with
    | none => exact wpAny_pure (q _)
    | some c => exact wpAny_pure (q _)
theorem seen_mix {ks : List Key} {b : Addr} {Q : Bool -> Shared -> Prop} (x : TupK P w s.heap ks b) {ys : List Value} (ey : forall y, y ∈ ys -> exists k c, y = Value.ref c ∧ TupK P w s.heap k c) (q : Q false s) :
    wpAny (model P w) A (searchCouldBeSeen (.ref b) ys) Q E s := by
  unfold searchCouldBeSeen
  refine wpAny_bind ?_
  refine wpAny_forIn_list _ (fun l r s1 => r.1 = none ∧ s1 = s ∧ forall y, y ∈ l -> exists k c, y = Value.ref c ∧ TupK P w s.heap k c) _ ?_ ?_ _ _ ⟨rfl, rfl, ey⟩
  · intro v l r s1 ⟨e1, e2, ev⟩
    subst e2
    obtain ⟨k, c, e3, xc⟩ := ev v List.mem_cons_self
    subst e3
    have later : forall y, y ∈ l -> exists k c, y = Value.ref c ∧ TupK P w s1.heap k c := fun u m => ev u (List.mem_cons_of_mem _ m)
    dsimp only
    by_cases same : (b == c || (carriedByValue (.ref b) && carriedByValue (.ref c))) = true
    · exact wp_if_pos same (wpAny_pure ⟨rfl, rfl, later⟩)
    · refine wp_if_neg same ?_
      refine wpAny_bind (wpAny_eqIsQuiet_tuple x ?_)
      simp only [Bool.not_true, Bool.false_eq_true, if_false]
      refine wpAny_bind (wpAny_eqIsQuiet_tuple xc ?_)
      simp only [Bool.not_true, Bool.false_eq_true, if_false]
      refine wpAny_bind (cls_tup x ?_)
      simp only [Bool.false_eq_true, if_false]
      refine wpAny_bind (cls_tup xc ?_)
      simp only [Bool.false_eq_true, if_false]
      exact wpAny_pure ⟨rfl, rfl, later⟩
  · intro ⟨r1, r2⟩ s1 ⟨e1, e2, _⟩
    subst e2
    simp only at e1
    subst e1
    exact wpAny_pure q
/-! ### a set of tuples -/
abbrev TL : Type := List (List Key × Addr)
def rowsT (P : Program) (w : World) (L : TL) : List (Int × Value) := L.map fun p => (hashT P w p.1, Value.ref p.2)
def hsT (P : Program) (w : World) (L : TL) : List Int := L.map fun p => hashT P w p.1
structure SetT (P : Program) (w : World) (h : Heap) (a : Addr) (L : TL) (es : Array (Int × Value)) (ep : Nat) (t : SetTable) : Prop where
  ob : exists o, h.get? a = some o ∧ o.ExactSet ∧ o.data = .set es ep t
  rows : es.toList = rowsT P w L
  tab : TabOk t (hsT P w L)
  nd : (L.map (·.1)).Nodup
  tup : forall p, p ∈ L -> TupK P w h p.1 p.2
  led : w.params.followText "set-order" = true ∨ t.led = true
  room : L.length * 5 < t.mask * 3
  few : L.length < 64
variable {a : Addr} {L : TL} {es : Array (Int × Value)} {ep : Nat} {t : SetTable}
theorem SetT.size (R : SetT P w s.heap a L es ep t) : es.size = L.length := by
  rw [← Array.length_toList, R.rows, rowsT, List.length_map]
theorem SetT.pl (R : SetT P w s.heap a L es ep t) : t.place.size = L.length := by
  rw [R.tab.sz, hsT, List.length_map]
theorem SetT.fits (R : SetT P w s.heap a L es ep t) : t.fits es.size = true := by
  have z1 := R.pl
  have z2 := R.size
  have z3 := R.room
  unfold SetTable.fits SetTable.fill
  rw [R.tab.dm, Bool.and_eq_true, beq_iff_eq, decide_eq_true_eq]
  show t.place.size = es.size ∧ t.place.size + 0 ≤ t.mask
  omega
theorem SetT.row (R : SetT P w s.heap a L es ep t) {i : Nat} {p : List Key × Addr} (h : L[i]? = some p) : es[i]? = some (hashT P w p.1, Value.ref p.2) := by
  rw [← Array.getElem?_toList, R.rows, rowsT, List.getElem?_map, h] <;> rfl
theorem SetT.gw (R : SetT P w s.heap a L es ep t) : ¬ t.gaveWay = true := by
  unfold SetTable.gaveWay
  rw [mask_odd R.tab.mok]
  decide
theorem nth_dummy (m : Nat) : forall (n : Nat) (p : SetTable.Probe), p.dummy = none -> (nth m p n).dummy = none
  | 0, _, h => h
  | n + 1, p, h => nth_dummy m n (adv m p) (by unfold adv; split <;> exact h)
/-- the state of a search after c steps -/
abbrev st0 (m : Nat) (h : Int) (c : Nat) : SetTable.Probe := nth m (runAt m (SetTable.bits h % (m + 1)) (SetTable.bits h)) c
theorem st0_go (m : Nat) (h : Int) (c q : Nat) : nth m (st0 m h c) q = st0 m h (c + q) := (nth_add m c _ q).symm
theorem st0_j (m : Nat) (h : Int) (c q : Nat) : (nth m (st0 m h c) q).j = way m h (c + q) := congrArg SetTable.Probe.j (st0_go m h c q)
theorem findT_from (R : SetT P w s.heap a L es ep t) {x : Addr} {k : List Key} (hx : TupK P w s.heap k x) (hu : A.units < cLine) {K : Nat} (kf : K < 10 * SetTable.turns t.mask)
    (kn : way t.mask (hashT P w k) K ∉ t.place.toList) (kb : forall c, c < K -> way t.mask (hashT P w k) c ∈ t.place.toList) {Q : SetFound -> Shared -> Prop}
    (yes : k ∈ L.map (·.1) -> Q (.there none) s) (no : k ∉ L.map (·.1) -> Q (.free (way t.mask (hashT P w k) K) false) s) :
    forall (f c : Nat) (stand : Option SetTable.Probe), stand.getD (t.probeStart (hashT P w k)) = st0 t.mask (hashT P w k) c -> c ≤ K -> K - c < f ->
      (forall (i : Nat) p, L[i]? = some p -> p.1 = k -> exists c', c ≤ c' ∧ c' < K ∧ t.place.toList[i]? = some (way t.mask (hashT P w k) c')) ->
      wpAny (model P w) A (setSearchFrom a (.ref x) (hashT P w k) true f stand) Q E s
  | 0, c, stand, _, _, z, _ => absurd z (Nat.not_lt_zero _)
  | f + 1, c, stand, hst, hc, hf, lies => by
    obtain ⟨o, ho, hex, hd⟩ := R.ob
    rw [setSearchFrom_succ]
    refine wpAny_bind (wpAny_setState_of ho hd R.fits ?_)
    dsimp only
    refine wp_if_neg R.gw ?_
    try refine wpAny_bind (wpAny_pure ?_)
    have hashes : forall (i : Nat) p, L[i]? = some p -> (fun i => (es[i]?.map (·.1)).getD 0) i = hashT P w p.1 := fun i p hp => by
      show (es[i]?.map (·.1)).getD 0 = _
      rw [R.row hp] <;> rfl
    have law := go_spec t R.tab.ris R.tab.dm (fun i => (es[i]?.map (·.1)).getD 0) (hashT P w k) (10 * SetTable.turns t.mask) (K - c) (st0 t.mask (hashT P w k) c) (nth_dummy _ _ _ rfl) (by omega)
      (fun q hq => by rw [st0_j]; exact kb (c + q) (by omega)) (by rw [st0_j, show c + (K - c) = K by omega]; exact kn)
    rcases law with ⟨q, i, hq, hi, hh, hno, hpr⟩ | ⟨hno, hpr⟩
    · rw [st0_j, st0_go] at hpr
      rw [show t.probe (fun i => (es[i]?.map (·.1)).getD 0) (hashT P w k) (stand.getD (t.probeStart (hashT P w k))) = some (.candidate (way t.mask (hashT P w k) (c + q)) i (st0 t.mask (hashT P w k) (c + (q + 1)))) from by rw [hst]; exact hpr]
      dsimp only
      rw [st0_j] at hi
      have il : i < L.length := by
        have z := (List.getElem?_eq_some_iff.mp hi).1
        rw [Array.length_toList, R.pl] at z
        exact z
      obtain ⟨p, hp⟩ : exists p, L[i]? = some p := ⟨_, List.getElem?_eq_getElem il⟩
      have pm : p ∈ L := List.mem_of_getElem? hp
      have go : wpAny (model P w) A (searchRest a (.ref x) (hashT P w k) true f es t (way t.mask (hashT P w k) (c + q)) i (st0 t.mask (hashT P w k) (c + (q + 1)))) Q E s := by
        unfold searchRest
        rw [R.row hp]
        dsimp only
        refine wpAny_bind (wpAny_holding (wpAny_eqBool_tuple hu (R.tup p pm) hx ?_))
        refine wpAny_bind (wpAny_setState_of ho hd R.fits ?_)
        dsimp only
        by_cases kk : p.1 = k
        · refine wp_if_pos (by simp [kk]) ?_
          exact wpAny_pure (yes (List.mem_map.mpr ⟨p, pm, kk⟩))
        · refine wp_if_neg (by simp [kk]) ?_
          try refine wpAny_bind (wpAny_pure ?_)
          rw [sameMem]
          dsimp only
          have sl : t.slot (way t.mask (hashT P w k) (c + q)) = .live i := slot_live R.tab.ris hi
          simp only [if_true, sl, R.row hp]
          refine wpAny_bind (wpAny_isSame_ref_self (wpAny_bind (wpAny_pure ?_)))
          simp only [if_true]
          refine wp_if_neg (by simp [kk]) ?_
          refine findT_from R hx hu kf kn kb yes no f (c + (q + 1)) _ rfl (by omega) (by omega) fun j r hj hr => ?_
          obtain ⟨c', z1, z2, z3⟩ := lies j r hj hr
          refine ⟨c', ?_, z2, z3⟩
          rcases Nat.lt_trichotomy c' (c + q) with z | z | z
          · exact absurd ((hashes j r hj).trans (congrArg (hashT P w) hr)) (hno (c' - c) j (by omega) (by rw [st0_j, show c + (c' - c) = c' by omega]; exact z3))
          · rw [z] at z3
            have s0 := slot_live R.tab.ris z3
            rw [sl] at s0
            injection s0 with s0
            rw [← s0, hp] at hj
            exact absurd ((congrArg Prod.fst (Option.some.inj hj)).trans hr) kk
          · omega
      by_cases ld : t.led = true
      · refine wp_if_neg (by simp [ld]) ?_
        try refine wpAny_bind (wpAny_pure ?_)
        exact go
      · refine wp_if_pos (by simp [ld]) ?_
        refine wpAny_bind (seen_mix hx (fun y my => ?_) ?_)
        · obtain ⟨e, me, ee⟩ := List.mem_map.mp my
          have me2 : e ∈ es.toList := by
            have z : e ∈ es ∧ e.1 = hashT P w k := by simpa using me
            simpa using z.1
          rw [R.rows] at me2
          obtain ⟨r, mr, er⟩ := List.mem_map.mp me2
          exact ⟨r.1, r.2, by rw [← ee, ← er], R.tup r mr⟩
        · refine wp_if_neg (by decide) ?_
          try refine wpAny_bind (wpAny_pure ?_)
          exact go
    · rw [show t.probe (fun i => (es[i]?.map (·.1)).getD 0) (hashT P w k) (stand.getD (t.probeStart (hashT P w k))) = some (.empty (way t.mask (hashT P w k) K) none) from by
        rw [hst]
        rw [st0_j, show c + (K - c) = K by omega] at hpr
        exact hpr]
      dsimp only
      refine wpAny_pure (no fun hm => ?_)
      obtain ⟨r, mr, er⟩ := List.mem_map.mp hm
      obtain ⟨j, jl, ej⟩ := List.getElem_of_mem mr
      have hj : L[j]? = some r := by rw [List.getElem?_eq_getElem jl, ej]
      obtain ⟨c', z1, z2, z3⟩ := lies j r hj er
      exact hno (c' - c) j (by omega) (by rw [st0_j, show c + (c' - c) = c' by omega]; exact z3) ((hashes j r hj).trans (congrArg (hashT P w) er))
theorem findT (R : SetT P w s.heap a L es ep t) {x : Addr} {k : List Key} (hx : TupK P w s.heap k x) (hu : A.units < cLine) {Q : SetFound -> Shared -> Prop}
    (yes : k ∈ L.map (·.1) -> Q (.there none) s)
    (no : forall K, k ∉ L.map (·.1) -> way t.mask (hashT P w k) K ∉ t.place.toList -> (forall c, c < K -> way t.mask (hashT P w k) c ∈ t.place.toList) -> Q (.free (way t.mask (hashT P w k) K) false) s) :
    wpAny (model P w) A (setSearch a (.ref x) (hashT P w k) true) Q E s := by
  have rm := R.room
  have hl : (hsT P w L).length = L.length := List.length_map _
  obtain ⟨K, kf, kn, kb⟩ := R.tab.first (by rw [hl]; omega) (hashT P w k)
  have big : 10 * SetTable.turns t.mask ≤ 1420 := by
    unfold SetTable.turns
    rcases R.tab.mok with e | e | e <;> omega
  unfold setSearch
  refine findT_from R hx hu kf kn kb yes (fun hn => no K hn kn kb) 100000 0 none rfl (Nat.zero_le _) (by omega) fun i p hp hk => ?_
  have hi : (hsT P w L)[i]? = some (hashT P w k) := by rw [hsT, List.getElem?_map, hp, ← hk] <;> rfl
  have il : i < t.place.toList.length := by
    rw [Array.length_toList, R.pl]
    exact (List.getElem?_eq_some_iff.mp hp).1
  obtain ⟨c, z, e⟩ := R.tab.before kn hi (List.getElem?_eq_getElem il)
  exact ⟨c, Nat.zero_le _, z, by rw [List.getElem?_eq_getElem il, e]⟩
end
end Ak
/-! Ak 18: adding to a set of tuples. -/
namespace Ak
open PySem PySem.Spec PyProof.Rows L2
section
variable {P : Program} {w : World} {A : Around} {E : Value -> Shared -> Prop} {s : Shared}
theorem tup_but {h h' : Heap} {k : List Key} {a b : Addr} {o : Obj} {es : Array (Int × Value)} {ep : Nat} {t : SetTable} (x : TupK P w h k b) (ho : h.get? a = some o) (hd : o.data = .set es ep t) (sb : Heap.SameBut a h h') : TupK P w h' k b := by
  obtain ⟨ob, its, n, g, gc, gd, gi⟩ := x
  refine ⟨ob, its, n, (sb.2 b fun e => ?_).trans g, gc, gd, gi⟩
  rw [e, ho] at g
  injection g with g
  rw [← g, hd] at gd
  exact nomatch gd
theorem tup_on {h h' : Heap} {k : List Key} {b : Addr} (x : TupK P w h k b) (keep : forall c o, h.get? c = some o -> h'.get? c = some o) : TupK P w h' k b := by
  obtain ⟨ob, its, n, g, r⟩ := x
  exact ⟨ob, its, n, keep b ob g, r⟩
theorem mid_perm {α : Type} (l : List α) (n : Nat) (x : α) : (l.take n ++ x :: l.drop n).Perm (x :: l) := by
  have z : (l.take n ++ x :: l.drop n).Perm (x :: (l.take n ++ l.drop n)) := List.perm_middle
  rwa [List.take_append_drop] at z
theorem take_get {α : Type} (l : List α) : forall n, n ≤ l.length -> (List.range n).filterMap (fun i => l[i]?) = l.take n
  | 0, _ => rfl
  | n + 1, h => by
    rw [List.range_succ, List.filterMap_append, take_get l n (Nat.le_of_lt h), List.take_succ, List.getElem?_eq_getElem h, List.filterMap_cons_some (List.getElem?_eq_getElem h)] <;> rfl
/-- a table laid anew keeps the rows, in another order -/
theorem rows_order {L : TL} {es : Array (Int × Value)} {order : Array Nat} (hr : es.toList = rowsT P w L) (hp : order.toList.Perm (List.range L.length)) :
    exists L2, (order.filterMap (es[·]?)).toList = rowsT P w L2 ∧ L2.Perm L ∧ hsT P w L2 = order.toList.map fun i => (es.map (·.1)).getD i 0 := by
  have row : forall i (h : i < L.length), es[i]? = some (hashT P w (L[i]).1, Value.ref (L[i]).2) := fun i h => by
    rw [← Array.getElem?_toList, hr, rowsT, List.getElem?_map, List.getElem?_eq_getElem h] <;> rfl
  have go : forall l : List Nat, (forall i, i ∈ l -> i < L.length) -> l.filterMap (fun i => es[i]?) = rowsT P w (l.filterMap fun i => L[i]?) ∧ hsT P w (l.filterMap fun i => L[i]?) = l.map fun i => (es.map (·.1)).getD i 0 := by
    intro l
    induction l with
    | nil => intro _; exact ⟨rfl, rfl⟩
    | cons i l ih =>
      intro hl
      have il := hl i List.mem_cons_self
      obtain ⟨z1, z2⟩ := ih fun j hj => hl j (List.mem_cons_of_mem _ hj)
      have e4 : (es.map (·.1)).getD i 0 = hashT P w (L[i]).1 := by
        have e5 : (es.map (·.1))[i]? = some (hashT P w (L[i]).1) := by rw [Array.getElem?_map, row i il] <;> rfl
        simp [Array.getD_eq_getD_getElem?, e5]
      rw [List.filterMap_cons_some (row i il), List.filterMap_cons_some (List.getElem?_eq_getElem il), z1, List.map_cons, e4, ← z2]
      exact ⟨rfl, rfl⟩
  obtain ⟨z1, z2⟩ := go order.toList fun i hi => List.mem_range.mp (hp.mem_iff.mp hi)
  refine ⟨order.toList.filterMap fun i => L[i]?, by first | (rw [Array.toList_filterMap]; exact z1) | simpa using z1, ?_, z2⟩
  have z3 := hp.filterMap fun i => L[i]?
  rw [take_get L L.length (Nat.le_refl _), List.take_length] at z3
  exact z3
variable {a : Addr} {L : TL} {es : Array (Int × Value)} {ep : Nat} {t : SetTable}
theorem relayT {o : Obj} (ho : s.heap.get? a = some o) (hex : o.ExactSet) (hd : o.data = .set es ep t) (rows : es.toList = rowsT P w L) (pl : t.place.size = es.size) (dm : t.dummies = #[]) (fl : es.size ≤ t.mask)
    (nd : (L.map (·.1)).Nodup) (tup : forall p, p ∈ L -> TupK P w s.heap p.1 p.2) (ld : w.params.followText "set-order" = true ∨ t.led = true) (few : L.length < 64) {wanted m : Nat}
    (hw : SetTable.sizeAbove wanted - 1 = m) (hm : MaskOk m) (hw2 : SetTable.sizeAbove wanted ≤ 128) (hn : L.length * 5 < m * 3) {Q : Unit -> Shared -> Prop}
    (q : forall h' L' es' ep' t', Heap.SameBut a s.heap h' -> SetT P w h' a L' es' ep' t' -> L'.Perm L -> Q () { s with heap := h' }) : wpAny (model P w) A (setRelay a wanted) Q E s := by
  have hl : es.size = L.length := by rw [← Array.length_toList, rows, rowsT, List.length_map]
  have fits : t.fits es.size = true := by
    unfold SetTable.fits SetTable.fill
    rw [dm, Bool.and_eq_true, beq_iff_eq, decide_eq_true_eq]
    show t.place.size = es.size ∧ t.place.size + 0 ≤ t.mask
    omega
  obtain ⟨t', order, e, hp, T, em, el, _, ed⟩ := relaid_ok t (hs := es.map (·.1)) (wanted := wanted) hw hm (by rw [Array.size_map, hl]; omega)
  rw [Array.size_map, hl] at hp
  obtain ⟨L2, r1, r2, r3⟩ := rows_order rows hp
  rw [← r3] at T
  have hl2 : (order.filterMap (es[·]?)).size = es.size := by rw [← Array.length_toList, r1, rowsT, List.length_map, r2.length_eq, hl]
  rw [setRelay_eq]
  refine wpAny_bind (wpAny_setState_of ho hd fits ?_)
  dsimp only
  refine wp_if_neg (by rw [sizeLine_eq]; omega) ?_
  try refine wpAny_bind (wpAny_pure ?_)
  rw [e]
  dsimp only
  refine wpAny_bind ?_
  refine wp_if_neg (by rw [hl2]; simp) ?_
  try refine wpAny_bind (wpAny_pure ?_)
  refine wpAny_pure ?_
  dsimp only
  refine wpAny_storeSet_of ho hd ?_ (by rw [hl2, hl, sizeLine_eq]; omega)
  have sb : Heap.SameBut a s.heap (s.heap.update a (Obj.putSet (order.filterMap (es[·]?)) t')) := Heap.SameBut.update ..
  refine q _ L2 (order.filterMap (es[·]?)) (ep + 1) t' sb ⟨⟨_, store_at ho hd, ⟨hex.1, hex.2.1, hex.2.2⟩, rfl⟩, r1, T, (r2.map (·.1)).nodup_iff.mpr nd, fun p pm => tup_but (tup p (r2.mem_iff.mp pm)) ho hd sb, by rw [el]; exact ld, ?_, by rw [r2.length_eq]; exact few⟩ r2
  rw [r2.length_eq, em]
  exact hn
theorem TabOk.plainOff {t : SetTable} {hs : List Int} {b : Bool} (T : TabOk t hs) : TabOk { t with plain := b } hs := ⟨T.ris, T.dm, T.sz, T.mok, T.bd, T.reach⟩
/-- a row goes in -/
theorem addT (R : SetT P w s.heap a L es ep t) {x : Addr} {k : List Key} (hx : TupK P w s.heap k x) (hu : A.units < cLine) (few : L.length + 1 < 64) {Q : Bool -> Shared -> Prop}
    (q : forall b h' L' es' ep' t', Heap.SameBut a s.heap h' -> SetT P w h' a L' es' ep' t' -> (k ∈ L.map (·.1) -> L' = L) -> (k ∉ L.map (·.1) -> L'.Perm ((k, x) :: L)) -> Q b { s with heap := h' }) :
    wpAny (model P w) A (setAddHashed a (.ref x) (hashT P w k)) Q E s := by
  obtain ⟨o, ho, hex, hd⟩ := R.ob
  have sz := R.size
  have rm := R.room
  unfold setAddHashed
  refine wpAny_holding ?_
  rw [show (100000 : Nat) = 99999 + 1 from rfl, setAddHashedIn_succ]
  refine wpAny_bind (wpAny_setState_of ho hd R.fits ?_)
  dsimp only
  refine wp_if_neg (by simp [byScan, Value.scannable]) ?_
  try refine wpAny_bind (wpAny_pure ?_)
  refine wpAny_bind (findT R hx hu (fun hm => ?_) fun K hm kn kb => ?_)
  · dsimp only
    exact wpAny_pure (q false s.heap L es ep t (Heap.SameBut.refl a s.heap) R (fun _ => rfl) fun z => absurd hm z)
  dsimp only
  refine wpAny_bind (wpAny_setState_of ho hd R.fits ?_)
  dsimp only
  obtain ⟨p1, p2, p3, p4, p5, _, _, _, p9⟩ := R.tab.put kn kb
  generalize hpt : t.put (way t.mask (hashT P w k) K) = pt at p1 p3 p4 p5 p9 ⊢
  obtain ⟨t1, n⟩ := pt
  dsimp only at p1 p3 p4 p5 p9 ⊢
  subst p1
  have perm := mid_perm L (SetTable.below t.place (way t.mask (hashT P w k) K)) (k, x)
  have rows : (SetTable.insertAt es (SetTable.below t.place (way t.mask (hashT P w k) K)) (hashT P w k, Value.ref x)).toList = rowsT P w (L.take (SetTable.below t.place (way t.mask (hashT P w k) K)) ++ (k, x) :: L.drop (SetTable.below t.place (way t.mask (hashT P w k) K))) := by
    rw [SetTable.toList_insertAt, R.rows, rowsT, rowsT, List.map_append, List.map_cons, List.map_take, List.map_drop]
  have hh : hsT P w (L.take (SetTable.below t.place (way t.mask (hashT P w k) K)) ++ (k, x) :: L.drop (SetTable.below t.place (way t.mask (hashT P w k) K))) = (hsT P w L).take (SetTable.below t.place (way t.mask (hashT P w k) K)) ++ hashT P w k :: (hsT P w L).drop (SetTable.below t.place (way t.mask (hashT P w k) K)) := by
    rw [hsT, hsT, List.map_append, List.map_cons, List.map_take, List.map_drop]
  rw [← hh] at p3
  generalize SetTable.below t.place (way t.mask (hashT P w k) K) = n at p2 p3 perm rows ⊢
  have len1 : (L.take n ++ (k, x) :: L.drop n).length = L.length + 1 := perm.length_eq
  generalize L.take n ++ (k, x) :: L.drop n = L1 at p3 perm rows len1
  generalize hes : SetTable.insertAt es n (hashT P w k, Value.ref x) = es1 at rows ⊢
  have sz1 : es1.size = L.length + 1 := by rw [← Array.length_toList, rows, rowsT, List.length_map, len1]
  have nd1 : (L1.map (·.1)).Nodup := by
    refine (perm.map (·.1)).nodup_iff.mpr ?_
    rw [List.map_cons]
    exact List.nodup_cons.mpr ⟨hm, R.nd⟩
  have ld1 : w.params.followText "set-order" = true ∨ t1.led = true := by rw [p5]; exact R.led
  have last : forall t2 : SetTable, TabOk t2 (hsT P w L1) -> t2.mask = t.mask -> (w.params.followText "set-order" = true ∨ t2.led = true) -> t2.fill = L.length + 1 ->
      wpAny (model P w) A (do
        storeSet a es1 t2
        if (!false && t2.tooFull) = true then setRelay a (SetTable.grown (es.size + 1))
        return true) Q E s := by
    intro t2 T2 m2 l2 f2
    refine wpAny_bind (wpAny_storeSet_of ho hd ?_ (by rw [sz1, sizeLine_eq]; omega))
    have sb : Heap.SameBut a s.heap (s.heap.update a (Obj.putSet es1 t2)) := Heap.SameBut.update ..
    have ho1 := store_at (es' := es1) (t' := t2) ho hd
    generalize s.heap.update a (Obj.putSet es1 t2) = h1 at sb ho1 ⊢
    have tup1 : forall p, p ∈ L1 -> TupK P w h1 p.1 p.2 := fun p pm => by
      rcases List.mem_cons.mp (perm.mem_iff.mp pm) with e | pm
      · rw [e]
        exact tup_but hx ho hd sb
      · exact tup_but (R.tup p pm) ho hd sb
    by_cases full : t2.tooFull = true
    · first
        | (refine wpAny_bind ?_; refine wp_if_pos (by simp [full]) ?_)
        | (refine wp_if_pos (by simp [full]) ?_; refine wpAny_bind ?_)
      have many : (L.length + 1) * 5 ≥ t2.mask * 3 := by
        have z := full
        unfold SetTable.tooFull at z
        rw [decide_eq_true_eq, f2] at z
        exact z
      have two : (t.mask = 7 ∧ L.length = 4) ∨ (t.mask = 31 ∧ L.length = 18) := by
        rcases R.tab.mok with e | e | e
        · left
          rw [m2, e] at many
          rw [e] at rm
          exact ⟨e, by omega⟩
        · right
          rw [m2, e] at many
          rw [e] at rm
          exact ⟨e, by omega⟩
        · rw [m2, e] at many
          omega
      have pl1 : t2.place.size = es1.size := by rw [T2.sz, hsT, List.length_map, len1, sz1]
      rw [sz]
      have go : forall m, SetTable.sizeAbove (SetTable.grown (L.length + 1)) - 1 = m -> MaskOk m -> SetTable.sizeAbove (SetTable.grown (L.length + 1)) ≤ 128 -> (L.length + 1) * 5 < m * 3 ->
          wpAny (model P w) A (setRelay a (SetTable.grown (L.length + 1))) (fun _ s' => wpAny (model P w) A (pure true) Q E s') E { s with heap := h1 } := fun m z1 z2 z3 z4 => by
        refine relayT (s := { s with heap := h1 }) ho1 ⟨hex.1, hex.2.1, hex.2.2⟩ rfl rows pl1 T2.dm (by rw [sz1, m2]; rcases two with ⟨e, e2⟩ | ⟨e, e2⟩ <;> omega) nd1 tup1 l2 (by rw [len1]; exact few) z1 z2 z3 (by rw [len1]; exact z4) ?_
        intro h2 L2 es2 ep2 t3 sb2 R2 perm2
        exact wpAny_pure (q true h2 L2 es2 ep2 t3 (sb.trans sb2) R2 (fun z => absurd z hm) fun _ => perm2.trans perm)
      rcases two with ⟨_, e2⟩ | ⟨_, e2⟩
      · exact go 31 (by rw [e2, size_20]) (.inr (.inl rfl)) (by rw [e2, size_20]; decide) (by omega)
      · exact go 127 (by rw [e2, size_76]) (.inr (.inr rfl)) (by rw [e2, size_76]; decide) (by omega)
    · first
        | refine wp_if_neg (by simp [full]) ?_
        | (refine wpAny_bind ?_; refine wp_if_neg (by simp [full]) ?_; refine wpAny_pure ?_)
      refine wpAny_pure (q true h1 L1 es1 (ep + 1) t2 sb ⟨⟨_, ho1, ⟨hex.1, hex.2.1, hex.2.2⟩, rfl⟩, rows, T2, nd1, tup1, l2, ?_, by rw [len1]; exact few⟩ (fun z => absurd z hm) fun _ => perm)
      have z := full
      unfold SetTable.tooFull at z
      rw [decide_eq_true_eq, f2] at z
      rw [len1]
      omega
  have fl : t1.fill = L.length + 1 := by rw [p9, hsT, List.length_map]
  have tail2 : forall c : Bool, wpAny (model P w) A (do
        storeSet a es1 (if c = true then t1 else { t1 with plain := false })
        if (!false && (if c = true then t1 else { t1 with plain := false } : SetTable).tooFull) = true then setRelay a (SetTable.grown (es.size + 1))
        return true) Q E s := fun c => by
    cases c with
    | true => exact last t1 p3 p4 ld1 fl
    | false => exact last _ (TabOk.plainOff p3) p4 ld1 fl
  by_cases pln : t1.plain = true
  · first
      | (refine wpAny_bind ?_; refine wp_if_pos pln ?_; refine hby_tup hx fun c => ?_)
      | refine wp_if_pos pln (wpAny_bind (hby_tup hx fun c => ?_))
    exact tail2 c
  · first
      | (refine wpAny_bind ?_; refine wp_if_neg pln ?_; refine wpAny_pure ?_)
      | refine wp_if_neg pln (wpAny_bind (wpAny_pure ?_))
    exact tail2 true
end
end Ak
/-! Ak 19: sets of flat keys; set(xs). -/
namespace Ak
open PySem PySem.Spec PyProof.Rows L2
section
variable {P : Program} {w : World} {A : Around} {E : Value -> Shared -> Prop} {s : Shared}
abbrev KL : Type := List (Key × Value)
def rowsF (w : World) (L : KL) : List (Int × Value) := L.map fun p => (keyH w p.1, p.2)
structure SetF (w : World) (h : Heap) (a : Addr) (L : KL) (es : Array (Int × Value)) (ep : Nat) (t : SetTable) : Prop where
  ob : exists o, h.get? a = some o ∧ o.ExactSet ∧ o.data = .set es ep t
  rows : es.toList.Perm (rowsF w L)
  isk : forall p, p ∈ L -> keyIs p.1 p.2 = true
  nd : (L.map (·.1)).Nodup
  ris : Ris t.place.toList
  fits : t.fits es.size = true
  led : w.params.followText "set-order" = true ∨ t.led = true
  few : L.length < 64
variable {a : Addr} {L : KL} {es : Array (Int × Value)} {ep : Nat} {t : SetTable}
theorem key_scn {k : Key} {v : Value} (r : keyIs k v = true) : v.scannable = true := by
  rcases keyIs_shape r with ⟨i, t, e1, e2⟩ | ⟨x, t, e1, e2⟩
  · subst e2
    rfl
  · subst e2
    rfl
theorem SetF.elems (R : SetF w s.heap a L es ep t) : ElemsOf (mixKind P w) es.toList := fun e me => by
  obtain ⟨p, pm, ep⟩ := List.mem_map.mp (R.rows.mem_iff.mp me)
  have z := R.isk p pm
  subst ep
  exact ⟨⟨p.1, z, rfl⟩, key_scn z⟩
theorem SetF.size (R : SetF w s.heap a L es ep t) : es.size = L.length := by
  rw [← Array.length_toList, R.rows.length_eq, rowsF, List.length_map]
theorem addF_end {g : Bool -> Sem Unit} (hg : forall (b : Bool) (s1 : Shared) (Q' : Unit -> Shared -> Prop), Q' () s1 -> wpAny (model P w) A (g b) Q' E s1)
    {o : Obj} (ho : s.heap.get? a = some o) (hex : o.ExactSet) (hd : o.data = .set es ep t)
    {es1 : Array (Int × Value)} {t2 : SetTable} {L1 : KL} (rows : es1.toList.Perm (rowsF w L1)) (isk : forall p, p ∈ L1 -> keyIs p.1 p.2 = true) (nd : (L1.map (·.1)).Nodup)
    (few : L1.length < 64) (fit : t2.fits es1.size = true) (ris : Ris t2.place.toList) (led : w.params.followText "set-order" = true ∨ t2.led = true) {was : Bool} {R : Option Bool -> Shared -> Prop}
    (q : forall h' es' ep' t', Heap.SameBut a s.heap h' -> SetF w h' a L1 es' ep' t' -> R (some true) { s with heap := h' }) :
    wpAny (model P w) A (do
        storeSet a es1 t2
        if (!was && t2.tooFull) = true then do
            g (relayAll t2 es1 (SetTable.grown es1.size)).2.2
            storeSet a (relayAll t2 es1 (SetTable.grown es1.size)).1 (relayAll t2 es1 (SetTable.grown es1.size)).2.1
            pure (some true)
          else pure (some true)) R E s := by
  have sz1 : es1.size = L1.length := by rw [← Array.length_toList, rows.length_eq, rowsF, List.length_map]
  refine wpAny_bind (wpAny_storeSet_of ho hd ?_ (by rw [sz1, sizeLine_eq]; omega))
  have ho1 := store_at (es' := es1) (t' := t2) ho hd
  have sb1 := Heap.SameBut.update s.heap a (Obj.putSet es1 t2)
  split
  · have y1 := relayAll_perm t2 es1 (SetTable.grown es1.size)
    have y2 := relayAll_fits t2 es1 (SetTable.grown es1.size)
    have y3 := relayAll_ris t2 es1 (SetTable.grown es1.size)
    have y4 := relayAll_led t2 es1 (SetTable.grown es1.size)
    generalize relayAll t2 es1 (SetTable.grown es1.size) = Z at y1 y2 y3 y4 ⊢
    obtain ⟨es2, t3, gave⟩ := Z
    dsimp only at y1 y2 y3 y4 ⊢
    have sz2 : es2.size = L1.length := by rw [← Array.length_toList, y1.length_eq, Array.length_toList, sz1]
    refine wpAny_bind (hg _ _ _ ?_)
    refine wpAny_bind (wpAny_storeSet_of ho1 rfl ?_ (by rw [sz2, sizeLine_eq]; omega))
    have ho2 := store_at (es' := es2) (t' := t3) ho1 rfl
    exact wpAny_pure (q _ es2 _ t3 (sb1.trans (Heap.SameBut.update _ a _)) ⟨⟨_, ho2, hex, rfl⟩, y1.trans rows, isk, nd, y3, y2, led.imp id fun z => by rw [y4]; exact z, few⟩)
  · exact wpAny_pure (q _ es1 _ t2 sb1 ⟨⟨_, ho1, hex, rfl⟩, rows, isk, nd, ris, fit, led, few⟩)
theorem addF (R : SetF w s.heap a L es ep t) {v : Value} {k : Key} (hk : keyIs k v = true) (few : L.length + 1 < 64) {Q : Bool -> Shared -> Prop}
    (q : forall b h' L' es' ep' t', Heap.SameBut a s.heap h' -> SetF w h' a L' es' ep' t' -> (k ∈ L.map (·.1) -> L' = L) -> (k ∉ L.map (·.1) -> L'.Perm ((k, v) :: L)) -> Q b { s with heap := h' }) :
    wpAny (model P w) A (setAddHashed a v (keyH w k)) Q E s := by
  obtain ⟨o, ho, hex, hd⟩ := R.ob
  have el : ElemsOf (mixKind P w) es.toList := R.elems
  have sz := R.size
  have bd : es.size < scanBound := by
    rw [sz]
    unfold scanBound
    omega
  have hkey : (mixKind P w).is k v = true := hk
  have hsc := key_scn hk
  unfold setAddHashed setAddHashedIn
  refine wpAny_holding (wpAny_bind (wpAny_setState_of ho hd R.fits ?_))
  dsimp only
  rw [byScan_of hsc bd el]
  simp only [↓reduceIte]
  unfold setAddByScan
  refine wpAny_bind ?_
  refine wpAny_bind (wpAny_rule ?_)
  refine wpAny_bind (wpAny_setScan_of (knd := mixKind P w) hkey ho hd R.fits el ?_)
  have rowk : forall e, e ∈ es.toList -> (mixKind P w).is k e.2 = true -> k ∈ L.map (·.1) := fun e me z => by
    obtain ⟨p, pm, ep⟩ := List.mem_map.mp (R.rows.mem_iff.mp me)
    have z2 := R.isk p pm
    subst ep
    exact List.mem_map.mpr ⟨p, pm, (mixKind P w).inj _ _ _ z2 z⟩
  cases hfi : List.findIdx? (fun e => (mixKind P w).is k e.2) es.toList with
  | some j =>
    dsimp only
    obtain ⟨hj, pj, _⟩ := List.findIdx?_eq_some_iff_getElem.mp hfi
    refine wpAny_pure (wpAny_pure ?_)
    have km := rowk _ (List.getElem_mem hj) pj
    exact q _ s.heap L es ep t (Heap.SameBut.refl a s.heap) R (fun _ => rfl) fun z => absurd km z
  | none =>
    dsimp only
    have kn : k ∉ L.map (·.1) := fun z => by
      obtain ⟨p, pm, e⟩ := List.mem_map.mp z
      have me : (keyH w p.1, p.2) ∈ es.toList := R.rows.mem_iff.mpr (List.mem_map.mpr ⟨p, pm, rfl⟩)
      have c := List.findIdx?_eq_none_iff.mp hfi _ me
      have z2 := R.isk p pm
      rw [e] at z2
      have c2 : (mixKind P w).is k p.2 = false := by simpa using c
      rw [show (mixKind P w).is k p.2 = true from z2] at c2
      cases c2
    have hgw : forall (b : Bool) {s1 : Shared} {Q' : Unit -> Shared -> Prop}, Q' () s1 -> wpAny (model P w) A (match b with | true => rule "set.scan.the-table-gave-way" | false => pure ()) Q' E s1 :=
      fun b s1 Q' z => by cases b <;> first | exact wpAny_pure z | exact wpAny_rule z
    have y1 := layNew_perm t es ((mixKind P w).hash k) v
    have y2 := layNew_fits t es ((mixKind P w).hash k) v
    have y3 := layNew_ris t es ((mixKind P w).hash k) v R.ris
    have y4 := layNew_led t es ((mixKind P w).hash k) v
    rw [show keyH w k = (mixKind P w).hash k from rfl]
    generalize layNew t es ((mixKind P w).hash k) v = Z at y1 y2 y3 y4 ⊢
    obtain ⟨es1, t1, was, gave⟩ := Z
    dsimp only at y1 y2 y3 y4 ⊢
    rw [Array.toList_push] at y1
    have rows : es1.toList.Perm (rowsF w ((k, v) :: L)) := y1.trans ((List.perm_append_singleton _ _).trans (R.rows.cons _))
    have isk : forall p, p ∈ (k, v) :: L -> keyIs p.1 p.2 = true := fun p pm => by
      rcases List.mem_cons.mp pm with e | pm
      · rw [e]
        exact hk
      · exact R.isk p pm
    have nd : (((k, v) :: L).map (·.1)).Nodup := List.nodup_cons.mpr ⟨kn, R.nd⟩
    have led : w.params.followText "set-order" = true ∨ t1.led = true := R.led.imp id fun z => by rw [y4]; exact z
    have fin : forall h' es' ep' t', Heap.SameBut a s.heap h' -> SetF w h' a ((k, v) :: L) es' ep' t' -> Q true { s with heap := h' } := fun h' es' ep' t' sb r => q true h' _ es' ep' t' sb r (fun z => absurd z kn) fun _ => List.Perm.refl _
    refine wpAny_bind (hgw _ ?_)
    split
    · refine wpAny_bind ?_
      rw [hashByValue_scannable 8 hsc]
      refine wpAny_pure ?_
      refine addF_end ?_ ho hex hd rows isk nd few ?_ ?_ ?_ ?_
      · intro b s1 Q' z
        cases b <;> first | exact wpAny_pure z | exact wpAny_rule z
      · first | (split <;> first | exact y2 | exact SetTable.fits_plain_off y2) | exact y2
      · first | (split <;> exact y3) | exact y3
      · first | (split <;> exact led) | exact led
      · intro h' es' ep' t' sb r
        dsimp only
        exact wpAny_pure (fin h' es' ep' t' sb r)
    · refine wpAny_bind (wpAny_pure ?_)
      simp only [↓reduceIte]
      refine addF_end ?_ ho hex hd rows isk nd few y2 y3 led ?_
      · intro b s1 Q' z
        cases b <;> first | exact wpAny_pure z | exact wpAny_rule z
      · intro h' es' ep' t' sb r
        dsimp only
        exact wpAny_pure (fin h' es' ep' t' sb r)
end
/-! ### what a set has got -/
structure Gat {κ β : Type} (ks : List (κ × β)) (i : Nat) (L : List (κ × β)) : Prop where
  sub : forall p, p ∈ L -> p ∈ ks.take i
  all : forall p, p ∈ ks.take i -> p.1 ∈ L.map (·.1)
  len : L.length ≤ i
theorem Gat.zero {κ β : Type} (ks : List (κ × β)) : Gat ks 0 [] := ⟨fun p h => (by cases h), fun p h => (by simp at h), Nat.le_refl _⟩
theorem Gat.next {κ β : Type} {ks L L' : List (κ × β)} {i : Nat} {x : κ × β} (g : Gat ks i L) (h : ks[i]? = some x) (c1 : x.1 ∈ L.map (·.1) -> L' = L) (c2 : x.1 ∉ L.map (·.1) -> L'.Perm (x :: L)) : Gat ks (i + 1) L' := by
  have tk : ks.take (i + 1) = ks.take i ++ [x] := by rw [List.take_succ, h] <;> rfl
  rcases Classical.em (x.1 ∈ L.map (·.1)) with c | c
  · rw [c1 c]
    refine ⟨fun p m => by rw [tk]; exact List.mem_append_left _ (g.sub p m), fun p m => ?_, Nat.le_succ_of_le g.len⟩
    rw [tk] at m
    rcases List.mem_append.mp m with z | z
    · exact g.all p z
    · rw [List.mem_singleton.mp z]
      exact c
  · have pm := c2 c
    refine ⟨fun p m => ?_, fun p m => ?_, ?_⟩
    · rw [tk]
      rcases List.mem_cons.mp (pm.mem_iff.mp m) with e | z
      · rw [e]
        exact List.mem_append_right _ (List.mem_singleton.mpr rfl)
      · exact List.mem_append_left _ (g.sub p z)
    · rw [(pm.map (·.1)).mem_iff, List.map_cons]
      rw [tk] at m
      rcases List.mem_append.mp m with z | z
      · exact List.mem_cons_of_mem _ (g.all p z)
      · rw [List.mem_singleton.mp z]
        exact List.mem_cons_self
    · rw [pm.length_eq, List.length_cons]
      exact Nat.succ_le_succ g.len
/-- what a kind of set must do -/
structure Ksu (P : Program) (w : World) (u : Nat) (κ β : Type) (val : β -> Value) (ks : List (κ × β)) (h0 : Heap) (S : Addr) (Z : Heap -> List (κ × β) -> Prop) : Prop where
  fresh : forall h, h.get? S = some { cls := .type "set", dict := none, data := .set #[] 0 (.fresh 0 0 (!w.params.followText "set-order")) } -> Z h []
  move : forall L h h', Z h L -> (forall p, p ∈ L -> p ∈ ks) -> (forall o, h.get? S = some o -> h'.get? S = some o) -> (forall b o, h0.get? b = some o -> h'.get? b = some o) -> Z h' L
  add : forall {A : Around} {E : Value -> Shared -> Prop} {s : Shared} {i : Nat} {p : κ × β} {L : List (κ × β)} {Q : Bool -> Shared -> Prop}, A.units ≤ u -> ks[i]? = some p -> Z s.heap L -> L.length ≤ i -> (forall b o, h0.get? b = some o -> s.heap.get? b = some o) ->
    (forall b h' tk L', s.toks ≤ tk -> Heap.SameBut S s.heap h' -> Z h' L' -> (p.1 ∈ L.map (·.1) -> L' = L) -> (p.1 ∉ L.map (·.1) -> L'.Perm (p :: L)) -> Q b { s with heap := h', toks := tk }) -> wpAny (model P w) A (setAdd S (val p.2)) Q E s
section
variable {P : Program} {w : World} {A : Around} {E : Value -> Shared -> Prop} {s : Shared} {κ β : Type} {val : β -> Value} {ks : List (κ × β)} {h0 : Heap} {S : Addr} {Z : Heap -> List (κ × β) -> Prop} {u : Nat}
theorem upd_loop {I : Addr} {fp wr : List Addr} {G : Array GenState -> Array GenState -> Prop} {n : Nat} {Pv : Nat -> Value -> Prop} {St : Nat -> Shared -> Prop} {R : Result -> Shared -> Prop}
    (W : WalksS P w A.in1 I fp wr G n Pv St) (hu : A.in1.units ≤ u) (C : Ksu P w u κ β val ks h0 S Z) (hSf : S ∉ fp) (hn : n = ks.length) (hval : forall i v, Pv i v -> exists p, ks[i]? = some p ∧ v = val p.2)
    (hS0 : h0.get? S = none) (hw0 : forall b, b ∈ wr -> h0.get? b = none) :
    forall (k i : Nat) (s : Shared), n - i = k -> i ≤ n -> St i s -> (forall b o, h0.get? b = some o -> s.heap.get? b = some o) -> (exists L, Z s.heap L ∧ Gat ks i L) ->
      (forall s' L, Moved (S :: wr) G s s' -> Z s'.heap L -> Gat ks n L -> (forall b o, h0.get? b = some o -> s'.heap.get? b = some o) -> R (.ok (.ret .none)) s') ->
      codeAny (model P w) A (.builtin "set.update.loop" ⟨[.ref S, .ref I], []⟩) R s := by
  have away : S ∉ wr := fun h => hSf (W.sub _ h)
  have wider : forall b, b ∈ wr -> b ∈ S :: wr := fun b hb => List.mem_cons_of_mem _ hb
  have on : forall {s s' : Shared}, Moved wr G s s' -> (forall b o, h0.get? b = some o -> s.heap.get? b = some o) -> forall b o, h0.get? b = some o -> s'.heap.get? b = some o := fun m keep b o e =>
    m.heap b o (fun hb => by rw [hw0 b hb] at e; cases e) (keep b o e)
  intro k
  induction k with
  | zero =>
    intro i s z1 z2 st keep ⟨L, hz, g⟩ q
    have e : i = n := by omega
    subst e
    refine codeAny_builtin PyProof.Rows.F.entry_set_update_loop ?_
    rw [Around.under_plainId PyProof.Rows.F.plain_set_update_loop _]
    show wpAny _ A.in1 (pyNext (.ref I) >>= _) _ _ s
    refine wpAny_bind (W.done s _ _ st fun s' m => ?_)
    show wpAny _ A.in1 (ret Value.none) _ _ s'
    have keep' := on m keep
    exact wpAny_pure (q s' L (m.mono wider) (C.move L _ _ hz (fun p pm => List.mem_of_mem_take (g.sub p pm)) (fun o e => m.heap S o away e) keep') g keep')
  | succ k ih =>
    intro i s z1 z2 st keep ⟨L, hz, g⟩ q
    have lt : i < n := by omega
    refine codeAny_builtin PyProof.Rows.F.entry_set_update_loop ?_
    rw [Around.under_plainId PyProof.Rows.F.plain_set_update_loop _]
    show wpAny _ A.in1 (pyNext (.ref I) >>= _) _ _ s
    refine wpAny_bind (W.item i s _ _ lt st fun v s' pv st' m => ?_)
    obtain ⟨p, hp, ev⟩ := hval i v pv
    subst ev
    have keep' := on m keep
    have hz' : Z s'.heap L := C.move L _ _ hz (fun p pm => List.mem_of_mem_take (g.sub p pm)) (fun o e => m.heap S o away e) keep'
    show wpAny _ A.in1 (holding [val p.2] (setAdd S (val p.2)) >>= _) _ _ s'
    refine wpAny_bind (wpAny_holding ?_)
    refine C.add hu hp hz' g.len keep' fun b h' tk L' ltk sb hz2 c1 c2 => ?_
    have keep2 : forall b o, h0.get? b = some o -> h'.get? b = some o := fun b o e => (sb.2 b (fun z => by rw [z, hS0] at e; cases e)).trans (keep' b o e)
    refine wpAny_pure ⟨plainId_quiet PyProof.Rows.F.plain_set_update_loop _, ih (i + 1) _ (by omega) lt (W.frame _ s' _ _ st' ltk fun b hb o e => ?_) keep2 ⟨L', hz2, g.next hp c1 c2⟩ fun s2 L2 m2 hz3 g3 keep3 => ?_⟩
    · rw [sb.2 b (fun z : b = S => hSf (by rw [← z]; exact hb))]
      exact e
    · refine q s2 L2 (Moved.trans W.gtrans ((m.mono wider).then_heap ltk fun b o hb e => ?_) m2) hz3 g3 keep3
      rw [sb.2 b (fun z : b = S => hb (by rw [z]; exact List.mem_cons_self))]
      exact e
end
end Ak
/-! Ak 20: set(xs) of a list or a tuple. -/
namespace Ak
open PySem PySem.Spec PyProof.Rows L2
section
variable {P : Program} {w : World} {A : Around} {E : Value -> Shared -> Prop} {s : Shared} {κ β : Type} {val : β -> Value} {ks : List (κ × β)} {Z : Heap -> List (κ × β) -> Prop} {u : Nat}

theorem call_set_list {l : Addr} {items : Array Value} {Q : Value -> Shared -> Prop} (calm : A.handled = none) (hl : s.heap.IsList l items) (hit : items.toList = ks.map fun p => val p.2)
    (hu : A.units + 3 ≤ u) (C : Ksu P w u κ β val ks s.heap s.heap.objs.size Z)
    (q : forall (h' : Heap) (tk : Nat) L, Z h' L -> Gat ks ks.length L -> (forall b o, s.heap.get? b = some o -> h'.get? b = some o) -> Q (.ref s.heap.objs.size) { s with heap := h', toks := tk }) :
    wpAny (model P w) A (call (.type "set") [.ref l]) Q E s := by
  have isz : items.size = ks.length := by rw [← Array.length_toList, hit, List.length_map]
  obtain ⟨c0, tl0, mro0⟩ := PySem.F.called_set.mro
  have mk0 := PySem.F.called_set.made
  have sub0 := PySem.F.called_set.sub
  refine wpAny_call (codeAny_of_tree ?_)
  show wpAny _ _ (callAny (.type "set") _) _ _ _
  refine wpAny_pure ⟨Code.quiet_builtin _ (by decide +kernel), codeAny_builtin PySem.F.entry_type_call ?_⟩
  rw [Around.under_plain (weight_type_call_type "set" [.ref l] []) rfl]
  have f1 := PySem.F.called_set.notType
  have f2 := PySem.F.called_set.canCreate
  have f3 := PySem.F.typeCall_set_1 (.ref l)
  repeat (any_goals (first | assumption | wp_step))

  refine codeAny_mono (code_set_led1 (.ref l) (E := E) (Q₁ := fun ob s1 => ob = .ref s.heap.objs.size ∧ s1 = { s with heap := s.heap.push { cls := .type "set", dict := none, data := .set #[] 0 (.fresh 0 0 (!w.params.followText "set-order")) } }) ⟨rfl, rfl⟩) fun r s1 hr => ?_
  cases r with
  | error e => exact hr
  | ok fl =>
    cases fl with
    | next => exact hr.elim
    | brk => exact hr.elim
    | cont => exact hr.elim
    | ret ob =>
      obtain ⟨e1, e2⟩ := hr
      subst e1 e2
      have gS : (s.heap.push { cls := .type "set", dict := none, data := .set #[] 0 (.fresh 0 0 (!w.params.followText "set-order")) }).get? s.heap.objs.size = some { cls := .type "set", dict := none, data := .set #[] 0 (.fresh 0 0 (!w.params.followText "set-order")) } := Heap.get?_push_size _ rfl
      have tS : Shared.TypeIs { s with heap := s.heap.push { cls := .type "set", dict := none, data := .set #[] 0 (.fresh 0 0 (!w.params.followText "set-order")) } } (.ref s.heap.objs.size) "set" := ⟨_, gS, rfl⟩
      have f4 := PySem.F.called_set.init.lookup
      have f5 := PySem.F.called_set.init.bind (.ref s.heap.objs.size)
      repeat (any_goals (first | assumption | wp_step))

      refine codeAny_mono (codeAny_call_builtin (R := wants (fun r s2 => r = .none ∧ exists h' tk L, s2 = { s with heap := h', toks := tk } ∧ Z h' L ∧ Gat ks ks.length L ∧ (forall b o, s.heap.get? b = some o -> h'.get? b = some o)) E) PySem.F.called_set.init.plain PySem.F.entry_set_init (check_set_init_1 tS ?_)) fun r2 s2 hr2 => ?_
      · obtain ⟨ol, gl, cl, nl, dl⟩ := hl
        obtain ⟨ocls, odict, odata, oslots⟩ := ol
        simp only at cl dl
        subst cl dl
        have gl1 : (s.heap.push { cls := .type "set", dict := none, data := .set #[] 0 (.fresh 0 0 (!w.params.followText "set-order")) }).get? l = some { cls := .type "list", dict := odict, data := .seq items nl, slots := oslots } := Heap.get?_push_of_some _ gl
        have f6 := F.sub_list_set
        have f7 := F.sub_list_frozenset
        have f8 : (Value.type "list" == Value.type "dict") = false := by decide
        have il : (s.heap.push { cls := .type "set", dict := none, data := .set #[] 0 (.fresh 0 0 (!w.params.followText "set-order")) }).IsList l items := ⟨_, gl1, rfl, nl, rfl⟩
        unfold Builtin.«set.__init__» noKeywords Builtin.Frozenset.updateFrom
        generalize hPI : pyIter = PI
        wp_walk
        subst hPI

        refine wpAny_pyIter_list il ?_
        refine wpAny_bind (wpAny_runValue ?_)
        have lS : l < s.heap.objs.size := Heap.lt_size gl
        have calm3 : A.in1.in1.in1.handled = none := by simp [calm]
        have lI : l ≠ (s.heap.push { cls := .type "set", dict := none, data := .set #[] 0 (.fresh 0 0 (!w.params.followText "set-order")) }).objs.size := by
          rw [Heap.size_push]
          exact Nat.ne_of_lt (Nat.lt_succ_of_lt lS)
        have sf : s.heap.objs.size ∉ [(s.heap.push { cls := .type "set", dict := none, data := .set #[] 0 (.fresh 0 0 (!w.params.followText "set-order")) }).objs.size, l] := by
          rw [Heap.size_push]
          simp only [List.mem_cons, List.mem_singleton, List.not_mem_nil, or_false, not_or]
          exact ⟨Nat.ne_of_lt (Nat.lt_succ_self _), Nat.ne_of_gt lS⟩
        have each : forall (i : Nat) (v : Value), items[i]? = some v -> exists p, ks[i]? = some p ∧ v = val p.2 := fun i v hv => by
          rw [← Array.getElem?_toList, hit, List.getElem?_map] at hv
          cases hq : ks[i]? with
          | none =>
            rw [hq] at hv
            cases hv
          | some p =>
            rw [hq] at hv
            exact ⟨p, rfl, (Option.some.inj hv).symm⟩
        have fresh : forall b, s.heap.objs.size ≤ b -> s.heap.get? b = none := fun b hb => by
          cases z : s.heap.get? b with
          | none => rfl
          | some o => exact absurd (Nat.lt_of_lt_of_le (Heap.lt_size z) hb) (Nat.lt_irrefl _)
        refine upd_loop ((Walks.list calm3 _ l lI items).toS) (by show A.units + 3 ≤ u; exact hu) C sf isz each (fresh _ (Nat.le_refl _)) (fun b hb => fresh b (by
            rw [List.mem_singleton.mp hb, Heap.size_push]
            exact Nat.le_succ _)) (items.size - 0) 0 _ (by omega) (Nat.zero_le _)
          ⟨⟨_, Heap.get?_push_size _ rfl, rfl, rfl⟩, (il.push _)⟩ (fun b o e => Heap.get?_push_of_some _ (Heap.get?_push_of_some _ e)) ?hS0 ?hR
        case hS0 => exact ⟨[], C.fresh _ (Heap.get?_push_of_some _ gS), Gat.zero ks⟩
        case hR =>
          intro s' L m hz g keep
          obtain ⟨h', g2, d', tk', os'⟩ := s'
          have eg : g2 = s.gens := m.gens
          have ed : d' = s.drawn := m.drawn
          have eo : os' = s.os := m.os
          subst eg ed eo
          show wpAny _ _ _ _ _ _
          refine wpAny_pure ?_
          show wpAny _ _ (ret Value.none) _ _ _
          rw [isz] at g
          exact wpAny_pure ⟨rfl, h', tk', L, rfl, hz, g, keep⟩
      · cases r2 with
        | error e => exact hr2
        | ok fl2 =>
          cases fl2 with
          | next => exact hr2.elim
          | brk => exact hr2.elim
          | cont => exact hr2.elim
          | ret r =>
            obtain ⟨e3, h', tk, L, e4, hz, g, keep⟩ := hr2
            subst e3 e4
            repeat (any_goals (first | assumption | wp_step))
            exact q _ _ _ hz g keep

end
end Ak
/-! Ak 21: sorted(set(xs)). -/
namespace Ak
open PySem PySem.Spec PyProof.Rows L2
theorem perm_lift {α β : Type} {f : α -> β} : forall {l : List α} {out : List β}, out.Perm (l.map f) -> exists l' : List α, l'.Perm l ∧ out = l'.map f
  | [], out, h => ⟨[], List.Perm.refl _, by have z : out = [] := List.perm_nil.mp h; rw [z] <;> rfl⟩
  | a :: l, out, h => by
    obtain ⟨o1, o2, e⟩ := List.append_of_mem (h.mem_iff.mpr (List.mem_map.mpr ⟨a, List.mem_cons_self, rfl⟩))
    subst e
    have z : (o1 ++ o2).Perm (l.map f) := (List.perm_middle.symm.trans h).cons_inv
    obtain ⟨l', p, e⟩ := perm_lift z
    obtain ⟨l1, l2, e1, e2, e3⟩ := List.map_eq_append_iff.mp e.symm
    refine ⟨l1 ++ a :: l2, List.perm_middle.trans (List.Perm.cons a (e1 ▸ p)), ?_⟩
    rw [List.map_append, List.map_cons, e2, e3]
theorem kD_inj : forall {k l : Key}, kD k = kD l -> k = l
  | .inl _, .inl _, h => by injection h with h; rw [h]
  | .inr _, .inr _, h => by injection h with h; rw [h]
  | .inl _, .inr _, h => nomatch h
  | .inr _, .inl _, h => nomatch h
theorem CanSort.sub {ds es : List D} (c : CanSort ds) (m : forall d, d ∈ es -> d ∈ ds) : CanSort es := by
  have hm : forall x, x ∈ es.map D.py -> x ∈ ds.map D.py := fun x hx => by
    obtain ⟨d, hd, e⟩ := List.mem_map.mp hx
    exact List.mem_map.mpr ⟨d, m d hd, e⟩
  refine ⟨fun d h d' h' => c.alike d (hm d h) d' (hm d' h'), ?_, fun d h => c.ok d (m d h)⟩
  rcases c.kind with k | k
  · exact .inl fun d h => k d (hm d h)
  · exact .inr fun d h => k d (hm d h)
theorem kDs_inj : forall {k l : List Key}, k.map kD = l.map kD -> k = l
  | [], [], _ => rfl
  | [], _ :: _, h => nomatch h
  | _ :: _, [], h => nomatch h
  | a :: k, b :: l, h => by
    injection h with h1 h2
    rw [kD_inj h1, kDs_inj h2]
theorem kT_inj {k l : List Key} (h : kT k = kT l) : k = l := by
  injection h with h
  exact kDs_inj h
section
variable {G H : Hp}
theorem kD_is : forall {k : Key} {v : V}, Rep G (kD k) v -> v = kV k
  | .inl _, _, h => h
  | .inr _, _, h => h
theorem kDs_is : forall {ks : List Key} {vs : List V}, Reps G (ks.map kD) vs -> vs = ks.map kV
  | [], _, h => h
  | k :: ks, _, h => by
    obtain ⟨x, xs, e, r, rs⟩ := h
    rw [e, kD_is r, kDs_is rs] <;> rfl
theorem is_rel : forall {k : Key} {v : Value}, RelV (kV k) v -> keyIs k v = true
  | .inl i, _, ⟨t, e⟩ => by
    rw [e]
    exact beq_self_eq_true i
  | .inr x, _, ⟨t, e⟩ => by
    rw [e]
    exact beq_self_eq_true x
theorem vals_keys : forall {ks : List Key} {us : List Value}, Vals (ks.map kV) us -> exists L : KL, L.map (·.1) = ks ∧ L.map (·.2) = us ∧ forall p, p ∈ L -> keyIs p.1 p.2 = true
  | [], _, .nil => ⟨[], rfl, rfl, by simp⟩
  | k :: ks, _, .cons (b := u) r t => by
    obtain ⟨L, e1, e2, e3⟩ := vals_keys t
    refine ⟨(k, u) :: L, by rw [List.map_cons, e1], by rw [List.map_cons, e2], fun p m => ?_⟩
    rcases List.mem_cons.mp m with e | m
    · rw [e]
      exact is_rel r
    · exact e3 p m
theorem tups_of : forall {ks : List (List Key)} {vs : List V}, Reps G (ks.map kT) vs -> exists L : TL, L.map (·.1) = ks ∧ vs = L.map (fun p => V.ref p.2) ∧ forall p, p ∈ L -> G p.2 = some (.tup (p.1.map kV))
  | [], vs, h => ⟨[], rfl, h, by simp⟩
  | k :: ks, _, h => by
    obtain ⟨x, xs, e, r, rs⟩ := h
    obtain ⟨L, e1, e2, e3⟩ := tups_of rs
    obtain ⟨b, ys, ex, hb, ry⟩ := r
    refine ⟨(k, b) :: L, by rw [List.map_cons, e1], by rw [e, ex, e2, List.map_cons], fun p m => ?_⟩
    rcases List.mem_cons.mp m with e | m
    · rw [e, ← kDs_is ry]
      exact hb
    · exact e3 p m
theorem vals_refs : forall {L : TL} {us : List Value}, Vals (L.map fun p => V.ref p.2) us -> us = L.map fun p => Value.ref p.2
  | [], _, .nil => rfl
  | p :: L, _, .cons r t => by
    cases r
    rw [vals_refs t] <;> rfl
theorem refs_vals : forall (L : TL), Vals (L.map fun p => V.ref p.2) (L.map fun p => Value.ref p.2)
  | [] => .nil
  | p :: L => .cons rfl (refs_vals L)
theorem keys_vals : forall (L : KL), (forall p, p ∈ L -> keyIs p.1 p.2 = true) -> Vals (L.map fun p => kV p.1) (L.map (·.2))
  | [], _ => .nil
  | p :: L, h => .cons (keyIs_rel (h p List.mem_cons_self)) (keys_vals L fun q m => h q (List.mem_cons_of_mem _ m))
end
/-! ### the two kinds -/
section
variable {P : Program} {w : World} {u : Nat} {h0 : Heap} {S : Addr}
theorem ksuT {ks : TL} (hu : u < cLine) (hk : forall p, p ∈ ks -> TupK P w h0 p.1 p.2) (few : ks.length < 64) : Ksu P w u (List Key) Addr Value.ref ks h0 S fun h L => exists es ep t, SetT P w h S L es ep t where
  fresh := fun h ho => ⟨#[], 0, _, ⟨_, ho, ⟨rfl, rfl, rfl⟩, rfl⟩, rfl, ⟨List.Pairwise.nil, rfl, rfl, .inl rfl, fun x m => (by cases m), fun i h j hi => (by simp [hsT] at hi)⟩, List.nodup_nil, fun p m => (by cases m), (by
    show _ ∨ (!w.params.followText "set-order") = true
    cases w.params.followText "set-order"
    · exact .inr rfl
    · exact .inl rfl), (by show 0 * 5 < 7 * 3; decide), (by show 0 < 64; decide)⟩
  move := fun L h h' ⟨es, ep, t, R⟩ sub keep on => by
    obtain ⟨o, ho, r⟩ := R.ob
    exact ⟨es, ep, t, ⟨o, keep o ho, r⟩, R.rows, R.tab, R.nd, fun p m => tup_on (hk p (sub p m)) on, R.led, R.room, R.few⟩
  add := by
    intro A E s i p L Q hA hp ⟨es, ep, t, R⟩ hl on q
    have il : i < ks.length := (List.getElem?_eq_some_iff.mp hp).1
    have hx : TupK P w s.heap p.1 p.2 := tup_on (hk p (List.mem_of_getElem? hp)) on
    unfold setAdd
    refine wpAny_holding ?_
    refine wpAny_bind (wpAny_pyHash_tuple (by omega) hx ?_)
    refine addT (s := { s with toks := s.toks + (p.1.length + 1) }) R hx (by omega) (by omega) fun b h' L' es' ep' t' sb R' c1 c2 => ?_
    exact q b h' _ L' (Nat.le_add_right _ _) sb ⟨es', ep', t', R'⟩ c1 c2
theorem ksuF {ks : KL} (hk : forall p, p ∈ ks -> keyIs p.1 p.2 = true) (few : ks.length < 64) : Ksu P w u Key Value (fun v => v) ks h0 S fun h L => exists es ep t, SetF w h S L es ep t where
  fresh := fun h ho => ⟨#[], 0, _, ⟨_, ho, ⟨rfl, rfl, rfl⟩, rfl⟩, List.Perm.refl _, fun p m => (by cases m), List.nodup_nil, List.Pairwise.nil, rfl, (by
    show _ ∨ (!w.params.followText "set-order") = true
    cases w.params.followText "set-order"
    · exact .inr rfl
    · exact .inl rfl), (by show 0 < 64; decide)⟩
  move := fun L h h' ⟨es, ep, t, R⟩ sub keep on => by
    obtain ⟨o, ho, r⟩ := R.ob
    exact ⟨es, ep, t, ⟨o, keep o ho, r⟩, R.rows, R.isk, R.nd, R.ris, R.fits, R.led, R.few⟩
  add := by
    intro A E s i p L Q hA hp ⟨es, ep, t, R⟩ hl on q
    have il : i < ks.length := (List.getElem?_eq_some_iff.mp hp).1
    have hx : keyIs p.1 p.2 = true := hk p (List.mem_of_getElem? hp)
    unfold setAdd
    refine wpAny_holding ?_
    refine wpAny_bind ((mixKind P w).pyHash (k := p.1) hx ?_)
    refine addF (P := P) (s := { s with toks := s.toks + 1 }) R hx (by omega) fun b h' L' es' ep' t' sb R' c1 c2 => ?_
    exact q b h' _ L' (Nat.le_add_right _ _) sb ⟨es', ep', t', R'⟩ c1 c2
end
/-! ### the rule -/
def rSS : V -> Hp -> VK -> Prop := fun x H Q => exists (ds : List D) (G : Hp), Sub G H ∧ Rep G (.lst ds) x ∧ ((exists ks : List Key, ds = ks.map kD) ∨ exists ks : List (List Key), ds = ks.map kT) ∧ CanSort ds ∧ ds.length < 64 ∧
  forall p out ds', H p = none -> ds'.Nodup -> (forall d, d ∈ ds' <-> d ∈ ds) -> Reps G (sortD ds') out -> Q (.ref p) (upd H p (.lst out))
def tSS (te : TE) : TE := fun σ H Q => te σ H fun x H1 => rSS x H1 Q
section
variable {X : Cx} {pins : List (Addr × Obj)} {σ : L2.St} {G H : Hp} {s : Shared}
theorem nodup_inj {α β : Type} {f : α -> β} (inj : forall x y, f x = f y -> x = y) : forall {l : List α}, l.Nodup -> (l.map f).Nodup := fun {l} h => List.pairwise_map.mpr (List.Pairwise.imp (fun ne e => ne (inj _ _ e)) h)
/-- the set is walked and sorted -/
theorem sorted_set_go {a : Addr} {es : Array (Int × Value)} {ep : Nat} {t : SetTable} {Q : VK} {E : Value -> Shared -> Prop} (calm : X.calm = true) (hu : X.A.units + 64 < cLine) (hG : Same G H) (I : Inv X pins σ H s) (sa : SetAt s.heap a es ep t) (fit : t.fits es.size = true) (sz : es.size < 64) (ris : Ris t.place.toList) (led : X.w.params.followText "set-order" = true ∨ t.led = true)
    (q : forall out, out.Perm (es.toList.map (·.2)) -> exists bs : List (V × D), Vals (bs.map (·.1)) out ∧ (forall p, p ∈ bs -> Rep G p.2 p.1) ∧ CanSort (bs.map (·.2)) ∧ forall p o, H p = none -> Reps G (sortD (bs.map (·.2))) o -> Q (.ref p) (upd H p (.lst o))) :
    wpAny (model X.prog X.w) X.A (call (.builtin "sorted") [.ref a]) (EP X pins σ Q) E s := by
  refine Calls.call_function_entry PyProof.Rows.kind_sorted PyProof.Rows.plain_sorted PyProof.Rows.entry_sorted (PyProof.Rows.args_sorted1 _) ?_
  unfold Builtin.«sorted»
  refine wpAny_bind (m := checkCount "sorted" 1 1 _) (wpAny_pure ?_)
  refine wpAny_bind (collect_set (P := X.prog) (A := X.A.in1) (I.ok.hd calm) sa fit (by unfold scanBound; omega) ris led fun s1 out keep hz hg ho pm => ?_)
  obtain ⟨bs, rv, hb, c, q⟩ := q out pm
  have I1 : Inv X pins σ H s1 := I.call' (ch := []) ho (Un.kept keep) (I.hok.kept keep) (by rw [hg]; exact I.bare) (fun _ z => nomatch z)
  have hl : bs.length ≤ sizeLine := by
    have z := rv.length
    have z2 := pm.length_eq
    rw [List.length_map] at z z2
    have z3 : es.toList.length = es.size := Array.length_toList
    rw [sizeLine_eq]
    omega
  refine sorted_go (mk := fun l => Fin.done (Flow.ret l)) hG I1 hu rv hb c hl q (fun u s2 h => ⟨_, rfl, h⟩) ?_
  show X.A.in1.units ≤ _
  first | exact Nat.le_succ _ | exact Nat.le_add_right _ _ | (simp [Around.in1]) | omega
theorem pe_sortset {e : Expr} {te : TE} {p p2 q pos : Pos} (calm : X.calm = true) (hu : X.A.units + 64 < cLine) (hg : Gl X "sorted") (hm : X.mg "sorted" = none) (hg2 : Gl X "set") (hm2 : X.mg "set" = none) (ha : PE X e te)
    (na : starEach [e] X.env = (false, eval e X.env) :: starEach [] X.env := by rfl) : PE X (.Call (.Name "sorted" p) [.Call (.Name "set" p2) [e] [] q] [] pos) (tSS te) := by
  refine ⟨fun pins s σ H Q I h => ?_⟩
  refine Call_ (ld_blt I hg hm PyProof.Rows.boot_sorted ?_)
  refine PyProof.Rows.callWith_builtin1 (PyProof.Rows.args_cons ?_ rfl) rfl rfl
  refine Call_ (ld_blt I hg2 hm2 PyProof.Rows.boot_set ?_)
  refine PyProof.Rows.callWith_type1 (PyProof.Rows.args_cons (thn (ha.run pins s σ H _ I h) fun v s1 ⟨x, H1, I1, r1, q1⟩ => PyProof.Rows.args_nil ?_) na) na rfl
  obtain ⟨ds, G, hG, rx, kinds, cs, few, q⟩ := q1
  obtain ⟨l, xs, ex, hl, rs⟩ := rx
  subst ex
  cases r1
  obtain ⟨its, rv, pl, hz⟩ := I1.list (SqL.of (hG.same _ _ hl))
  rcases kinds with ⟨ks, ed⟩ | ⟨ks, ed⟩
  · subst ed
    rw [kDs_is rs] at rv
    obtain ⟨L0, e1, e2, e3⟩ := vals_keys rv
    have few0 : L0.length < 64 := by
      have z := congrArg List.length e1
      rw [List.length_map] at z
      rw [List.length_map] at few
      omega
    refine call_set_list (ks := L0) (val := fun v => v) (u := X.A.units + 3) (I1.ok.hd calm) pl.isList (by rw [← e2] <;> simp) (Nat.le_refl _) (ksuF e3 few0) fun h' tk L ⟨es, ep, t, R⟩ g keep => ?_
    refine PyProof.Rows.args_nil ?_
    obtain ⟨o, ho, hex, hd⟩ := R.ob
    have esz : es.size = L.length := by rw [← Array.length_toList, R.rows.length_eq, rowsF, List.length_map]
    refine sorted_set_go calm hu hG.same (I1.kept keep) ⟨o, ho, hex.1, hd⟩ R.fits (by rw [esz]; exact R.few) R.ris R.led fun out pm => ?_
    have pm2 : out.Perm (L.map (·.2)) := by
      have z := pm.trans (R.rows.map (·.2))
      rw [rowsF, List.map_map] at z
      exact z
    obtain ⟨L', pL, eo⟩ := perm_lift pm2
    have mem : forall p, p ∈ L' -> p ∈ L0 := fun p m => List.mem_of_mem_take (g.sub p (pL.mem_iff.mp m))
    have ek : (L'.map fun p => (kV p.1, kD p.1)).map (·.2) = (L'.map (·.1)).map kD := by rw [List.map_map, List.map_map] <;> rfl
    have iff1 : forall d, d ∈ (L'.map (·.1)).map kD <-> d ∈ ks.map kD := fun d => by
      rw [List.mem_map, List.mem_map]
      constructor
      · intro ⟨k, m, e⟩
        obtain ⟨p, pm, ep⟩ := List.mem_map.mp m
        exact ⟨k, by rw [← e1, ← ep]; exact List.mem_map.mpr ⟨p, mem p pm, rfl⟩, e⟩
      · intro ⟨k, m, e⟩
        rw [← e1] at m
        obtain ⟨p, pm, ep⟩ := List.mem_map.mp m
        refine ⟨k, ?_, e⟩
        rw [(pL.map (·.1)).mem_iff, ← ep]
        exact g.all p (by rw [List.take_length]; exact pm)
    have nd : ((L'.map (·.1)).map kD).Nodup := nodup_inj (fun x y => kD_inj) ((pL.map (·.1)).nodup_iff.mpr R.nd)
    refine ⟨L'.map fun p => (kV p.1, kD p.1), ?_, fun b m => ?_, ?_, fun p o hp ro => ?_⟩
    · rw [eo, List.map_map]
      exact keys_vals L' fun p m => e3 p (mem p m)
    · obtain ⟨p, _, eb⟩ := List.mem_map.mp m
      rw [← eb]
      exact kD_rep p.1
    · rw [ek]
      exact cs.sub fun d m => (iff1 d).mp m
    · rw [ek] at ro
      exact q p o _ hp nd iff1 ro
  · subst ed
    obtain ⟨L0, e1, e2, e3⟩ := tups_of rs
    rw [e2] at rv
    have ev := vals_refs rv
    have few0 : L0.length < 64 := by
      have z := congrArg List.length e1
      rw [List.length_map] at z
      rw [List.length_map] at few
      omega
    have tk0 : forall p, p ∈ L0 -> TupK X.prog X.w s1.heap p.1 p.2 := fun p m => key_of I1.hok (hG.same _ _ (e3 p m))
    refine call_set_list (ks := L0) (val := Value.ref) (u := X.A.units + 3) (I1.ok.hd calm) pl.isList (by rw [← ev]) (Nat.le_refl _) (ksuT (by omega) tk0 few0) fun h' tk L ⟨es, ep, t, R⟩ g keep => ?_
    refine PyProof.Rows.args_nil ?_
    obtain ⟨o, ho, hex, hd⟩ := R.ob
    have esz : es.size = L.length := by rw [← Array.length_toList, R.rows, rowsT, List.length_map]
    refine sorted_set_go calm hu hG.same (I1.kept keep) ⟨o, ho, hex.1, hd⟩ (SetT.fits (s := { s1 with heap := h', toks := tk }) R) (by rw [esz]; exact R.few) R.tab.ris R.led fun out pm => ?_
    have pm2 : out.Perm (L.map fun p => Value.ref p.2) := by
      rw [R.rows, rowsT, List.map_map] at pm
      exact pm
    obtain ⟨L', pL, eo⟩ := perm_lift pm2
    have mem : forall p, p ∈ L' -> p ∈ L0 := fun p m => List.mem_of_mem_take (g.sub p (pL.mem_iff.mp m))
    have ek : (L'.map fun p => (V.ref p.2, kT p.1)).map (·.2) = (L'.map (·.1)).map kT := by rw [List.map_map, List.map_map] <;> rfl
    have iff1 : forall d, d ∈ (L'.map (·.1)).map kT <-> d ∈ ks.map kT := fun d => by
      rw [List.mem_map, List.mem_map]
      constructor
      · intro ⟨k, m, e⟩
        obtain ⟨p, pm, ep⟩ := List.mem_map.mp m
        exact ⟨k, by rw [← e1, ← ep]; exact List.mem_map.mpr ⟨p, mem p pm, rfl⟩, e⟩
      · intro ⟨k, m, e⟩
        rw [← e1] at m
        obtain ⟨p, pm, ep⟩ := List.mem_map.mp m
        refine ⟨k, ?_, e⟩
        rw [(pL.map (·.1)).mem_iff, ← ep]
        exact g.all p (by rw [List.take_length]; exact pm)
    have nd : ((L'.map (·.1)).map kT).Nodup := nodup_inj (fun x y => kT_inj) ((pL.map (·.1)).nodup_iff.mpr R.nd)
    refine ⟨L'.map fun p => (V.ref p.2, kT p.1), ?_, fun b m => ?_, ?_, fun p o hp ro => ?_⟩
    · rw [eo, List.map_map]
      exact refs_vals L'
    · obtain ⟨p, m2, eb⟩ := List.mem_map.mp m
      rw [← eb]
      exact kT_rep (e3 p (mem p m2))
    · rw [ek]
      exact cs.sub fun d m => (iff1 d).mp m
    · rw [ek] at ro
      exact q p o _ hp nd iff1 ro
end
section
variable {K : PySem.W.Frag} {M : MK} {s : L2.St} {H : Hp} {te : TE}
/-- sorted(set(xs)): what has the same members, each once, in order -/
theorem ev_sortset {ds es : List D} (m : Mok M H) (h : EvD M te s H (.lst ds)) (kinds : (exists ks : List Key, ds = ks.map kD) ∨ exists ks : List (List Key), ds = ks.map kT) (c : CanSort ds) (few : ds.length < 64)
    (nd : es.Nodup) (mem : forall d, d ∈ es <-> d ∈ ds) (inj : forall a b, a ∈ es -> b ∈ es -> toks a = toks b -> a = b) : EvD M (tSS te) s H (.lst (sortD es)) := fun H1 e1 Q q => h H1 e1 _ fun x H2 e2 rx => by
  have mm := m.up (e1.trans e2)
  refine ⟨ds, msk M H2, Sub.of mm, rx, kinds, c, few, fun p out ds' hp nd' mem' ro => ?_⟩
  have ee : sortD ds' = sortD es := (sortD_eq inj (nodup_perm nd nd' fun d => (mem d).trans (mem' d).symm)).symm
  rw [ee] at ro
  exact q _ _ (e2.trans (same_new hp)) ⟨p, out, rfl, msk_new mm hp, ro.up (msk_mono (same_new hp))⟩
end
end Ak
/-! Ak 22: data that are equal just when what they stand for is. -/
namespace Ak
open PySem PySem.Spec PyProof.Rows L2
structure Dat (α : Type) [DecidableEq α] where
  d : α -> D
  dp : Nat
  pl : forall x, (d x).pl = true
  dep : forall x, (d x).py.depth ≤ dp
  eqv : forall x y, PyData.eqv (d x).py (d y).py = decide (x = y)
section
variable {α β γ : Type} [DecidableEq α] [DecidableEq β] [DecidableEq γ]
theorem Dat.ok (m : Dat α) (h : m.dp ≤ 40) (x : α) : (m.d x).ok = true := by
  unfold D.ok
  rw [m.pl x, Bool.true_and, decide_eq_true_eq]
  exact Nat.le_trans (m.dep x) h
theorem pls_all {m : Dat α} : forall l : List α, D.pls (l.map m.d) = true
  | [] => rfl
  | x :: l => by
    show ((m.d x).pl && D.pls (l.map m.d)) = true
    rw [m.pl x, pls_all l] <;> rfl
theorem dps_all {m : Dat α} : forall l : List α, PyData.depthAll (D.pys (l.map m.d)) ≤ m.dp
  | [] => by
    show PyData.depthAll [] ≤ m.dp
    simp [PyData.depthAll]
  | x :: l => by
    show PyData.depthAll ((m.d x).py :: D.pys (l.map m.d)) ≤ m.dp
    rw [PyData.depthAll]
    exact Nat.max_le.mpr ⟨m.dep x, dps_all l⟩
theorem eqvs_all {m : Dat α} : forall l k : List α, PyData.eqvAll (D.pys (l.map m.d)) (D.pys (k.map m.d)) = decide (l = k)
  | [], [] => by
    show PyData.eqvAll [] [] = _
    simp [PyData.eqvAll]
  | [], y :: k => by
    show PyData.eqvAll [] ((m.d y).py :: D.pys (k.map m.d)) = _
    simp [PyData.eqvAll]
  | x :: l, [] => by
    show PyData.eqvAll ((m.d x).py :: D.pys (l.map m.d)) [] = _
    simp [PyData.eqvAll]
  | x :: l, y :: k => by
    show PyData.eqvAll ((m.d x).py :: D.pys (l.map m.d)) ((m.d y).py :: D.pys (k.map m.d)) = _
    rw [PyData.eqvAll, m.eqv, eqvs_all l k, ← Bool.decide_and]
    simp only [List.cons.injEq]
def dInt : Dat Int := ⟨.int, 0, fun _ => rfl, fun _ => by show PyData.depth (.int _) ≤ 0; simp [PyData.depth], eqv_int⟩
def dStr : Dat Str := ⟨.str, 0, fun _ => rfl, fun _ => by show PyData.depth (.str _) ≤ 0; simp [PyData.depth], eqv_str⟩
/-- lists -/
def dL (m : Dat α) : Dat (List α) := ⟨fun l => .lst (l.map m.d), m.dp + 1, fun l => pls_all l, fun l => by
  show PyData.depth (.list (D.pys (l.map m.d))) ≤ m.dp + 1
  rw [PyData.depth]
  exact Nat.succ_le_succ (dps_all l), fun l k => by
  show PyData.eqv (.list _) (.list _) = _
  simp only [PyData.eqv]
  exact eqvs_all l k⟩
/-- tuples -/
def dT (m : Dat α) : Dat (List α) := ⟨fun l => .tup (l.map m.d), m.dp + 1, fun l => pls_all l, fun l => by
  show PyData.depth (.tuple (D.pys (l.map m.d))) ≤ m.dp + 1
  rw [PyData.depth]
  exact Nat.succ_le_succ (dps_all l), fun l k => by
  show PyData.eqv (.tuple _) (.tuple _) = _
  simp only [PyData.eqv]
  exact eqvs_all l k⟩
def dP (m : Dat α) (n : Dat β) : Dat (α × β) := ⟨fun x => .tup [m.d x.1, n.d x.2], max m.dp n.dp + 1, fun x => by
  show ((m.d x.1).pl && ((n.d x.2).pl && true)) = true
  rw [m.pl, n.pl] <;> rfl, fun x => by
  show PyData.depth (.tuple [(m.d x.1).py, (n.d x.2).py]) ≤ _
  have h1 := m.dep x.1
  have h2 := n.dep x.2
  simp only [PyData.depth, PyData.depthAll]
  omega, fun x y => by
  show PyData.eqv (.tuple [(m.d x.1).py, (n.d x.2).py]) (.tuple [(m.d y.1).py, (n.d y.2).py]) = _
  simp only [PyData.eqv, PyData.eqvAll, m.eqv, n.eqv, Bool.and_true]
  rw [← Bool.decide_and]
  exact decide_eq_decide.mpr ⟨fun h => Prod.ext h.1 h.2, fun h => by rw [h]; exact ⟨rfl, rfl⟩⟩⟩
def d3 (m : Dat α) (n : Dat β) (o : Dat γ) : Dat (α × β × γ) := ⟨fun x => .tup [m.d x.1, n.d x.2.1, o.d x.2.2], max m.dp (max n.dp o.dp) + 1, fun x => by
  show ((m.d x.1).pl && ((n.d x.2.1).pl && ((o.d x.2.2).pl && true))) = true
  rw [m.pl, n.pl, o.pl] <;> rfl, fun x => by
  show PyData.depth (.tuple [(m.d x.1).py, (n.d x.2.1).py, (o.d x.2.2).py]) ≤ _
  have h1 := m.dep x.1
  have h2 := n.dep x.2.1
  have h3 := o.dep x.2.2
  simp only [PyData.depth, PyData.depthAll]
  omega, fun x y => by
  show PyData.eqv (.tuple [(m.d x.1).py, (n.d x.2.1).py, (o.d x.2.2).py]) (.tuple [(m.d y.1).py, (n.d y.2.1).py, (o.d y.2.2).py]) = _
  simp only [PyData.eqv, PyData.eqvAll, m.eqv, n.eqv, o.eqv, Bool.and_true]
  rw [← Bool.decide_and, ← Bool.decide_and]
  exact decide_eq_decide.mpr ⟨fun h => Prod.ext h.1 (Prod.ext h.2.1 h.2.2), fun h => by rw [h]; exact ⟨rfl, rfl, rfl⟩⟩⟩
end
section
variable {K : PySem.W.Frag} {M : MK} {s : L2.St} {H : Hp} {ta tb : TE} {α : Type} [DecidableEq α]
theorem ev_eqD (m : Dat α) {x y : α} {d e : D} (ed : d = m.d x) (ee : e = m.d y) (ha : EvD M ta s H d) (hb : EvD M tb s H e) (h : m.dp ≤ 40 := by decide) : EvD M (tOp (rEqU false) ta tb) s H (.bl (decide (x = y))) := by
  subst ed ee
  rw [← m.eqv x y]
  exact ev_op ha hb (rd_eqU (neg := false) (m.ok h x) (m.ok h y))
theorem ev_neD (m : Dat α) {x y : α} {d e : D} (ed : d = m.d x) (ee : e = m.d y) (ha : EvD M ta s H d) (hb : EvD M tb s H e) (h : m.dp ≤ 40 := by decide) : EvD M (tOp (rEqU true) ta tb) s H (.bl (!decide (x = y))) := by
  subst ed ee
  rw [← m.eqv x y]
  exact ev_op ha hb (rd_eqU (neg := true) (m.ok h x) (m.ok h y))
end
mutual
theorem eqv_self : forall d : D, d.pl = true -> PyData.eqv d.py d.py = true
  | .non, _ => rfl
  | .bl b, _ => by cases b <;> rfl
  | .int i, _ => (eqv_int i i).trans (decide_eq_true rfl)
  | .str x, _ => (eqv_str x x).trans (decide_eq_true rfl)
  | .tup ds, h => by
    show PyData.eqv (.tuple (D.pys ds)) (.tuple (D.pys ds)) = true
    simp only [PyData.eqv]
    exact eqvs_self ds h
  | .lst ds, h => by
    show PyData.eqv (.list (D.pys ds)) (.list (D.pys ds)) = true
    simp only [PyData.eqv]
    exact eqvs_self ds h
  | .oth _, h => nomatch h
  | .ins _ _, h => nomatch h
  | .dK _, h => nomatch h
  | .dT _, h => nomatch h
theorem eqvs_self : forall ds : List D, D.pls ds = true -> PyData.eqvAll (D.pys ds) (D.pys ds) = true
  | [], _ => by
    show PyData.eqvAll [] [] = true
    simp [PyData.eqvAll]
  | d :: ds, h => by
    have h2 : (d.pl && D.pls ds) = true := h
    rw [Bool.and_eq_true] at h2
    show PyData.eqvAll (d.py :: D.pys ds) (d.py :: D.pys ds) = true
    rw [PyData.eqvAll, eqv_self d h2.1, eqvs_self ds h2.2] <;> rfl
end
theorem inP_dat {α : Type} [DecidableEq α] (m : Dat α) (x : α) : forall l : List α, inP (m.d x) (l.map m.d) = decide (x ∈ l)
  | [] => by
    show false = decide (x ∈ [])
    simp
  | y :: l => by
    show (PyData.eqv (m.d y).py (m.d x).py || inP (m.d x) (l.map m.d)) = _
    rw [m.eqv, inP_dat m x l, ← Bool.decide_or]
    exact decide_eq_decide.mpr ⟨fun h => h.elim (fun e => by rw [e]; exact List.mem_cons_self) (fun h => List.mem_cons_of_mem _ h), fun h => (List.mem_cons.mp h).imp Eq.symm id⟩
theorem oks_dat {α : Type} [DecidableEq α] (m : Dat α) (h : m.dp ≤ 40) (l : List α) : oksP (l.map m.d) = true := by
  unfold oksP
  rw [List.all_eq_true]
  intro d hd
  obtain ⟨x, _, rfl⟩ := List.mem_map.mp hd
  exact m.ok h x
section
variable {K : PySem.W.Frag} {M : MK} {s : L2.St} {H : Hp} {ta tb : TE} {α : Type} [DecidableEq α]
theorem ev_inD (m : Dat α) {x : α} {l : List α} {d e : D} (ed : d = m.d x) (ee : e = .lst (l.map m.d)) (ha : EvD M ta s H d) (hb : EvD M tb s H e) (h : m.dp ≤ 40 := by decide) : EvD M (tOp (rInU false) ta tb) s H (.bl (decide (x ∈ l))) := by
  subst ed ee
  rw [← inP_dat m x l]
  exact ev_op ha hb (rd_inLU (neg := false) (m.ok h x) (oks_dat m h l))
end
end Ak
/-! Ak 23: try with several clauses `except C as n`, one name. -/
namespace Ak
open PySem PySem.Spec PyProof.Rows L2
abbrev SuiteT : Type := Addr -> Value -> Option Addr -> TS
/-- the ends of a suite: the name is gone -/
def gone (i : Nat) (D : Ends) : Ends := { nx := fun σ H => D.nx (σ.set i none) H, rt := D.rt, bk := fun σ H => D.bk (σ.set i none) H, ct := fun σ H => D.ct (σ.set i none) H }
def wAll (K : PySem.W.Frag) (Wout : WX) (D : Ends) (i : Nat) : List (Value × SuiteT) -> WX
  | [] => Wout
  | (c, ts) :: r => fun cls d σ H => exists b, PySem.W.exmOne K cls c = some b ∧ (b = true -> forall a, H a = none -> ts a cls d (gone i D) (σ.set i (some (.ref a))) H) ∧ (b = false -> wAll K Wout D i r cls d σ H)
inductive Clauses (X : Cx) (n : Str) : List ExceptHandler -> List (Value × SuiteT) -> Prop
  | nil : Clauses X n [] []
  | cons {x : Str} {c : Value} {ts : SuiteT} {st : Stmt} {more : List Stmt} {np pos : Pos} {hds : List ExceptHandler} {l : List (Value × SuiteT)} (name : Names X x c)
      (suite : forall (a : Addr) (oe : Obj) (cls : Value) (d : Option Addr) (pn : List (Addr × Obj)), Zc cls d oe -> (exists vs, oe.data = .fields vs) -> PSs (X.suite a ((a, oe) :: pn)) (st :: more) (ts a cls d)) (rest : Clauses X n hds l) :
      Clauses X n (.ExceptHandler (some (.Name x np)) (some n) (st :: more) pos :: hds) ((c, ts) :: l)
section
variable {X : Cx} {n : Str} {i : Nat} {body : List Stmt} {h1 : ExceptHandler} {hds : List ExceptHandler} {l : List (Value × SuiteT)} {pos : Pos} {tb : WX -> TS} {Wout : WX}
theorem ps_try_all (es : X.stack = X.env :: X.outer) (ef : X.env.frame = some X.env.locals) (nd : X.N.Nodup) (hi : X.N[i]? = some n) (kl : X.env.kindOf n = some .local) (tk : Takes X Wout)
    (hb : forall (W : WX) (pn : List (Addr × Obj)) (xe : Value -> Shared -> Prop), Takes (X.tr pn xe) W -> PassesOwn (model X.prog X.w) X.A X.env xe -> PSs (X.tr pn xe) body (tb W))
    (cl : Clauses X n (h1 :: hds) l) : PS X (.Try body (h1 :: hds) [] [] pos) (fun D σ H => tb (wAll X.K Wout D i l) D σ H) := by
  refine ⟨fun pins s σ H D I wish => ?_⟩
  have ok := I.ok
  have afr : X.A.frames = some (X.env :: X.outer) := by rw [ok.frames, es]
  refine wpAny_Try_except ?_
  refine wpAny_mono ((hb (wAll X.K Wout D i l) (X.pn ++ pins) (fun e t1 => wpAny (model X.prog X.w) X.A (noteFrame e X.env) (fun _ t2 => wpAny (model X.prog X.w) X.A (setFlight e none) (fun _ t3 =>
    wpAny (model X.prog X.w) X.A (handleBy e X.env (h1 :: hds)) (SP X pins D) X.xe t3) X.xe t2) X.xe t1) (fun u t xx => ?_) PassesOwn.looking).run [] s σ H D (I.toTry _) wish) (fun f t1 sp => ?_) (fun e t1 z => z)
  · obtain ⟨a, B, sI, pins', σ', H', cls, d, eu, J', nb, up, sky, na, os, ag, w⟩ := xx
    subst eu
    have J : Inv X pins σ' H' sI := J'.ofTry ok
    have sky2 : Sky B (X.env :: X.outer) a (Zc cls d) X.env.locals t.heap := by rw [← es]; exact sky
    show wpAny (model X.prog X.w) X.A (noteFrame (.ref a) X.env) _ _ _
    refine Sky.land Zc.steady afr ef sky2 fun h3 fl3 up3 => ?_
    have J3 : Inv X pins σ' H' { t with heap := h3 } := J.landed nb fl3.1 (up.trans up3) os ag
    obtain ⟨oe3, vs3, he3, hz3, hd3⟩ := fl3.there
    have off : a ∉ frs (X.env :: X.outer) := fun hm => by
      obtain ⟨_, o', e', hnf⟩ := fl3.2.2.1.mem hm
      rw [he3] at e'
      cases e'
      exact hnf _ hd3
    have nL : a ≠ X.env.locals := fun z => off (List.mem_filterMap.mpr ⟨X.env, List.mem_cons_self, by rw [ef, z]⟩)
    have nF : a ∉ X.fs := fun hm => by
      obtain ⟨e, he, q⟩ := List.mem_filterMap.mp hm
      exact off (List.mem_filterMap.mpr ⟨e, List.mem_cons_of_mem _ he, q⟩)
    have S3 := J3.suite he3 hd3 na nL nF
    have go : forall {hds' : List ExceptHandler} {l' : List (Value × SuiteT)}, Clauses X n hds' l' -> wAll X.K Wout D i l' cls d σ' H' -> wpAny (model X.prog X.w) X.A (handleBy (.ref a) X.env hds') (SP X pins D) X.xe { t with heap := h3 } := by
      intro hds' l' hk
      induction hk with
      | nil =>
        intro w
        refine wpAny_handleBy_nil ?_
        obtain ⟨k1, k2, k3, oe, vs, T, oT, ts', he, hz, hd, g1, hr⟩ := id fl3
        unfold PySem.passOn
        refine wpAny_bind (wpAny_field he hd g1 ?_)
        rw [if_neg (show ¬ ((Value.ref T == Value.none) = true) from by simp)]
        have fin : wpAny (model X.prog X.w) X.A (setFlight (.ref a) X.env.frame) (fun _ t4 => wpAny (model X.prog X.w) X.A (throw (.ref a) : Sem Flow) (SP X pins D) X.xe t4) X.xe { t with heap := h3 } := by
          rw [ef]
          refine HandSPX.setFlight_upZ fl3 fun h4 hh4 up4 => wpAny_throw (tk _ _ ?_)
          exact ⟨a, B, sI, pins, σ', H', cls, d, rfl, J, nb, (up.trans up3).trans up4, .inr (.inr (by rw [es]; exact hh4)), na, os, ag, w⟩
        first
          | exact wpAny_bind (wpAny_pure (wpAny_bind fin))
          | exact wpAny_bind fin
      | @cons x c ts st more np pos2 hds2 l2 name suite rest ih =>
        intro w
        obtain ⟨b, eb, yes, no⟩ := w
        refine wpAny_handleBy_cons (codeAny_handlers_test ?_) (by intro q; cases q)
        have LT : PySem.W.Looks (model X.prog X.w) h3 (typeOf (.ref a)) cls := fun A Q E s k q => wpAny_typeOf_ref (k _ _ he3) (by rw [hz3.1]; exact q)
        have LM := PySem.W.exm_one (M := model X.prog X.w) (J3.kIn) LT eb
        have test : forall {Q : Value -> Shared -> Prop} {E : Value -> Shared -> Prop}, Q c { t with heap := h3 } -> wpAny (model X.prog X.w) (X.A.mark (some (.ref a))) (eval (.Name x np) X.env) Q E { t with heap := h3 } := fun {Q E} q => by
          obtain ⟨hg, hdbg, hm | ⟨hm, hv, hnn⟩⟩ := name
          · exact ld_glob (X := X.suite a ((a, oe3) :: (X.pn ++ pins))) S3 hg hm q hdbg
          · exact ld_blt (X := X.suite a ((a, oe3) :: (X.pn ++ pins))) S3 hg hm hv q hnn hdbg
        refine test (LM.here ?_)
        cases b with
        | false =>
          show wpAny _ X.A (handleBy (.ref a) X.env hds2) _ _ _
          exact ih (no rfl)
        | true =>
          refine codeAny_handlers_suite_as ?_
          refine HandSPX.lands_againZ fl3 fun h4 fl4 up4 => ?_
          have J4 : Inv X pins σ' H' { t with heap := h4 } := J.landed nb fl4.1 ((up.trans up3).trans up4) os ag
          obtain ⟨oe4, vs4, he4, hz4, hd4⟩ := fl4.there
          have S4 := J4.suite he4 hd4 na nL nF
          refine store_ok (X := X.suite a ((a, oe4) :: (X.pn ++ pins))) (v := .ref a) S4 nd hi (.inl kl) rfl (fun t5 S5 => ?_) (.inr kl)
          refine wpAny_mono ((suite a oe4 cls d (X.pn ++ pins) hz4 ⟨_, hd4⟩).run [] t5 _ H' _ S5 (yes rfl a na)) (fun f t6 sp => ?_) (fun _ _ z => False.elim z)
          have fine : forall {σ6 : L2.St} {H6 : Hp} {Q : Shared -> Prop}, Inv (X.suite a ((a, oe4) :: (X.pn ++ pins))) [] σ6 H6 t6 -> (forall t7, Inv X pins (σ6.set i none) H6 t7 -> Q t7) ->
              wpAny (model X.prog X.w) X.A (do bindName X.env n .none; unbindBehindTheSuite X.env n pos2) (fun _ t7 => Q t7) X.xe t6 := fun {σ6 H6 Q} S6 hq => gone_ok (S6.unsuite ok) nd hi kl hq
          cases f with
          | next =>
            obtain ⟨σ6, H6, S6, q6⟩ := sp
            exact fine S6 fun t7 J7 => ⟨_, _, J7, q6⟩
          | brk =>
            obtain ⟨σ6, H6, S6, q6⟩ := sp
            exact fine S6 fun t7 J7 => ⟨_, _, J7, q6⟩
          | cont =>
            obtain ⟨σ6, H6, S6, q6⟩ := sp
            exact fine S6 fun t7 J7 => ⟨_, _, J7, q6⟩
          | ret u =>
            obtain ⟨v6, σ6, H6, S6, r6, q6⟩ := sp
            exact fine S6 fun t7 J7 => ⟨_, _, _, J7, r6, q6⟩
    exact go cl w
  · cases f with
    | next =>
      obtain ⟨σ2, H2, J2, q⟩ := sp
      exact wpAny_execs_nil ⟨σ2, H2, J2.ofTry ok, q⟩
    | brk =>
      obtain ⟨σ2, H2, J2, q⟩ := sp
      exact ⟨σ2, H2, J2.ofTry ok, q⟩
    | cont =>
      obtain ⟨σ2, H2, J2, q⟩ := sp
      exact ⟨σ2, H2, J2.ofTry ok, q⟩
    | ret u =>
      obtain ⟨v, σ2, H2, J2, r, q⟩ := sp
      exact ⟨v, σ2, H2, J2.ofTry ok, r, q⟩
end
end Ak
/-! Ak 24: lambdas as values: made, kept, called by name; a def told of the very state. -/
namespace Ak
open PySem PySem.Spec PyProof.Rows L2
open LamX (CodeO TabS Tabs ExtN TabB LamS inv_table among_app codeO_ne)
open NdefX (NF envF ncx NScope CellsAt Caps startF inv_startN codeO_at cells_of slotAt)
def lamObj (F : NF) (ex : Expr) (pm ctv : Value) : Obj := PySem.W.kla_obj F.name F.qual F.params ex F.scope F.cl pm F.c ctv
/-- the object at f is the lambda F with the body ex -/
def LamO (f : Addr) (F : NF) (ex : Expr) : HO := .ext fun h => exists pm ctv, h.get? f = some (lamObj F ex pm ctv)
theorem lamO_ne {f : Addr} {F : NF} {ex : Expr} (ps : Array Value) : LamO f F ex ≠ .tbl ps := fun z => by
  unfold LamO at z
  cases z
theorem lamO_at {P : Program} {w : World} {H : Hp} {h : Heap} {f : Addr} {F : NF} {ex : Expr} (hok : HOk P w H h) (e : H f = some (LamO f F ex)) : exists pm ctv, h.get? f = some (lamObj F ex pm ctv) := (hok f _ e).1
/-- the lambda that the frame X makes -/
def mkL (X : Cx) (params : Arguments) (scope : Scope) (c : Addr) : NF := ⟨"<lambda>", X.env.qual ++ "<lambda>", params, [], scope, cloFrom X.env.cells scope.names [], c⟩
section
variable {X : Cx} {pins : List (Addr × Obj)} {σ : L2.St} {H : Hp} {s : Shared}
theorem inv_lam {F : NF} {ex : Expr} {t : Nat} {pm ctv : Value} (I : Inv X pins σ H s) : Inv X pins σ (upd H s.heap.objs.size (LamO s.heap.objs.size F ex)) { s with heap := s.heap.push (lamObj F ex pm ctv), toks := t } :=
  I.laid (fun b u e => Heap.get?_push_of_some _ e) (Nat.le_refl _) ⟨⟨pm, ctv, Heap.get?_push_size _ rfl⟩, ⟨_, Heap.get?_push_size _ rfl⟩, fun h1 h2 ⟨pm, ctv, e⟩ st => ⟨pm, ctv, st _ e⟩⟩
theorem lam_new {T : List (Addr × Str)} {c P : Addr} {params : Arguments} {body : Expr} {scope : Scope} {pos : Pos} {E : Value -> Shared -> Prop} {Q : Value -> Shared -> Prop} (I : Inv X pins σ H s) (TB : TabB X.base X.mg c P) (hcode : X.env.code = .ref c)
    (hm : (P, X.env.qual ++ "<lambda>") ∈ T) (hu : forall p, p ∈ T -> p.1 = P -> p.2 = X.env.qual ++ "<lambda>") (hT : Tabs T H) (hdef : defaultsOf params X.env = ([], [])) (hfree : forall y, y ∈ scope.names -> y.2 = .free -> exists c, X.env.cells.lookup y.1 = some c)
    (q : forall (f c' : Addr) (H1 : Hp) (s' : Shared), Inv X pins σ H1 s' -> SameX P H H1 -> Tabs T H1 -> H f = none -> H1 f = some (LamO f (mkL X params scope c') body) -> H1 c' = some (CodeO c' (X.env.qual ++ "<lambda>")) -> Q (.ref f) s') :
    wpAny (model X.prog X.w) X.A (eval (.Lambda params body scope pos) X.env) Q E s := by
  obtain ⟨ps, hP, ht, ha⟩ := hT _ hm
  refine PySem.W.kla_eval hdef ?_
  have bP : s.heap.BuiltinsAt X.mg P := TB.bm.keeps I.bk
  have gP : s.heap.get? P = some { cls := .none, data := .fields ps } := I.hok P _ hP
  cases hc : codeAmong pos ps.toList with
  | none =>
    refine PySem.W.kla_makeFunction (mg := X.mg) (c := c) (P := P) (ps := ps) (closure_ok hfree) I.ok.glob (I.mod.glob.keeps I.bk) hcode (TB.code.keeps I.bk) gP ht hc TB.gP bP fun c' ctv h' tk hx hge hlt hrec htb => ?_
    obtain ⟨c2, oc, vs, t, e2, hoc, hd, hv⟩ := hrec
    cases e2
    have nC : H c' = none := I.hok.fresh hge
    have I1 := inv_table (t' := tk) (more := #[rawInt pos.line, rawInt pos.col, .ref c']) (h' := h') I hP (fun b o hb e => hx b o hb e) htb hge ⟨oc, vs, t, hoc, hd, hv⟩
    have hE : ExtN H (upd (upd H P (.tbl (ps ++ #[rawInt pos.line, rawInt pos.col, .ref c']))) c' (CodeO c' (X.env.qual ++ "<lambda>"))) := fun b o e n => by
      rw [upd_ne (ne_of_none e nC), upd_ne (fun z => n ps (Option.some.inj (e.symm.trans (by rw [z]; exact hP))))]
      exact e
    have eL : (ps ++ #[rawInt pos.line, rawInt pos.col, .ref c']).toList = ps.toList ++ [rawInt pos.line, rawInt pos.col, .ref c'] := by simp
    have T1 : Tabs T (upd (upd H P (.tbl (ps ++ #[rawInt pos.line, rawInt pos.col, .ref c']))) c' (CodeO c' (X.env.qual ++ "<lambda>"))) := fun p hp => by
      by_cases hb : p.1 = P
      · rw [hu p hp hb, hb]
        refine ⟨_, by rw [upd_ne (ne_of_none hP nC), upd_same], by rw [eL]; exact PySem.TriplesOk_snoc _ _ _ _ ht, fun p' cv hcv => ?_⟩
        rw [eL] at hcv
        rcases among_app _ ht hcv with z | z
        · obtain ⟨c0, e1, e2⟩ := ha p' cv z
          exact ⟨c0, e1, hE _ _ e2 codeO_ne⟩
        · exact ⟨c', z, upd_same⟩
      · obtain ⟨ps', a1, a2, a3⟩ := hT p hp
        refine ⟨ps', by rw [upd_ne (ne_of_none a1 nC), upd_ne hb]; exact a1, a2, fun p' cv hcv => ?_⟩
        obtain ⟨c0, e1, e2⟩ := a3 p' cv hcv
        exact ⟨c0, e1, hE _ _ e2 codeO_ne⟩
    have nF := I1.hok.fresh (Nat.le_refl _)
    have I2 := inv_lam (F := mkL X params scope c') (ex := body) (t := tk) (pm := (X.mg "__name__").getD .none) (ctv := ctv) I1
    refine q h'.objs.size c' _ _ I2 (fun b o n e => ?_) (T1.ext fun b o e => ?_) (I.hok.fresh (Nat.le_trans hge (Nat.le_of_lt hlt))) upd_same ?_
    · have e1 : upd (upd H P (.tbl (ps ++ #[rawInt pos.line, rawInt pos.col, .ref c']))) c' (CodeO c' (X.env.qual ++ "<lambda>")) b = some o := by
        rw [upd_ne (ne_of_none e nC), upd_ne n]
        exact e
      exact (upd_ne (ne_of_none e1 nF)).trans e1
    · exact (upd_ne (ne_of_none e nF)).trans e
    · exact (upd_ne (Nat.ne_of_lt hlt)).trans upd_same
  | some cv =>
    obtain ⟨c', e, hco⟩ := ha pos cv hc
    subst e
    refine PySem.W.kla_makeFunctionHit (mg := X.mg) (c := c) (P := P) (ps := ps) (closure_ok hfree) I.ok.glob (I.mod.glob.keeps I.bk) hcode (TB.code.keeps I.bk) gP ht hc bP fun ctv h' tk hx hsz => ?_
    have I1 : Inv X pins σ H { s with heap := h', toks := tk } := I.kept hx
    have nF : H h'.objs.size = none := I1.hok.fresh (Nat.le_refl _)
    have I2 := inv_lam (F := mkL X params scope c') (ex := body) (t := tk) (pm := (X.mg "__name__").getD .none) (ctv := ctv) I1
    refine q h'.objs.size c' _ _ I2 (fun b o n e => ?_) (hT.ext fun b o e => ?_) nF upd_same ?_
    · exact (upd_ne (ne_of_none e nF)).trans e
    · exact (upd_ne (ne_of_none e nF)).trans e
    · exact (upd_ne (ne_of_none hco nF)).trans hco
end
/-- `lambda ..: body` -/
def tLamV (P : Addr) (T : List (Addr × Str)) (mk : Addr -> NF) (body : Expr) : TE := fun _ H Q => Tabs T H ∧ forall (f c' : Addr) (H1 : Hp), SameX P H H1 -> Tabs T H1 -> H f = none -> H1 f = some (LamO f (mk c') body) -> H1 c' = some (CodeO c' (mk c').qual) -> Q (.ref f) H1
section
variable {X : Cx}
theorem pe_lam {T : List (Addr × Str)} {c P : Addr} {params : Arguments} {body : Expr} {scope : Scope} {pos : Pos} (TB : TabB X.base X.mg c P) (hcode : X.env.code = .ref c) (hm : (P, X.env.qual ++ "<lambda>") ∈ T) (hu : forall p, p ∈ T -> p.1 = P -> p.2 = X.env.qual ++ "<lambda>")
    (hfree : forall y, y ∈ scope.names -> y.2 = .free -> X.env.scope.names.lookup y.1 = some .cell ∨ X.env.scope.names.lookup y.1 = some .free) (hdef : defaultsOf params X.env = ([], [])) : PE X (.Lambda params body scope pos) (tLamV P T (mkL X params scope) body) := by
  refine ⟨fun pins s σ H Q I ⟨hT, q⟩ => ?_⟩
  exact lam_new I TB hcode hm hu hT hdef (fun y hy e => (hfree y hy e).elim (fun z => I.ok.has _ (.inl z)) fun z => I.ok.has _ (.inr z)) fun f c' H1 s' I1 e1 t1 n1 hf hc => ⟨.ref f, H1, I1, rfl, q f c' H1 e1 t1 n1 hf hc⟩
end
/-! ### a lambda runs -/
section
variable {CX : CXT} {P : Program} {w : World} {K : PySem.W.Frag} {mg : Str -> Option Value} {base : Heap} {N ps fr : List Str} {F : NF} {ex : Expr} {f : Addr} {k : Nat}
theorem lam_run (S : NScope N ps fr F.scope) (hb : forall (pm ctv : Value) (us : List Value), us.length = ps.length -> bindArgs (PySem.W.kla_fn F.name F.qual F.params ex F.scope F.cl pm (.ref F.c) ctv) ⟨us, []⟩ = pure (ps.zip us))
    {A : Around} {outer : List Env} {s : Shared} {H : Hp} {us : List Value} {vs : List V} {ws : List (Option V)} {Q : VK} {E : XK} (hr : Room (k + 1) A) (e0 : Env0 P w K mg base A outer s H) (hf : H f = some (LamO f F ex)) (hc : H F.c = some (CodeO F.c F.qual)) (C : CellsAt F.cl fr ws s.heap H) (r : Vals vs us) (hl : vs.length = ps.length)
    (hbody : Room k (A.deeper (envF F f s.heap.objs.size)) -> exists te, PE (ncx CX P w K mg base N F f A outer s H E) ex te ∧ te (startF N vs ws) H Q) : codeAny (model P w) A (.call (.ref f) ⟨us, []⟩) (CR CX outer P w H s Q E) s := by
  have lim : s.heap.NoLimit := e0.mod.nolimit.keeps fun b o e => (e0.bs b o e).1
  obtain ⟨pm, ctv, ho⟩ := lamO_at e0.hok hf
  refine PySem.W.kla_callFunE hr.depth ho rfl S.co S.gen rfl (codeO_at e0.hok hc) ?_
  rw [hb pm ctv us (by rw [← r.length]; exact hl)]
  refine wpAny_pure (wpAny_newFunctionEnv S.nocell (fun ⟨n, _⟩ hy => S.par n (List.of_mem_zip hy).1) (fun h1 hns hsb => ⟨lim.fresh _ hsb, ?_⟩) S.kind)
  show codeAny _ _ (.expr ex (envF F f s.heap.objs.size)) _ _
  have keep : forall b o, s.heap.get? b = some o -> h1.get? b = some o := fun b o e => hsb.extBut b o (Nat.ne_of_lt (Heap.lt_size e)) (Heap.get?_push_of_some _ e)
  obtain ⟨te, ht, q⟩ := hbody (hr.deeper _)
  have J : Inv (ncx CX P w K mg base N F f A outer s H E) [] (startF N vs ws) H { s with heap := h1, toks := s.toks + (ps.zip us).length } := inv_startN S hr.hd e0 hl r C hns keep
  refine PySem.W.kla_codeExpr (wpAny_mono (ht.run [] _ _ H Q J q) (fun v s' hq => ?_) fun e s' hq => hq)
  obtain ⟨x, H', J', rv, q'⟩ := hq
  exact ⟨x, H', J'.os, J'.bare, J'.base, J'.hok, rv, q'⟩
end
/-! ### called by its name -/
/-- the promise of the object at f, whatever state the frame X is in by then -/
def Prom (CX : CXT) (X : Cx) (f : Addr) (vs : List V) (σ : L2.St) (H : Hp) (Q : VK) (E : XK) : Prop := forall (pins : List (Addr × Obj)) (s : Shared) (us : List Value), Inv X pins σ H s -> Vals vs us -> codeAny (model X.prog X.w) X.A (.call (.ref f) ⟨us, []⟩) (CR CX X.stack X.prog X.w H s Q E) s
theorem lamFn {f : Addr} {F : NF} {ex : Expr} {X : Cx} {pins : List (Addr × Obj)} {σ : L2.St} {H : Hp} {s : Shared} (I : Inv X pins σ H s) (e : H f = some (LamO f F ex)) : PySem.W.FnAt f s.heap := by
  obtain ⟨pm, ctv, ho⟩ := lamO_at I.hok e
  exact ⟨_, _, _, _, ho⟩
/-- what the frame does with an exception of a call, the names being what they are -/
def PassAt (CX : CXT) (X : Cx) (σ : L2.St) (E : XK) : Prop := forall (pins : List (Addr × Obj)) (H : Hp) (s : Shared) (e : Value) (s' : Shared), Inv X pins σ H s -> CX X.stack H s E e s' -> X.xe e s'
def tActN (CX : CXT) (X : Cx) (i : Nat) (t : TA) : TE := fun σ H Q => exists f F ex, σ[i]? = some (some (.ref f)) ∧ H f = some (LamO f F ex) ∧ t σ H fun vs H1 => H1 f = some (LamO f F ex) ∧ exists E, PassAt CX X σ E ∧ Prom CX X f vs σ H1 Q E
section
variable {X : Cx} {CX : CXT} {i : Nat} {x : Str} {t : TA} {e : Expr} {es : List Expr} {p pos : Pos}
theorem run_prom {pins : List (Addr × Obj)} {σ : L2.St} {H : Hp} {s : Shared} {Q : VK} {E : XK} {f : Addr} {us : List Value} {vs : List V} (hx : PassAt CX X σ E) (I : Inv X pins σ H s) (r : Vals vs us) (q : Prom CX X f vs σ H Q E) :
    wpAny (model X.prog X.w) X.A (call (.ref f) us) (EP X pins σ Q) X.xe s := by
  refine wpAny_call (codeAny_mono (q pins s us I r) fun r s' hq => ?_)
  cases r with
  | error e => exact hx pins H s e s' I hq
  | ok fl =>
    cases fl with
    | ret u => exact I.after hq
    | next => exact False.elim hq
    | brk => exact False.elim hq
    | cont => exact False.elim hq
theorem pe_act0 (hN : X.N[i]? = some x) (hv : Vis X.env.scope x) (hd : (x == ("__debug__" : Str)) = false := by decide) (hcd : (x == ("__classdict__" : Str)) = false := by decide) : PE X (.Call (.Name x p) [] [] pos) (tActN CX X i tNil) := by
  refine ⟨fun pins s σ H Q I h => ?_⟩
  obtain ⟨f, F, ex, hs, hf, h1, E, hx, q⟩ := h
  refine wpAny_Call_Name_kw (thn ((pe_var (pos := p) hN hv hd hcd).run pins s σ H (fun v H1 => v = .ref f ∧ H1 = H) I ⟨.ref f, hs, rfl, rfl⟩) fun u s1 ⟨v, H1, I1, r1, ev, eH⟩ => ?_)
  subst ev
  rw [eH] at I1
  obtain rfl : u = Value.ref f := r1
  refine PySem.W.callWith_F0 (first := []) (lamFn I1 hf) ?_
  show wpAny _ _ (call (.ref f) []) _ _ _
  exact run_prom hx I1 .nil q
theorem pe_actN (hN : X.N[i]? = some x) (hv : Vis X.env.scope x) (ha : PA X (e :: es) t) (hd : (x == ("__debug__" : Str)) = false := by decide) (hcd : (x == ("__classdict__" : Str)) = false := by decide)
    (he : starEach (e :: es) X.env = (false, eval e X.env) :: starEach es X.env := by rfl) (hpl : (backTo pos (starEach es X.env)).any (·.1) = false := by rfl) : PE X (.Call (.Name x p) (e :: es) [] pos) (tActN CX X i t) := by
  refine ⟨fun pins s σ H Q I h => ?_⟩
  obtain ⟨f, F, ex, hs, hf, ht⟩ := h
  refine wpAny_Call_Name_kw (thn ((pe_var (pos := p) hN hv hd hcd).run pins s σ H (fun v H1 => v = .ref f ∧ H1 = H) I ⟨.ref f, hs, rfl, rfl⟩) fun u s1 ⟨v, H1, I1, r1, ev, eH⟩ => ?_)
  subst ev
  rw [eH] at I1
  obtain rfl : u = Value.ref f := r1
  refine PySem.W.callWith_F (first := []) (lamFn I1 hf) (thn (ha.run pos pins s1 σ H _ I1 ht) fun us s2 ⟨vs, H2, I2, r, h1, E, hx, q⟩ => ⟨lamFn I2 h1, ?_⟩) he hpl
  show wpAny _ _ (call (.ref f) us) _ _ _
  exact run_prom hx I2 r q
end
end Ak
/-! Ak 25: a def told of the very state. -/
namespace Ak
open PySem PySem.Spec PyProof.Rows L2
open NdefX (CellsAt)
section
variable {X : Cx} {pins : List (Addr × Obj)} {σ : L2.St} {H : Hp} {s : Shared} {cl : List (Str × Addr)} {fr : List Str} {ws : List (Option V)}
/-- captured cells hold what they held when the frame began -/
theorem cells_on (C : CellsAt cl fr ws X.s_0.heap X.H_0) (hx : X.ex = []) (I : Inv X pins σ H s) : CellsAt cl fr ws s.heap H := by
  have keep : forall c v, X.H_0 c = none -> X.s_0.heap.IsCell c v -> s.heap.IsCell c v := fun c v n ⟨o, ho, hd⟩ => by
    obtain ⟨sl, e⟩ := I.base.any ho n (by rw [hx]; simp)
    exact ⟨_, e, hd⟩
  refine ⟨C.len, fun y c e => ?_, C.inj, fun i y e => ?_⟩
  · obtain ⟨n, v, z⟩ := C.all y c e
    refine ⟨?_, v, keep c v n z⟩
    obtain ⟨o, ho, _⟩ := z
    exact I.base.free c o ho n (by rw [hx]; simp)
  · obtain ⟨c, hc, hv⟩ := C.has i y e
    refine ⟨c, hc, fun v ev => ?_⟩
    obtain ⟨u, r, z⟩ := hv v ev
    exact ⟨u, r, keep c _ (C.all y c hc).1 z⟩
theorem passes_at {W : WX} {E : XK} (tk : Takes X W) (h : forall cls d H', E cls d H' -> W cls d σ H') : PassAt (L2.CX X.prog X.w) X σ E := fun _ _ _ e s' I c => tk e s' (XE.of_call I (fun cls d H' q => h cls d H' q) c)
end
section
variable {X : Cx} {CX : CXT} {x qual a : Str} {params : Arguments} {body : List Stmt} {scope : Scope} {g : Addr} {fd : FuncData} {N : List Str} {k : Nat} {t : TA} {e : Expr} {p pos : Pos}
/-- x(e), the def's promise given of the very state at the call -/
theorem pe_told {Told : L2.St -> V -> Hp -> VK -> Prop} (F : FunD X.K x qual params body scope [] [] g fd) (hg : Gl X x) (hm : X.mg x = some (.ref g)) (hb : Binds X.K fd [a] []) (S : FnScope N [a] scope) (hr : Room (k + 1) X.A) (hx : Passes CX X E0) (ha : PA X [e] t)
    (go : forall (pins : List (Addr × Obj)) (σ : L2.St) (s : Shared) (H : Hp) (v : V) (Q : VK) (cdv : Value), Inv X pins σ H s -> Told σ v H Q -> Room k (X.A.deeper (envOfC qual scope s.heap.objs.size g cdv)) ->
      exists t, PSs (cxOf CX X.prog X.w X.K X.mg X.base N qual scope g cdv X.A X.stack s H E0) body t ∧ t { nx := fun _ H' => Q .non H', rt := Q } (L2.start N [v]) H)
    (hdb : (x == ("__debug__" : Str)) = false := by decide) (he : starEach [e] X.env = (false, eval e X.env) :: starEach [] X.env := by rfl) (hpl : (backTo pos (starEach [] X.env)).any (·.1) = false := by rfl) :
    PE X (.Call (.Name x p) [e] [] pos) (fun σ H Q => t σ H fun vs H1 => exists v, vs = [v] ∧ Told σ v H1 Q) := by
  refine ⟨fun pins s σ H Q I h => ?_⟩
  refine wpAny_Call_Name_kw (ld_glob I hg hm ?_ hdb)
  refine PySem.W.callWith_K (h₀ := X.base) I.ok.mod.kin F.kp (thn (ha.run pos pins s σ H _ I h) fun us s1 ⟨vs, H1, I1, r, v, ev, told⟩ => ⟨I1.kIn, ?_⟩) he hpl
  subst ev
  obtain ⟨u, eu, ru⟩ := vals1 r
  subst eu
  obtain ⟨oc, od, dV, kV, doc, pm, an, cdv, ct, osl, rfl, lk, hcd, _, _⟩ := F.ex
  have rc : codeAny (model X.prog X.w) X.A (.call (.ref g) ⟨[u], []⟩) (CR CX X.stack X.prog X.w H1 s1 Q E0) s1 :=
    LamX.run_ofS (N := N) (ps := [a]) (us := [u]) (vs := [v]) lk hcd S hr I1.env0 (hb s1 [u] I1.kIn rfl) r rfl fun hr' => go pins σ s1 H1 v Q cdv I1 told hr'
  refine wpAny_call (codeAny_mono rc fun r2 s2 hq => ?_)
  cases r2 with
  | error e => exact hx pins σ H1 s1 e s2 I1 hq
  | ok fl =>
    cases fl with
    | ret u => exact I1.after hq
    | next => exact False.elim hq
    | brk => exact False.elim hq
    | cont => exact False.elim hq
end
end Ak
/-! Ak 26: isinstance of a caught exception that has attributes. -/
namespace Ak
open PySem PySem.Spec PyProof.Rows L2
section
open PySem.W PySem.Calls
variable {prog : Program} {w : World} {A : Around} {E : Value -> Shared -> Prop} {s : Shared} {K : Frag} {x D : Addr} {ox od : Obj}
theorem exc_class {Q : Option Value -> Shared -> Prop} (c : ExcC K D) (X : K.In s.heap) (I : InstAt s.heap x ox D (some od)) (h : Q (some (.ref D)) { s with toks := s.toks + 1 }) : wpAny (model prog w) A (getAttr? (.ref x) "__class__") Q E s := by
  have hf : findObj K D (some od) "__class__" = some (.bind (.builtin "getset_descriptor.__get__") (.builtin "object.__class__")) := findObj_data (by obtain ⟨cd, hc, _⟩ := any_some c.hd; rw [hc] <;> rfl) c.ha c.hn c.ht
  obtain ⟨hp, g, d, t, os⟩ := s
  have l0 := I.type (M := model prog w)
  have l1 := looks_findIn (M := model prog w) X c.hg
  have l2 := looks_findIn (M := model prog w) X c.hk
  have l3 := looks_find (M := model prog w) X I hf
  have isx : Looks (model prog w) hp (isInstance (.ref x) (.type "BaseException")) true := l0.andThen (looks_subIn X c.hs)
  have n0 : (false && onTheHeap (Value.builtin "BaseException.__getattribute__")) = false := rfl
  have n2 : (Value.builtin "BaseException.__getattribute__" == Value.builtin "object.__getattribute__") = false := by decide +kernel
  have n1 : (onTheHeap (Value.ref D) && Value.builtin "BaseException.__getattribute__" == Value.builtin "object.__getattribute__") = false := by rw [n2] <;> rfl
  unfold getAttr? getAttrBy? getAttrBy
  refine wpAny_bind (wpAny_mkText (wpAny_bind (wpAny_attempt (wpAny_holding (wpAny_bind (l0.at (wpAny_bind (l1.at ?_))))))))
  show wpAny _ _ (if (onTheHeap (Value.ref D) && Value.builtin "BaseException.__getattribute__" == Value.builtin "object.__getattribute__") = true then _ else _) _ _ _
  rw [n1, if_neg Bool.false_ne_true]
  unfold getAttrByItsOwn hookBefore
  refine wpAny_bind ?_
  rw [if_pos (show onTheHeap (Value.ref D) = true from rfl)]
  refine l2.at ?_
  refine wpAny_bind (wpAny_attempt (wpAny_holding ?_))
  unfold callGetattribute
  rw [n0, if_neg Bool.false_ne_true]
  unfold boundAndCalled
  rw [PySem.F.excAttr_ValueError.ga.bind (.ref x)]
  refine wpAny_bind (wpAny_pure ?_)
  show wpAny _ _ (call (.builtin "BaseException.__getattribute__") [.ref x, .str "__class__" t]) _ _ _
  refine wpAny_call (codeAny_call_builtin PySem.F.excAttr_ValueError.ga.plain PySem.F.entry_bexc_ga ?_)
  refine @check_slot (model prog w) _ _ ⟨hp, g, d, t + 1, os⟩ "BaseException.__getattribute__" "BaseException" "__getattribute__" (.ref x) [.str "__class__" t] [] _ (by decide +kernel) (by decide +kernel) isx (PySem.F.args_bexc_ga (.ref x) (.str "__class__" t)) ?_
  unfold Builtin.«object.__getattribute__»
  refine wpAny_bind (wpAny_of_eq (a := ((Value.ref x : Value), [Value.str "__class__" t])) (by first | rfl | (simp only [slotArgs]; rfl)) ?_)
  refine wpAny_bind (wpAny_pure (wpAny_bind (l0.at (wpAny_bind (l3.at ?_)))))
  show wpAny _ _ (holding [Value.builtin "object.__class__"] (call (.builtin "getset_descriptor.__get__") [.builtin "object.__class__", .ref x, .ref D]) >>= ret) _ _ _
  refine wpAny_bind (wpAny_holding (wpAny_call (class_get (s := ⟨hp, g, d, t + 1, os⟩) (ox := ox) (od := some od) X I c.hm ?_)))
  refine wpAny_pure ?_
  show wpAny _ _ (handedOut (.ref D)) _ _ _
  rw [handedOut_of (v := .ref D) rfl]
  first
    | exact wpAny_pure (wpAny_pure h)
    | exact wpAny_pure h
    | exact wpAny_pure (wpAny_bind (wpAny_pure (wpAny_pure h)))
theorem exc_kit (c : ExcC K D) : KitX K (.ref x) (.ref D) (fun h => InstAt h x ox D (some od)) where
  ty := fun _ _ _ I => I.type
  it := fun _ _ X _ => by
    obtain ⟨cd, hc, _⟩ := any_some c.hd
    unfold clsIn at hc
    split at hc
    · rename_i c' d' cd' sl' ho
      intro A' Q' E' s' k q
      unfold isType loadHead
      exact wpAny_bind (wpAny_loadPart (k _ _ (X _ _ ho)) (wpAny_pure q))
    · cases hc
  ne := fun h tp dd its n sl X htp => by
    refine Bool.eq_false_iff.mpr fun q => ?_
    have e : D = tp := Value.ref.inj (beq_iff_eq.mp q)
    subst e
    obtain ⟨cd, hc, _⟩ := any_some c.hd
    unfold clsIn at hc
    split at hc
    · rename_i c' d' cd' sl' ho
      have z := (X _ _ ho).symm.trans htp
      cases z
    · cases hc
  ca := fun X I k => exc_class c X I k
end
/-- isinstance(e, c), e the caught exception a, of the class cls with the attributes at d -/
def rIsX (K : PySem.W.Frag) (cls : Value) (d : Option Addr) (a : Addr) : List V -> Hp -> VK -> Prop := fun xs H Q => exists (D : Addr) (c : V) (cv : Value) (b : Bool) (dd : Addr) (fs : List (Str × V)), ExcC K D ∧ cls = .ref D ∧ d = some dd ∧ H dd = some (.xd fs) ∧ xs = [.ref a, c] ∧ (forall u, RelV c u -> u = cv) ∧ PySem.W.kitOne K (.ref D) cv = some b ∧ Q (.bl b) H
theorem call_isX {X : Cx} {a : Addr} {oe : Obj} {cls : Value} {d : Option Addr} {pn : List (Addr × Obj)} (hz : Zc cls d oe) (hf : exists vs, oe.data = .fields vs) : CallR (X.suite a ((a, oe) :: pn)) (.builtin "isinstance") (rIsX X.K cls d a) := by
  intro pins s σ H xs us Q I r h
  obtain ⟨D, c, cv, b, dd, fs, ec, ecl, ed, ea, rfl, hcv, e, q⟩ := h
  subst ecl ed
  cases r with
  | cons rx rr =>
    cases rr with
    | cons rt rr =>
      cases rr
      cases rx
      have e2 := hcv _ rt
      subst e2
      obtain ⟨ha, _⟩ := I.pin (a, oe) (List.mem_append.mpr (.inl List.mem_cons_self))
      obtain ⟨vs, hd⟩ := hf
      have hx : ObjOk X.prog X.w H s.heap dd (.xd fs) := I.hok dd _ ea
      obtain ⟨mA, hns, hr⟩ := hx
      obtain ⟨od, ho, hl⟩ := lookIn_ns hns
      have J : PySem.W.InstAt s.heap a oe D (some od) := ⟨ha, hz.1, by unfold PySem.W.notCls; rw [hd] <;> rfl, by rw [hz.2]; exact ho⟩
      exact PySem.W.kia_one (exc_kit (od := od) ec) I.kIn J e (fun z => nomatch z) fun tk => ⟨.bl b, H, I.kept (t' := tk) fun _ _ z => z, rfl, q⟩
end Ak
/-! Ak 27: xs.index(i) on ints; what a frame that draws and makes lambdas keeps. -/
namespace Ak
open PySem PySem.Spec PyProof.Rows L2
open LamX (CodeO TabS Tabs ExtN TabB codeO_ne)
section
variable {K : PySem.W.Frag} {M : MK} {s : L2.St} {H : Hp} {te ta : TE}
theorem ints_is {G : Hp} : forall {l : List Int} {vs : List V}, Reps G (l.map .int) vs -> vs = l.map V.int
  | [], _, h => h
  | i :: l, _, ⟨x, xs, e, r, rs⟩ => by
    rw [e, show x = V.int i from r, ints_is rs, List.map_cons]
theorem ev_indexI {l : List Int} {x : Int} (h : EvD M te s H (.lst (l.map .int))) (ha : EvD M ta s H (.int x)) (hx : x ∈ l) : EvD M (tBM K "list" (rIndex K) te (tCons ta tNil)) s H (.int (l.idxOf x : Nat)) := fun H1 e1 Q q => h H1 e1 _ fun v H2 e2 r => by
  obtain ⟨a, xs, ev, hq, rs⟩ := r
  subst ev
  have ex := ints_is rs
  subst ex
  have hq2 := msk_same _ _ hq
  refine ⟨.inl ⟨rfl, _, SqL.of hq2⟩, ha H2 (e1.trans e2) _ fun y H3 e3 ry => ?_⟩
  have ey : y = V.int x := ry
  subst ey
  have hlt := List.idxOf_lt_length_of_mem hx
  refine ⟨a, l.map V.int, .int x, l.idxOf x, .int x, rfl, rfl, SqL.of (e3 _ _ hq2), rfl, ?_, ?_, beq_self_eq_true x, fun m z hm hz => ?_, q _ H3 (e2.trans e3) rfl⟩
  · rw [List.all_eq_true]
    intro z hz
    obtain ⟨i, _, rfl⟩ := List.mem_map.mp hz
    rfl
  · rw [List.getElem?_map, List.getElem?_eq_getElem hlt, List.getElem_idxOf hlt] <;> rfl
  · rw [List.getElem?_map] at hz
    cases g : l[m]? with
    | none =>
      rw [g] at hz
      cases hz
    | some i =>
      rw [g] at hz
      cases hz
      show (i == x) = false
      rw [beq_eq_false_iff_ne]
      rintro rfl
      have hml : m < l.length := (List.getElem?_eq_some_iff.mp g).1
      have g2 : l[m] = i := (List.getElem?_eq_some_iff.mp g).2
      have z := List.not_of_lt_findIdx (p := fun y => y == i) (xs := l) (i := m) (by exact hm)
      rw [g2] at z
      simp at z
end
/-! ### the frame of a law -/
def LM (p P0 : Addr) : MK := fun b => b = p ∨ b = P0
/-- the draw list at p, the script at a, the table of code objects at P0 -/
structure Lw (K : PySem.W.Frag) (p a P0 : Addr) (q : Str) (ns : List Int) (H : Hp) : Prop where
  drw : Drw p a H
  scr : SqL K H a (ns.map V.int)
  tab : TabS H P0 q
section
variable {K : PySem.W.Frag} {p a P0 : Addr} {q : Str} {ns : List Int} {H H' : Hp}
theorem Lw.mok (l : Lw K p a P0 q ns H) : Mok (LM p P0) H := fun b z => by
  rcases z with z | z
  · obtain ⟨k, _, g⟩ := l.drw
    rw [z]
    exact ⟨_, g, fun xs e => nomatch e⟩
  · obtain ⟨ps, g, _⟩ := l.tab
    rw [z]
    exact ⟨_, g, fun xs e => nomatch e⟩
theorem lm_p : LM p P0 p := .inl rfl
theorem Lw.up (l : Lw K p a P0 q ns H) (e : Same H H') : Lw K p a P0 q ns H' := ⟨l.drw.up e, l.scr.same e, l.tab.ext e⟩
theorem Lw.upx (l : Lw K p a P0 q ns H) (e : SameX p H H') (d : Drw p a H') : Lw K p a P0 q ns H' := by
  refine ⟨d, sql_x l.scr e l.drw, ?_⟩
  obtain ⟨k, _, g⟩ := l.drw
  obtain ⟨ps, g1, g2, g3⟩ := l.tab
  refine ⟨ps, e _ _ (fun z => ?_) g1, g2, fun pos cv hc => ?_⟩
  · rw [z, g] at g1
    cases g1
  · obtain ⟨c, e1, e2⟩ := g3 pos cv hc
    refine ⟨c, e1, e _ _ (fun z => ?_) e2⟩
    rw [z, g] at e2
    unfold CodeO at e2
    cases e2
/-- a lambda was made -/
theorem Lw.ext (l : Lw K p a P0 q ns H) (e : SameX P0 H H') (t : Tabs [(P0, q)] H') : Lw K p a P0 q ns H' := by
  obtain ⟨k, hk, g⟩ := l.drw
  obtain ⟨ps, g1, _⟩ := l.tab
  have np : p ≠ P0 := fun z => by
    rw [z, g1] at g
    cases g
  refine ⟨⟨k, hk, e _ _ np g⟩, ?_, t _ List.mem_cons_self⟩
  have na : forall o, H a = some o -> (forall ps, o ≠ .tbl ps) -> H' a = some o := fun o h n => e _ _ (fun z => by
    rw [z, g1] at h
    exact n _ (Option.some.inj h).symm) h
  rcases l.scr with (h | ⟨o, h⟩) | h
  · exact .inl (.inl (na _ h fun ps z => nomatch z))
  · exact .inl (.inr ⟨o, na _ h fun ps z => nomatch z⟩)
  · exact .inr h
theorem Lw.tabs (l : Lw K p a P0 q ns H) : Tabs [(P0, q)] H := fun x hx => by
  rw [List.mem_singleton.mp hx]
  exact l.tab
/-- data stay -/
theorem lw_ext (e : SameX P0 H H') : Same (msk (LM p P0) H) (msk (LM p P0) H') := fun b o h => by
  obtain ⟨n, g⟩ := msk_of h
  rw [msk_at n]
  exact e b o (fun z => n (.inr z)) g
end
theorem fnr_of {P : Program} {w : World} {K : PySem.W.Frag} {mg : Str -> Option Value} {base : Heap} {CX : CXT} {k : Nat} {f : Addr} {fd : FuncData} {ps : List Str} {sp : Sp} (F : FnOk P w K mg base CX k f fd ps sp) (B : Binds K fd ps []) : FnR P w K mg base CX k f sp := fun A outer s H us vs Q E hr e0 r hs => by
  have KX : K.In s.heap := e0.mod.kin.keeps fun b o e => (e0.bs b o e).1
  have hl : us.length = ps.length := by rw [← r.length]; exact F.len _ _ _ _ hs
  have hb := B s us KX (by rw [List.append_nil]; exact hl)
  rw [List.append_nil] at hb
  exact F.run A outer s H ⟨us, []⟩ us vs Q E hr e0 hb r hs
end Ak
/-! Ak 28: facts of the head, by Bools. -/
namespace Ak
open PySem PySem.Spec PyProof.Rows L2
open He (ba eqO eqO_ok relAll relAll_ok)
section
variable {K : PySem.W.Frag} {C D f a : Addr}
/-- object's heir with an __eq__ of its own at f -/
def eqcB (K : PySem.W.Frag) (C f : Addr) : Bool := (match K.lookup C with
  | some ⟨.type "type", _, .cls cd, sl⟩ => (match cd.mro, sl.toList with
    | .ref C' :: bm, [_, _, _, _, some (.builtin n), _] => C' == C && !cd.hasDel && bm == [.type "object"] && PySem.W.nsOkIn K cd.ns && eqO (PySem.W.nsIn K cd.ns "__eq__") (some (some (.ref f))) && eqO (PySem.W.nsIn K cd.ns "__ne__") (some none)
    | _, _ => false)
  | _ => false) && PySem.W.isFn K (.ref f)
theorem eqcB_ok (h : eqcB K C f = true) : EqC K C f := by
  obtain ⟨q, hf⟩ := ba h
  refine ⟨?_, ?_⟩
  · split at q
    · rename_i dd cd sl ho
      split at q
      · rename_i C' bm k0 k1 k2 k3 n k5 hm hs
        simp only [Bool.and_eq_true, beq_iff_eq, Bool.not_eq_true'] at q
        obtain ⟨⟨⟨⟨⟨rfl, hdel⟩, rfl⟩, hok⟩, he⟩, hn⟩ := q
        obtain ⟨nm, bs, mro, ns, qn, hd, sn, sub, ab, col, del⟩ := cd
        dsimp only at hm hdel hok he hn
        subst hm hdel
        have hsl : sl = #[k0, k1, k2, k3, some (.builtin n), k5] := by
          obtain ⟨l⟩ := sl
          simp only at hs
          rw [hs]
        subst hsl
        exact ⟨nm, qn, ns, bs, hd, sn, sub, ab, col, dd, k0, k1, k2, k3, k5, n, ho, hok, eqO_ok he, eqO_ok hn⟩
      · cases q
    · cases q
  · obtain ⟨o, ho, hc⟩ := Option.map_eq_some_iff.mp (show (K.lookup f).map (·.cls) = some (.type "function") from beq_iff_eq.mp hf)
    exact ⟨o, ho, hc⟩
/-- an exception class of the program, with an __init__ of its own -/
def oexB (K : PySem.W.Frag) (C : Addr) : Bool := (match K.lookup C with
  | some ⟨.type "type", _, .cls cd, sl⟩ => (match cd.mro, sl.toList with
    | .ref C' :: bm, [_, _, _, _, some (.builtin n), _] => C' == C && n == "ValueError.__new__" && !cd.hasDel && cd.hasDict && PySem.HandSPX.refsVE bm
    | _, _ => false)
  | _ => false) && (eqO (PySem.W.findIn K (.ref C) "__setattr__") (some (some (.builtin "object.__setattr__"))) && (decide (PySem.W.subIn K (.ref C) (.type "BaseException") = some true) && (decide (PySem.W.typeIn K (.ref C) = some (.type "type")) && PySem.W.keepIn K (.ref C))))
theorem oexB_ok (h : oexB K C = true) : OexC K C := by
  obtain ⟨q, h⟩ := ba h
  obtain ⟨h1, h⟩ := ba h
  obtain ⟨h2, h⟩ := ba h
  obtain ⟨h3, h4⟩ := ba h
  refine ⟨?_, eqO_ok h1, of_decide_eq_true h2, of_decide_eq_true h3, h4⟩
  split at q
  · rename_i dd cd sl ho
    split at q
    · rename_i C' bm k0 k1 k2 k3 n k5 hm hs
      simp only [Bool.and_eq_true, beq_iff_eq, Bool.not_eq_true'] at q
      obtain ⟨⟨⟨⟨rfl, rfl⟩, hdel⟩, hdct⟩, hve⟩ := q
      obtain ⟨nm, bs, mro, ns, qn, hd, sn, sub, ab, col, del⟩ := cd
      dsimp only at hm hdel hdct
      subst hm hdel hdct
      have hsl : sl = #[k0, k1, k2, k3, some (.builtin "ValueError.__new__"), k5] := by
        obtain ⟨l⟩ := sl
        simp only at hs
        rw [hs]
      subst hsl
      exact ⟨nm, qn, ns, bs, bm, sn, sub, ab, col, dd, k0, k1, k2, k3, k5, ho, hve⟩
    · cases q
  · cases q
def iscB (K : PySem.W.Frag) (C : Addr) : Bool := eqO (PySem.W.findIn K (.ref C) "__class__") (some (some (.builtin "object.__class__"))) && (eqO (PySem.W.specialIn K (.builtin "object.__class__") "__get__") (some (some (.builtin "getset_descriptor.__get__"))) && (decide (PySem.W.takesIn K (.builtin "object.__class__") = some true) && (decide (PySem.W.mroIn K C (.type "object") = some true) && decide (PySem.W.kitOne K (.ref C) (.ref C) = some true))))
theorem iscB_ok (h : iscB K C = true) : IsC K C := by
  obtain ⟨h1, h⟩ := ba h
  obtain ⟨h2, h⟩ := ba h
  obtain ⟨h3, h⟩ := ba h
  obtain ⟨h4, h5⟩ := ba h
  exact ⟨eqO_ok h1, eqO_ok h2, of_decide_eq_true h3, of_decide_eq_true h4, of_decide_eq_true h5⟩
def excB (K : PySem.W.Frag) (C : Addr) : Bool := eqO (PySem.W.findIn K (.ref C) "__getattribute__") (some (some (.builtin "BaseException.__getattribute__"))) && (eqO (PySem.W.findIn K (.ref C) "__getattr__") (some none) && (decide (PySem.W.subIn K (.ref C) (.type "BaseException") = some true) && (PySem.W.hasDictIn K C && (eqO (PySem.W.findIn K (.ref C) "__class__") (some (some (.builtin "object.__class__"))) && (eqO (PySem.W.specialIn K (.builtin "object.__class__") "__get__") (some (some (.builtin "getset_descriptor.__get__"))) && (decide (PySem.W.takesIn K (.builtin "object.__class__") = some true) && decide (PySem.W.mroIn K C (.type "object") = some true)))))))
theorem excB_ok (h : excB K C = true) : ExcC K C := by
  obtain ⟨h1, h⟩ := ba h
  obtain ⟨h2, h⟩ := ba h
  obtain ⟨h3, h⟩ := ba h
  obtain ⟨h4, h⟩ := ba h
  obtain ⟨h5, h⟩ := ba h
  obtain ⟨h6, h⟩ := ba h
  obtain ⟨h7, h8⟩ := ba h
  exact ⟨eqO_ok h1, eqO_ok h2, of_decide_eq_true h3, h4, eqO_ok h5, eqO_ok h6, of_decide_eq_true h7, of_decide_eq_true h8⟩
/-- a constant of a class: a tuple of the class's own -/
def conTB (K : PySem.W.Frag) (C : Addr) (x : Str) (a : Addr) (vs : List V) : Bool := eqO (PySem.W.findIn K (.ref C) x) (some (some (.ref a))) && (eqO (PySem.W.specialIn K (.ref a) "__get__") (some none) && (!PySem.W.copiedNames.contains x && (match K.lookup a with
  | some ⟨.type c, _, .seq its _, _⟩ => decide (c = "tuple") && (decide (its.size ≤ sizeLine) && relAll vs its.toList)
  | _ => false)))
theorem conTB_ok {x : Str} {vs : List V} (h : conTB K C x a vs = true) : Con K C x (.ref a) (.ref a) ∧ forall G, SqT K G a vs := by
  obtain ⟨h1, h⟩ := ba h
  obtain ⟨h2, h⟩ := ba h
  obtain ⟨h3, h⟩ := ba h
  refine ⟨⟨eqO_ok h1, rfl, eqO_ok h2, by simpa using h3⟩, fun G => ?_⟩
  split at h
  · rename_i c dd its n sl q
    obtain ⟨h4, h⟩ := ba h
    obtain ⟨h5, h6⟩ := ba h
    exact .inr ⟨_, its, n, q, congrArg Value.type (of_decide_eq_true h4), rfl, of_decide_eq_true h5, relAll_ok h6⟩
  · cases h
/-- a method: its attribute facts -/
theorem typ_fn (h : PySem.W.isFn K (.ref f) = true) : PySem.W.typeIn K (.ref f) = some (.type "function") := by
  have z : (K.lookup f).map (·.cls) = some (.type "function") := beq_iff_eq.mp h
  exact z
end
end Ak
namespace K01
open PySem PySem.Spec PyProof.Rows L2 Ak
def top (i : Nat) : Stmt := (PySem.Challenge.pw_arrowkinds_k01_graphs).main.body.getD i (.Pass ⟨0, 0, 0, 0⟩)
abbrev s_BadGraph_init : Stmt := inClass (top 2) 0
theorem sc_BadGraph_init : FnScope ["self", "part", "number"] ["self", "part", "number"] (defScope s_BadGraph_init) := ⟨rfl, rfl, rfl, by decide +kernel, rfl, by decide +kernel, by decide +kernel⟩
abbrev s_BadName_init : Stmt := inClass (top 3) 0
theorem sc_BadName_init : FnScope ["self", "name"] ["self", "name"] (defScope s_BadName_init) := ⟨rfl, rfl, rfl, by decide +kernel, rfl, by decide +kernel, by decide +kernel⟩
abbrev s_TooLarge_init : Stmt := inClass (top 4) 0
theorem sc_TooLarge_init : FnScope ["self", "number"] ["self", "number"] (defScope s_TooLarge_init) := ⟨rfl, rfl, rfl, by decide +kernel, rfl, by decide +kernel, by decide +kernel⟩
abbrev s_is_name : Stmt := top 9
theorem sc_is_name : FnScope ["value", "sign"] ["value"] (defScope s_is_name) := ⟨rfl, rfl, rfl, by decide +kernel, rfl, by decide +kernel, by decide +kernel⟩
abbrev s_is_row : Stmt := top 10
theorem sc_is_row : FnScope ["value"] ["value"] (defScope s_is_row) := ⟨rfl, rfl, rfl, by decide +kernel, rfl, by decide +kernel, by decide +kernel⟩
abbrev s_is_number : Stmt := top 11
theorem sc_is_number : FnScope ["value", "least"] ["value", "least"] (defScope s_is_number) := ⟨rfl, rfl, rfl, by decide +kernel, rfl, by decide +kernel, by decide +kernel⟩
abbrev s_is_arrow : Stmt := top 12
theorem sc_is_arrow : FnScope ["value", "many", "node"] ["value", "many"] (defScope s_is_arrow) := ⟨rfl, rfl, rfl, by decide +kernel, rfl, by decide +kernel, by decide +kernel⟩
abbrev s_Graph_init : Stmt := inClass (top 13) 1
theorem sc_Graph_init : FnScope ["self", "colours", "arrows", "number", "colour", "arrow", "many", "most", "node", "label", "end"] ["self", "colours", "arrows"] (defScope s_Graph_init) := ⟨rfl, rfl, rfl, by decide +kernel, rfl, by decide +kernel, by decide +kernel⟩
abbrev s_Graph_eq : Stmt := inClass (top 13) 2
theorem sc_Graph_eq : FnScope ["self", "other"] ["self", "other"] (defScope s_Graph_eq) := ⟨rfl, rfl, rfl, by decide +kernel, rfl, by decide +kernel, by decide +kernel⟩
abbrev s_Graph_nodes : Stmt := inClass (top 13) 3
theorem sc_Graph_nodes : FnScope ["self"] ["self"] (defScope s_Graph_nodes) := ⟨rfl, rfl, rfl, by decide +kernel, rfl, by decide +kernel, by decide +kernel⟩
abbrev s_Graph_ends : Stmt := inClass (top 13) 4
theorem sc_Graph_ends : FnScope ["self", "node", "label"] ["self", "node", "label"] (defScope s_Graph_ends) := ⟨rfl, rfl, rfl, by decide +kernel, rfl, by decide +kernel, by decide +kernel⟩
abbrev s_Graph_labels : Stmt := inClass (top 13) 5
theorem sc_Graph_labels : FnScope ["self", "node", "one", "label"] ["self", "node"] (defScope s_Graph_labels) := ⟨rfl, rfl, rfl, by decide +kernel, rfl, by decide +kernel, by decide +kernel⟩
abbrev s_Graph_check : Stmt := inClass (top 13) 6
theorem sc_Graph_check : FnScope ["self", "node"] ["self", "node"] (defScope s_Graph_check) := ⟨rfl, rfl, rfl, by decide +kernel, rfl, by decide +kernel, by decide +kernel⟩
abbrev s_Graph_beside : Stmt := inClass (top 13) 7
theorem sc_Graph_beside : FnScope ["self", "other", "many", "moved", "node", "label", "end"] ["self", "other"] (defScope s_Graph_beside) := ⟨rfl, rfl, rfl, by decide +kernel, rfl, by decide +kernel, by decide +kernel⟩
abbrev s_Graph_only : Stmt := inClass (top 13) 8
theorem sc_Graph_only : FnScope ["self", "nodes", "node", "kept", "places", "at", "some", "arrow", "colours", "label", "end"] ["self", "nodes"] (defScope s_Graph_only) := ⟨rfl, rfl, rfl, by decide +kernel, rfl, by decide +kernel, by decide +kernel⟩
abbrev s_Graph_reached : Stmt := inClass (top 13) 9
theorem sc_Graph_reached : FnScope ["self", "node", "rest", "found", "one", "start", "label", "end"] ["self", "node"] (defScope s_Graph_reached) := ⟨rfl, rfl, rfl, by decide +kernel, rfl, by decide +kernel, by decide +kernel⟩
abbrev s__law_number : Stmt := top 15
theorem sc__law_number : FnScope ["script", "index", "cell", "turn", "rest", "step", "blend"] ["script", "index"] (defScope s__law_number) := ⟨rfl, rfl, rfl, by decide +kernel, rfl, by decide +kernel, by decide +kernel⟩
abbrev s__law_take : Stmt := top 16
theorem sc__law_take : FnScope ["draw", "many"] ["draw", "many"] (defScope s__law_take) := ⟨rfl, rfl, rfl, by decide +kernel, rfl, by decide +kernel, by decide +kernel⟩
abbrev s__law_pick : Stmt := top 17
theorem sc__law_pick : FnScope ["draw", "items"] ["draw", "items"] (defScope s__law_pick) := ⟨rfl, rfl, rfl, by decide +kernel, rfl, by decide +kernel, by decide +kernel⟩
abbrev s__law_graph : Stmt := top 18
theorem sc__law_graph : FnScope ["draw", "most", "many", "colours", "turn", "arrows"] ["draw", "most"] (defScope s__law_graph) := ⟨rfl, rfl, rfl, by decide +kernel, rfl, by decide +kernel, by decide +kernel⟩
abbrev s__law_fault : Stmt := top 19
theorem sc__law_fault : FnScope ["deed", "fault"] ["deed"] (defScope s__law_fault) := ⟨rfl, rfl, rfl, by decide +kernel, rfl, by decide +kernel, by decide +kernel⟩
abbrev s__law_reached : Stmt := top 20
theorem sc__law_reached : FnScope ["arrows", "node", "found", "turn", "start", "label", "end"] ["arrows", "node"] (defScope s__law_reached) := ⟨rfl, rfl, rfl, by decide +kernel, rfl, by decide +kernel, by decide +kernel⟩
abbrev s_law : Stmt := top 21
theorem sc_law : FnScope ["script", "draw", "colours", "arrows", "twice", "graph", "many", "node", "label", "start", "one", "end", "other", "both", "moved", "kept", "part", "bad", "at", "odd", "wrong", "deed"] ["script"] (defScope s_law) := ⟨rfl, rfl, rfl, by decide +kernel, rfl, by decide +kernel, by decide +kernel⟩
/-- what the walk needs of the top -/
structure Tx (K : PySem.W.Frag) (mg : Str -> Option Value) where
  n_len : mg "len" = none
  n_isinstance : mg "isinstance" = none
  n_all : mg "all" = none
  n_sorted : mg "sorted" = none
  n_tuple : mg "tuple" = none
  n_list : mg "list" = none
  n_int : mg "int" = none
  n_str : mg "str" = none
  n_bool : mg "bool" = none
  n_set : mg "set" = none
  n_range : mg "range" = none
  n_enumerate : mg "enumerate" = none
  n_zip : mg "zip" = none
  c_SMALL : exists t, mg "SMALL" = some (.str "abcdefghijklmnopqrstuvwxyz" t)
  c_FIGURES : exists t, mg "FIGURES" = some (.str "0123456789" t)
  c_MOST_NAME : exists t, mg "MOST_NAME" = some (.int 8 t)
  f_BadGraph_init : Addr
  d_BadGraph_init : FuncData
  F_BadGraph_init : FunD K "__init__" "BadGraph.__init__" (defArgs s_BadGraph_init) (defBody s_BadGraph_init) (defScope s_BadGraph_init) [] [] f_BadGraph_init d_BadGraph_init
  f_BadName_init : Addr
  d_BadName_init : FuncData
  F_BadName_init : FunD K "__init__" "BadName.__init__" (defArgs s_BadName_init) (defBody s_BadName_init) (defScope s_BadName_init) [] [] f_BadName_init d_BadName_init
  f_TooLarge_init : Addr
  d_TooLarge_init : FuncData
  F_TooLarge_init : FunD K "__init__" "TooLarge.__init__" (defArgs s_TooLarge_init) (defBody s_TooLarge_init) (defScope s_TooLarge_init) [] [] f_TooLarge_init d_TooLarge_init
  f_is_name : Addr
  d_is_name : FuncData
  F_is_name : FunD K "is_name" "is_name" (defArgs s_is_name) (defBody s_is_name) (defScope s_is_name) [] [] f_is_name d_is_name
  g_is_name : mg "is_name" = some (.ref f_is_name)
  f_is_row : Addr
  d_is_row : FuncData
  F_is_row : FunD K "is_row" "is_row" (defArgs s_is_row) (defBody s_is_row) (defScope s_is_row) [] [] f_is_row d_is_row
  g_is_row : mg "is_row" = some (.ref f_is_row)
  f_is_number : Addr
  d_is_number : FuncData
  F_is_number : FunD K "is_number" "is_number" (defArgs s_is_number) (defBody s_is_number) (defScope s_is_number) [] [] f_is_number d_is_number
  g_is_number : mg "is_number" = some (.ref f_is_number)
  f_is_arrow : Addr
  d_is_arrow : FuncData
  F_is_arrow : FunD K "is_arrow" "is_arrow" (defArgs s_is_arrow) (defBody s_is_arrow) (defScope s_is_arrow) [] [] f_is_arrow d_is_arrow
  g_is_arrow : mg "is_arrow" = some (.ref f_is_arrow)
  f_Graph_init : Addr
  d_Graph_init : FuncData
  F_Graph_init : FunD K "__init__" "Graph.__init__" (defArgs s_Graph_init) (defBody s_Graph_init) (defScope s_Graph_init) [] [] f_Graph_init d_Graph_init
  f_Graph_eq : Addr
  d_Graph_eq : FuncData
  F_Graph_eq : FunD K "__eq__" "Graph.__eq__" (defArgs s_Graph_eq) (defBody s_Graph_eq) (defScope s_Graph_eq) [] [] f_Graph_eq d_Graph_eq
  f_Graph_nodes : Addr
  d_Graph_nodes : FuncData
  F_Graph_nodes : FunD K "nodes" "Graph.nodes" (defArgs s_Graph_nodes) (defBody s_Graph_nodes) (defScope s_Graph_nodes) [] [] f_Graph_nodes d_Graph_nodes
  f_Graph_ends : Addr
  d_Graph_ends : FuncData
  F_Graph_ends : FunD K "ends" "Graph.ends" (defArgs s_Graph_ends) (defBody s_Graph_ends) (defScope s_Graph_ends) [] [] f_Graph_ends d_Graph_ends
  f_Graph_labels : Addr
  d_Graph_labels : FuncData
  F_Graph_labels : FunD K "labels" "Graph.labels" (defArgs s_Graph_labels) (defBody s_Graph_labels) (defScope s_Graph_labels) [] [] f_Graph_labels d_Graph_labels
  f_Graph_check : Addr
  d_Graph_check : FuncData
  F_Graph_check : FunD K "check" "Graph.check" (defArgs s_Graph_check) (defBody s_Graph_check) (defScope s_Graph_check) [] [] f_Graph_check d_Graph_check
  f_Graph_beside : Addr
  d_Graph_beside : FuncData
  F_Graph_beside : FunD K "beside" "Graph.beside" (defArgs s_Graph_beside) (defBody s_Graph_beside) (defScope s_Graph_beside) [] [] f_Graph_beside d_Graph_beside
  f_Graph_only : Addr
  d_Graph_only : FuncData
  F_Graph_only : FunD K "only" "Graph.only" (defArgs s_Graph_only) (defBody s_Graph_only) (defScope s_Graph_only) [] [] f_Graph_only d_Graph_only
  f_Graph_reached : Addr
  d_Graph_reached : FuncData
  F_Graph_reached : FunD K "reached" "Graph.reached" (defArgs s_Graph_reached) (defBody s_Graph_reached) (defScope s_Graph_reached) [] [] f_Graph_reached d_Graph_reached
  f__law_number : Addr
  d__law_number : FuncData
  F__law_number : FunD K "_law_number" "_law_number" (defArgs s__law_number) (defBody s__law_number) (defScope s__law_number) [] [] f__law_number d__law_number
  g__law_number : mg "_law_number" = some (.ref f__law_number)
  f__law_take : Addr
  d__law_take : FuncData
  F__law_take : FunD K "_law_take" "_law_take" (defArgs s__law_take) (defBody s__law_take) (defScope s__law_take) [] [] f__law_take d__law_take
  g__law_take : mg "_law_take" = some (.ref f__law_take)
  f__law_pick : Addr
  d__law_pick : FuncData
  F__law_pick : FunD K "_law_pick" "_law_pick" (defArgs s__law_pick) (defBody s__law_pick) (defScope s__law_pick) [] [] f__law_pick d__law_pick
  g__law_pick : mg "_law_pick" = some (.ref f__law_pick)
  f__law_graph : Addr
  d__law_graph : FuncData
  F__law_graph : FunD K "_law_graph" "_law_graph" (defArgs s__law_graph) (defBody s__law_graph) (defScope s__law_graph) [] [] f__law_graph d__law_graph
  g__law_graph : mg "_law_graph" = some (.ref f__law_graph)
  f__law_fault : Addr
  d__law_fault : FuncData
  F__law_fault : FunD K "_law_fault" "_law_fault" (defArgs s__law_fault) (defBody s__law_fault) (defScope s__law_fault) [] [] f__law_fault d__law_fault
  g__law_fault : mg "_law_fault" = some (.ref f__law_fault)
  f__law_reached : Addr
  d__law_reached : FuncData
  F__law_reached : FunD K "_law_reached" "_law_reached" (defArgs s__law_reached) (defBody s__law_reached) (defScope s__law_reached) [] [] f__law_reached d__law_reached
  g__law_reached : mg "_law_reached" = some (.ref f__law_reached)
  f_law : Addr
  d_law : FuncData
  F_law : FunD K "law" "law" (defArgs s_law) (defBody s_law) (defScope s_law) [] [] f_law d_law
  g_law : mg "law" = some (.ref f_law)
  C_StoreError : Addr
  g_StoreError : mg "StoreError" = some (.ref C_StoreError)
  C_BadGraph : Addr
  g_BadGraph : mg "BadGraph" = some (.ref C_BadGraph)
  ox_BadGraph : OexC K C_BadGraph
  i_BadGraph : PySem.W.findIn K (.ref C_BadGraph) "__init__" = some (some (.ref f_BadGraph_init))
  t_BadGraph : PySem.W.typeIn K (.ref f_BadGraph_init) = some (.type "function")
  na_BadGraph_part : NoAttr K C_BadGraph "part"
  na_BadGraph_number : NoAttr K C_BadGraph "number"
  C_BadName : Addr
  g_BadName : mg "BadName" = some (.ref C_BadName)
  ox_BadName : OexC K C_BadName
  i_BadName : PySem.W.findIn K (.ref C_BadName) "__init__" = some (some (.ref f_BadName_init))
  t_BadName : PySem.W.typeIn K (.ref f_BadName_init) = some (.type "function")
  na_BadName_name : NoAttr K C_BadName "name"
  C_TooLarge : Addr
  g_TooLarge : mg "TooLarge" = some (.ref C_TooLarge)
  ox_TooLarge : OexC K C_TooLarge
  i_TooLarge : PySem.W.findIn K (.ref C_TooLarge) "__init__" = some (some (.ref f_TooLarge_init))
  t_TooLarge : PySem.W.typeIn K (.ref f_TooLarge_init) = some (.type "function")
  na_TooLarge_number : NoAttr K C_TooLarge "number"
  C_Graph : Addr
  g_Graph : mg "Graph" = some (.ref C_Graph)
  cls_Graph : Cls K C_Graph
  mk_Graph : Mk K C_Graph f_Graph_init
  eq_Graph : EqC K C_Graph f_Graph_eq
  is_Graph : IsC K C_Graph
  m_Graph_nodes : Meth K C_Graph "nodes" f_Graph_nodes
  m_Graph_ends : Meth K C_Graph "ends" f_Graph_ends
  m_Graph_labels : Meth K C_Graph "labels" f_Graph_labels
  m_Graph_check : Meth K C_Graph "check" f_Graph_check
  m_Graph_beside : Meth K C_Graph "beside" f_Graph_beside
  m_Graph_only : Meth K C_Graph "only" f_Graph_only
  m_Graph_reached : Meth K C_Graph "reached" f_Graph_reached
  na_Graph_colours : NoAttr K C_Graph "colours"
  na_Graph_arrows : NoAttr K C_Graph "arrows"
  na_Graph_out : NoAttr K C_Graph "out"
  a_Graph_most : Addr
  con_Graph_most : Con K C_Graph "most" (.ref a_Graph_most) (.ref a_Graph_most)
  tup_Graph_most : forall G, SqT K G a_Graph_most [.int 1000, .int 10000]
  c_law : Addr
  L_law : exists (oc : Value) (od : Option Addr) (dV kV doc pm : Value) (an : Option Addr) (ct : Value) (osl : Array (Option Value)), d_law = PySem.W.fnOf "law" "law" (defArgs s_law) (defBody s_law) (defScope s_law) dV kV doc pm an (.ref c_law) ct ∧ K.lookup f_law = some ⟨oc, od, .func d_law, osl⟩ ∧ PySem.W.codeIn K (.ref c_law) "law" = true
  xf_BadGraph : XfC K C_BadGraph
  ec_BadGraph : ExcC K C_BadGraph
  exm_BadGraph_BadGraph : PySem.W.exmOne K (.ref C_BadGraph) (.ref C_BadGraph) = some true
  exm_BadGraph_BadName : PySem.W.exmOne K (.ref C_BadGraph) (.ref C_BadName) = some false
  exm_BadGraph_TooLarge : PySem.W.exmOne K (.ref C_BadGraph) (.ref C_TooLarge) = some false
  xf_BadName : XfC K C_BadName
  ec_BadName : ExcC K C_BadName
  exm_BadName_BadGraph : PySem.W.exmOne K (.ref C_BadName) (.ref C_BadGraph) = some false
  exm_BadName_BadName : PySem.W.exmOne K (.ref C_BadName) (.ref C_BadName) = some true
  exm_BadName_TooLarge : PySem.W.exmOne K (.ref C_BadName) (.ref C_TooLarge) = some false
  xf_TooLarge : XfC K C_TooLarge
  ec_TooLarge : ExcC K C_TooLarge
  exm_TooLarge_BadGraph : PySem.W.exmOne K (.ref C_TooLarge) (.ref C_BadGraph) = some false
  exm_TooLarge_BadName : PySem.W.exmOne K (.ref C_TooLarge) (.ref C_BadName) = some false
  exm_TooLarge_TooLarge : PySem.W.exmOne K (.ref C_TooLarge) (.ref C_TooLarge) = some true
  kit_BadGraph_StoreError : PySem.W.kitOne K (.ref C_BadGraph) (.ref C_StoreError) = some true
  kit_BadName_StoreError : PySem.W.kitOne K (.ref C_BadName) (.ref C_StoreError) = some true
  kit_TooLarge_StoreError : PySem.W.kitOne K (.ref C_TooLarge) (.ref C_StoreError) = some true
section
variable {K : PySem.W.Frag} {mg : Str -> Option Value}
theorem Tx.B_BadGraph_init (T : Tx K mg) : Binds K T.d_BadGraph_init ["self", "part", "number"] [] := T.F_BadGraph_init.bindsN fun _ _ _ _ _ _ us hl => match us, hl with | [_, _, _], _ => rfl
theorem Tx.B_BadName_init (T : Tx K mg) : Binds K T.d_BadName_init ["self", "name"] [] := T.F_BadName_init.bindsN fun _ _ _ _ _ _ us hl => match us, hl with | [_, _], _ => rfl
theorem Tx.B_TooLarge_init (T : Tx K mg) : Binds K T.d_TooLarge_init ["self", "number"] [] := T.F_TooLarge_init.bindsN fun _ _ _ _ _ _ us hl => match us, hl with | [_, _], _ => rfl
theorem Tx.B_is_name (T : Tx K mg) : Binds K T.d_is_name ["value"] [] := T.F_is_name.bindsN fun _ _ _ _ _ _ us hl => match us, hl with | [_], _ => rfl
theorem Tx.B_is_row (T : Tx K mg) : Binds K T.d_is_row ["value"] [] := T.F_is_row.bindsN fun _ _ _ _ _ _ us hl => match us, hl with | [_], _ => rfl
theorem Tx.B_is_number (T : Tx K mg) : Binds K T.d_is_number ["value", "least"] [] := T.F_is_number.bindsN fun _ _ _ _ _ _ us hl => match us, hl with | [_, _], _ => rfl
theorem Tx.B_is_arrow (T : Tx K mg) : Binds K T.d_is_arrow ["value", "many"] [] := T.F_is_arrow.bindsN fun _ _ _ _ _ _ us hl => match us, hl with | [_, _], _ => rfl
theorem Tx.B_Graph_init (T : Tx K mg) : Binds K T.d_Graph_init ["self", "colours", "arrows"] [] := T.F_Graph_init.bindsN fun _ _ _ _ _ _ us hl => match us, hl with | [_, _, _], _ => rfl
theorem Tx.B_Graph_eq (T : Tx K mg) : Binds K T.d_Graph_eq ["self", "other"] [] := T.F_Graph_eq.bindsN fun _ _ _ _ _ _ us hl => match us, hl with | [_, _], _ => rfl
theorem Tx.B_Graph_nodes (T : Tx K mg) : Binds K T.d_Graph_nodes ["self"] [] := T.F_Graph_nodes.bindsN fun _ _ _ _ _ _ us hl => match us, hl with | [_], _ => rfl
theorem Tx.B_Graph_ends (T : Tx K mg) : Binds K T.d_Graph_ends ["self", "node", "label"] [] := T.F_Graph_ends.bindsN fun _ _ _ _ _ _ us hl => match us, hl with | [_, _, _], _ => rfl
theorem Tx.B_Graph_labels (T : Tx K mg) : Binds K T.d_Graph_labels ["self", "node"] [] := T.F_Graph_labels.bindsN fun _ _ _ _ _ _ us hl => match us, hl with | [_, _], _ => rfl
theorem Tx.B_Graph_check (T : Tx K mg) : Binds K T.d_Graph_check ["self", "node"] [] := T.F_Graph_check.bindsN fun _ _ _ _ _ _ us hl => match us, hl with | [_, _], _ => rfl
theorem Tx.B_Graph_beside (T : Tx K mg) : Binds K T.d_Graph_beside ["self", "other"] [] := T.F_Graph_beside.bindsN fun _ _ _ _ _ _ us hl => match us, hl with | [_, _], _ => rfl
theorem Tx.B_Graph_only (T : Tx K mg) : Binds K T.d_Graph_only ["self", "nodes"] [] := T.F_Graph_only.bindsN fun _ _ _ _ _ _ us hl => match us, hl with | [_, _], _ => rfl
theorem Tx.B_Graph_reached (T : Tx K mg) : Binds K T.d_Graph_reached ["self", "node"] [] := T.F_Graph_reached.bindsN fun _ _ _ _ _ _ us hl => match us, hl with | [_, _], _ => rfl
theorem Tx.B__law_number (T : Tx K mg) : Binds K T.d__law_number ["script", "index"] [] := T.F__law_number.bindsN fun _ _ _ _ _ _ us hl => match us, hl with | [_, _], _ => rfl
theorem Tx.B__law_take (T : Tx K mg) : Binds K T.d__law_take ["draw", "many"] [] := T.F__law_take.bindsN fun _ _ _ _ _ _ us hl => match us, hl with | [_, _], _ => rfl
theorem Tx.B__law_pick (T : Tx K mg) : Binds K T.d__law_pick ["draw", "items"] [] := T.F__law_pick.bindsN fun _ _ _ _ _ _ us hl => match us, hl with | [_, _], _ => rfl
theorem Tx.B__law_graph (T : Tx K mg) : Binds K T.d__law_graph ["draw", "most"] [] := T.F__law_graph.bindsN fun _ _ _ _ _ _ us hl => match us, hl with | [_, _], _ => rfl
theorem Tx.B__law_fault (T : Tx K mg) : Binds K T.d__law_fault ["deed"] [] := T.F__law_fault.bindsN fun _ _ _ _ _ _ us hl => match us, hl with | [_], _ => rfl
theorem Tx.B__law_reached (T : Tx K mg) : Binds K T.d__law_reached ["arrows", "node"] [] := T.F__law_reached.bindsN fun _ _ _ _ _ _ us hl => match us, hl with | [_, _], _ => rfl
theorem Tx.B_law (T : Tx K mg) : Binds K T.d_law ["script"] [] := T.F_law.bindsN fun _ _ _ _ _ _ us hl => match us, hl with | [_], _ => rfl
end
end K01
namespace K01
open PySem PySem.Spec PyProof.Rows L2 Ak
section
variable {P : Program} {w : World} {K : PySem.W.Frag} {mg : Str -> Option Value} {base : Heap}
/-! ### names -/
def smallL : List Nat := ("abcdefghijklmnopqrstuvwxyz" : Str).cps.toList
def figL : List Nat := ("0123456789" : Str).cps.toList
def nameS (x : Str) : Bool := decide (1 ≤ x.length) && (decide (x.length ≤ 8) && (match x.cps.toList with
  | [] => false
  | c :: cs => decide (c ∈ smallL) && (c :: cs).all fun c => decide (c ∈ smallL) || decide (c ∈ figL)))
def isNm : D -> Bool
  | .str x => nameS x
  | _ => false
def okSign : D -> Bool
  | .str x => x.cps.toList.all fun c => decide (c ∈ smallL) || decide (c ∈ figL)
  | _ => false
def R_is_name : List D -> D -> Prop := fun ds z => exists d, ds = [d] ∧ d.fi = true ∧ z = .bl (isNm d)
theorem isB_str {d : D} (h : isB d "str" = true) (hf : d.fi = true) : exists x, d = .str x := by
  cases d with
  | str x => exact ⟨x, rfl⟩
  | oth v => cases (show false = true from hf)
  | ins C fs => cases (show false = true from hf)
  | dK k => cases (show false = true from hf)
  | dT k => cases (show false = true from hf)
  | _ => simp [isB, D.tn] at h
theorem ok_is_name (T : Tx K mg) : FnOk P w K mg base (L2.CX P w) 1 T.f_is_name T.d_is_name ["value"] (SpR R_is_name) := by
  refine T.F_is_name.ok sc_is_name (fun _ _ _ _ h => SpR.len (n := 1) (fun ds z ⟨d, e, _⟩ => by rw [e] <;> rfl) h) (fun cdv A outer s H vs Q E hr h => ⟨_, (pss_cons (ps_if (PW.pt (pw_or (pt_not (pt_val (pe_callB call_isi rfl T.n_isinstance PyProof.Rows.boot_isinstance (pa_cons (pv 0) (pa_cons (pe_bltn (v := .ty "str") rfl T.n_str PyProof.Rows.boot_str rfl) pa_nil))))) (pw_or (pt_not (pt_chain op_le op_le pe_int (pe_callB call_lenU rfl T.n_len PySem.boot_len (by exact (pa_cons (pv 0) pa_nil))) (pe_glob (v := .int 8) rfl T.c_MOST_NAME.choose_spec ⟨_, rfl⟩))) (pw_or1 (pt_cmpR (op_notInU hr.units) (pe_ix ix_seq (pv 0) pe_int (fun _ _ => rfl)) (pe_glob (v := .str "abcdefghijklmnopqrstuvwxyz") rfl T.c_SMALL.choose_spec ⟨_, rfl⟩) (by with_unfolding_all rfl)))))) (pss_one (ps_ret pe_bl)) pss_nil)
      (pss_one (ps_ret (pe_callB (cr_all rfl) rfl T.n_all PyProof.Rows.boot_all (by exact (pa_cons (pe_lc (own := [("sign", 1)]) (g := (gName 1)) (tt := tYes) (te := (tOrV (tOp (rInU false) (tVar 1) (tC (.str "abcdefghijklmnopqrstuvwxyz"))) (tOp (rInU false) (tVar 1) (tC (.str "0123456789"))))) rfl sc_is_name.nd (pi_any (pv 0)) (blkOk_by (own := [("sign", 1)]) (N := ["value", "sign"]) (sc := (defScope s_is_name)) (by decide +kernel)) (fun _ _ _ _ _ => by exact (pg_name (i := 1) sc_is_name.nd rfl (.inl rfl))) (fun _ _ _ _ _ => by exact pts_nil) (fun _ _ _ _ _ => by exact (pe_or (pe_cmpR (op_inU hr.units) (pv 1) (pe_glob (v := .str "abcdefghijklmnopqrstuvwxyz") rfl T.c_SMALL.choose_spec ⟨_, rfl⟩) (by with_unfolding_all rfl)) (pe_one (pe_cmpR (op_inU hr.units) (pv 1) (pe_glob (v := .str "0123456789") rfl T.c_FIGURES.choose_spec ⟨_, rfl⟩) (by with_unfolding_all rfl)))))) pa_nil)))))), ?_⟩)
  obtain ⟨M, ds, z, m, rs, ⟨d, rfl, hf, rfl⟩, q⟩ := h
  obtain ⟨v, rfl, r⟩ := rs.one_of
  by_cases hs : exists x, d = .str x
  · obtain ⟨x, rfl⟩ := hs
    have hx := fi_str hf
    have isi : EvT (tNot (tB (tCB (rIsi K) (tCons (tVar 0) (tCons (tC (V.ty "str")) tNil))))) (L2.start ["value", "sign"] [v]) H false := et_not (et_B (ev_isi (M := M) (ea_cons (ev_var rfl r) (ea_one ev_ty)) (fi_tn hf) (fi_dT hf) (by decide)))
    by_cases hl : 1 ≤ x.length ∧ x.length ≤ 8
    · obtain ⟨c, cs, hc⟩ : exists c cs, x.cps.toList = c :: cs := by
        cases q : x.cps.toList with
        | nil =>
          have h0 : x.length = 0 := by
            show x.cps.size = 0
            rw [← Array.length_toList, q] <;> rfl
          omega
        | cons c cs => exact ⟨c, cs, rfl⟩
      have lenT : decide ((1 : Int) ≤ (x.length : Int)) = true := decide_eq_true (by omega)
      have lenT2 : decide ((x.length : Int) ≤ 8) = true := decide_eq_true (by omega)
      refine st_seq (st_if (b := !decide (c ∈ smallL)) (et_orF isi (et_orF (et_not (b := true) (et_test (M := M) (Ev.to (ev_chainLe ev_int (ev_len (ea_one (ev_var rfl r)) rfl (fi_dT hf) fun y e => by cases e; exact fi_strL hf) ev_int) (by rw [lenT, lenT2] <;> rfl)))) (et_test (M := M) (ev_op (ev_op (ev_var rfl r) ev_int (rd_ixS (fi_strL hf) (c := c) (by rw [hc]; exact atI_nat (j := 0) rfl))) ev_str rd_inSU)))) (fun h H2 e2 => ?_) fun h H2 e2 => ?_)
      · refine st_ret (M := M) ev_bl fun y H3 e3 ry => q y H3 (e2.trans e3) (Rep.to ry ?_)
        show D.bl false = .bl (nameS x)
        have h1 : decide (c ∈ smallL) = false := by simpa using h
        unfold nameS
        rw [hc]
        simp [h1]
      · have hr2 := r.up (msk_mono (M := M) e2)
        refine st_ret (M := M) (ev_all (bs := x.cps.toList.map fun c => decide (c ∈ smallL) || decide (c ∈ figL)) (ea_one (Ev.to (ev_lcm (fun d => .bl (okSign d)) (m.up e2) (ia_str (ev_var rfl hr2)) ?_ fun N H3 d y mN eN hd rd => ?_) ?_))) fun y H3 e3 ry => q y H3 (e2.trans e3) (Rep.to ry ?_)
        · unfold Ak.signs
          rw [List.length_map, Array.length_toList]
          exact Nat.le_trans hx (by decide)
        · obtain ⟨c', hc', rfl⟩ := List.mem_map.mp hd
          refine elt_all (s2 := (wipe (L2.start ["value", "sign"] [v]) [1]).set 1 (some y)) (fun Q q => q) rfl ?_
          refine Ev.to (ev_orV (z := .bl (decide (c' ∈ smallL) || decide (c' ∈ figL))) (ev_op (ev_var rfl rd) ev_str rd_inSU) (fun h => Ev.to (ev_op (ev_var rfl rd) ev_str rd_inSU) ?_) fun h => ?_) ?_
          · have h1 : decide (c' ∈ smallL) = false := h
            rw [h1]
            rfl
          · have h1 : decide (c' ∈ smallL) = true := h
            rw [h1]
            rfl
          · simp [okSign]
        · unfold Ak.signs
          rw [List.map_map, List.map_map]
          congr 1
          refine List.map_congr_left fun c' _ => ?_
          simp [okSign]
        · have h1 : decide (c ∈ smallL) = true := by simpa using h
          show D.bl _ = .bl (nameS x)
          unfold nameS
          rw [List.all_map, hc]
          simp [h1, hl.1, hl.2]
    · refine st_seq (st_ifT (et_orF isi (et_orT (et_not (b := false) (et_test (M := M) (Ev.to (ev_chainLe ev_int (ev_len (ea_one (ev_var rfl r)) rfl (fi_dT hf) fun y e => by cases e; exact fi_strL hf) ev_int) ?_))))) fun H2 e2 => st_ret (M := M) ev_bl fun y H3 e3 ry => q y H3 (e2.trans e3) (Rep.to ry ?_))
      · congr 1
        rw [Bool.and_eq_false_iff, decide_eq_false_iff_not, decide_eq_false_iff_not]
        omega
      · show D.bl false = .bl (nameS x)
        unfold nameS
        congr 1
        by_cases h1 : 1 ≤ x.length
        · have h2 : ¬ x.length ≤ 8 := fun z => hl ⟨h1, z⟩
          simp [h2]
        · simp [h1]
  · have hn : isNm d = false := by
      cases d with
      | str x => exact absurd ⟨x, rfl⟩ hs
      | _ => rfl
    have hb : isB d "str" = false := by
      cases z : isB d "str" with
      | false => rfl
      | true => exact absurd (isB_str z hf) hs
    refine st_seq (st_ifT (et_orT (et_not (b := false) (et_B (M := M) (Ev.to (ev_isi (ea_cons (ev_var rfl r) (ea_one ev_ty)) (fi_tn hf) (fi_dT hf) (by decide)) (by rw [hb]))))) fun H2 e2 => st_ret (M := M) ev_bl fun y H3 e3 ry => q y H3 (e2.trans e3) (Rep.to ry ?_))
    rw [hn]
/-! ### rows, numbers, arrows -/
def R_is_row : List D -> D -> Prop := fun ds z => exists d, ds = [d] ∧ d.fi = true ∧ z = .bl (isB d "list" || isB d "tuple")
theorem ok_is_row (T : Tx K mg) : FnOk P w K mg base (L2.CX P w) 1 T.f_is_row T.d_is_row ["value"] (SpR R_is_row) := by
  refine T.F_is_row.ok sc_is_row (fun _ _ _ _ h => SpR.len (n := 1) (fun ds z ⟨d, e, _⟩ => by rw [e] <;> rfl) h) (fun cdv A outer s H vs Q E hr h => ⟨_, (pss_one (ps_ret (pe_callB call_isiT rfl T.n_isinstance PyProof.Rows.boot_isinstance (pa_cons (pv 0) (pa_cons (pe_tup (pa_cons (pe_bltn (v := .ty "list") rfl T.n_list PyProof.Rows.boot_list rfl) (pa_cons (pe_bltn (v := .ty "tuple") rfl T.n_tuple PyProof.Rows.boot_tuple rfl) pa_nil))) pa_nil))))), ?_⟩)
  obtain ⟨M, ds, z, m, rs, ⟨d, rfl, hf, rfl⟩, q⟩ := h
  obtain ⟨v, rfl, r⟩ := rs.one_of
  exact st_ret (M := M) (ev_isi2 (ea_cons (ev_var rfl r) (ea_one (ev_tup m (ea_cons ev_ty (ea_one ev_ty))))) (fi_tn hf) (fi_dT hf) (by decide) (by decide)) fun y H3 e3 ry => q y H3 e3 ry
def isNum (d : D) (k : Int) : Bool := match d with
  | .int i => decide (k ≤ i)
  | _ => false
def R_is_number : List D -> D -> Prop := fun ds z => exists d k, ds = [d, .int k] ∧ d.fi = true ∧ z = .bl (isNum d k)
theorem ok_is_number (T : Tx K mg) : FnOk P w K mg base (L2.CX P w) 1 T.f_is_number T.d_is_number ["value", "least"] (SpR R_is_number) := by
  refine T.F_is_number.ok sc_is_number (fun _ _ _ _ h => SpR.len (n := 2) (fun ds z ⟨d, k, e, _⟩ => by rw [e] <;> rfl) h) (fun cdv A outer s H vs Q E hr h => ⟨_, (pss_one (ps_ret (pe_and (pe_callB call_isi rfl T.n_isinstance PyProof.Rows.boot_isinstance (pa_cons (pv 0) (pa_cons (pe_bltn (v := .ty "int") rfl T.n_int PyProof.Rows.boot_int rfl) pa_nil))) (pe_and (pe_not (pe_callB call_isi rfl T.n_isinstance PyProof.Rows.boot_isinstance (pa_cons (pv 0) (pa_cons (pe_bltn (v := .ty "bool") rfl T.n_bool PyProof.Rows.boot_bool rfl) pa_nil)))) (pe_one (pe_cmpR op_ge (pv 0) (pv 1) (nomark _))))))), ?_⟩)
  obtain ⟨M, ds, z, m, rs, ⟨d, k, rfl, hf, rfl⟩, q⟩ := h
  obtain ⟨v, w', rfl, r, r2⟩ := rs.two_of
  refine st_ret (M := M) (ev_andV (a := isB d "int") (z := .bl (isNum d k)) (ev_isi (ea_cons (ev_var rfl r) (ea_one ev_ty)) (fi_tn hf) (fi_dT hf) (by decide)) (fun h => ev_andV (a := !isB d "bool") (ev_notV (ev_isi (ea_cons (ev_var rfl r) (ea_one ev_ty)) (fi_tn hf) (fi_dT hf) (by decide))) (fun h2 => ?_) fun h2 => ?_) fun h => ?_) fun y H3 e3 ry => q y H3 e3 ry
  · cases d with
    | int i => exact ev_op (ev_var rfl r) (ev_var rfl r2) rd_ge
    | bl b => simp [isB, D.tn] at h2
    | oth v => cases (show false = true from hf)
    | ins C fs => cases (show false = true from hf)
    | dK k => cases (show false = true from hf)
    | dT k => cases (show false = true from hf)
    | _ => simp [isB, D.tn] at h
  · cases d with
    | int i => simp [isB, D.tn] at h2
    | _ => rfl
  · cases d with
    | int i => simp [isB, D.tn] at h
    | _ => rfl
def nodeIn (d : D) (n : Int) : Bool := match d with
  | .int i => decide (0 ≤ i) && decide (i < n)
  | _ => false
def isArr (d : D) (n : Int) : Bool := match d with
  | .tup [a, l, b] => isNm l && (nodeIn a n && nodeIn b n)
  | _ => false
def R_is_arrow : List D -> D -> Prop := fun ds z => exists d n, ds = [d, .int n] ∧ d.fi = true ∧ z = .bl (isArr d n)
theorem ok_is_arrow (T : Tx K mg) : FnOk P w K mg base (L2.CX P w) 2 T.f_is_arrow T.d_is_arrow ["value", "many"] (SpR R_is_arrow) := by
  refine T.F_is_arrow.ok sc_is_arrow (fun _ _ _ _ h => SpR.len (n := 2) (fun ds z ⟨d, k, e, _⟩ => by rw [e] <;> rfl) h) (fun cdv A outer s H vs Q E hr h => ⟨_, (pss_cons (ps_if (PW.pt (pw_or (pt_not (pt_val (pe_callB call_isi rfl T.n_isinstance PyProof.Rows.boot_isinstance (pa_cons (pv 0) (pa_cons (pe_bltn (v := .ty "tuple") rfl T.n_tuple PyProof.Rows.boot_tuple rfl) pa_nil))))) (pw_or (pt_cmpR (op_neU hr.units) (pe_callB call_lenU rfl T.n_len PySem.boot_len (by exact (pa_cons (pv 0) pa_nil))) pe_int (nomark _)) (pw_or1 (pt_not (pt_val (pe_call (ok_is_name T) (hr.mono (by decide)) rfl T.g_is_name T.F_is_name.kp (T.B_is_name) .nil passL (pa_cons (pe_ix ix_seq (pv 0) pe_int (fun _ _ => rfl)) pa_nil)))))))) (pss_one (ps_ret pe_bl)) pss_nil)
      (pss_one (ps_ret (pe_callB (cr_all rfl) rfl T.n_all PyProof.Rows.boot_all (by exact (pa_cons (pe_lc (own := [("node", 2)]) (g := (gName 2)) (tt := tYes) (te := (tAndV (tCall (SpR R_is_number) [] E0 (tCons (tVar 2) (tCons (tC (.int 0)) tNil))) (tOp (rI0 fun i j => .bl (decide (i < j))) (tVar 2) (tVar 1)))) rfl sc_is_arrow.nd (pi_any (pe_tup (pa_cons (pe_ix ix_seq (pv 0) pe_int (fun _ _ => rfl)) (pa_cons (pe_ix ix_seq (pv 0) pe_int (fun _ _ => rfl)) pa_nil)))) (blkOk_by (own := [("node", 2)]) (N := ["value", "many", "node"]) (sc := (defScope s_is_arrow)) (by decide +kernel)) (fun _ _ _ _ _ => by exact (pg_name (i := 2) sc_is_arrow.nd rfl (.inl rfl))) (fun _ _ _ _ _ => by exact pts_nil) (fun _ _ _ _ _ => by exact (pe_and (pe_call (ok_is_number T) (hr.mono (by decide)) rfl T.g_is_number T.F_is_number.kp (T.B_is_number) .nil passL (pa_cons (pv 2) (pa_cons pe_int pa_nil))) (pe_one (pe_cmpR op_lt (pv 2) (pv 1) (nomark _)))))) pa_nil)))))), ?_⟩)
  obtain ⟨M, ds, z, m, rs, ⟨d, n, rfl, hf, rfl⟩, q⟩ := h
  obtain ⟨v, w', rfl, r, r2⟩ := rs.two_of
  have no : forall {t : TT}, (forall H1, Same H H1 -> EvT t (L2.start ["value", "many", "node"] [v, w']) H1 true) -> isArr d n = false -> forall u : TS, tSeq (tIfS t (tRet (tC (V.bl false))) tNext) u { nx := fun _ H' => Q .non H', rt := Q } (L2.start ["value", "many", "node"] [v, w']) H := fun {t} ht hd u =>
    st_seq (st_ifT (ht H (Same.refl H)) fun H2 e2 => st_ret (M := M) ev_bl fun y H3 e3 ry => q y H3 (e2.trans e3) (Rep.to ry (by rw [hd])))
  by_cases hs : exists a l b, d = .tup [a, l, b]
  · obtain ⟨a, l, b, rfl⟩ := hs
    have hfs := (fi_tup hf).2
    have fa := fis_all.mp hfs a (by simp)
    have fl := fis_all.mp hfs l (by simp)
    have fb := fis_all.mp hfs b (by simp)
    have r1 : forall H1, Same H H1 -> Rep (msk M H1) (.tup [a, l, b]) v := fun H1 e => r.up (msk_mono e)
    refine st_seq (st_if (b := !isNm l) (et_orF (et_not (b := true) (et_B (M := M) (Ev.to (ev_isi (ea_cons (ev_var rfl r) (ea_one ev_ty)) (fi_tn hf) (fi_dT hf) (by decide)) rfl))) (et_orF (et_test (M := M) (Ev.to (ev_op (ev_len (ea_one (ev_var rfl r)) rfl (fi_dT hf) fun y e => nomatch e) ev_int (rd_eqU rfl rfl)) rfl)) (et_not (et_B (M := M) (ev_call m (ea_one (ev_op (ev_var rfl r) ev_int (rd_ixT (z := l) rfl))) ⟨l, rfl, fl, rfl⟩))))) (fun h H2 e2 => ?_) fun h H2 e2 => ?_)
    · refine st_ret (M := M) ev_bl fun y H3 e3 ry => q y H3 (e2.trans e3) (Rep.to ry ?_)
      have h1 : isNm l = false := by simpa using h
      show D.bl false = .bl (isNm l && _)
      rw [h1, Bool.false_and]
    · have h1 : isNm l = true := by simpa using h
      have hr2 := r.up (msk_mono (M := M) e2)
      have hr3 := Rep.up r2 (msk_mono (M := M) e2)
      refine st_ret (M := M) (ev_all (bs := [nodeIn a n, nodeIn b n]) (ea_one (ev_lcm (ds := [a, b]) (fun d => .bl (nodeIn d n)) (m.up e2) (ia_tup (ev_tup (m.up e2) (ea_cons (ev_op (ev_var rfl hr2) ev_int (rd_ixT (z := a) rfl)) (ea_one (ev_op (ev_var rfl hr2) ev_int (rd_ixT (z := b) rfl)))))) (by simp) fun N H3 d y mN eN hd rd => ?_))) fun y H3 e3 ry => q y H3 (e2.trans e3) (Rep.to ry ?_)
      · have fd : d.fi = true := by
          rcases List.mem_cons.mp hd with z | z
          · rw [z]
            exact fa
          · rw [List.mem_singleton.mp z]
            exact fb
        refine elt_all (s2 := (wipe (L2.start ["value", "many", "node"] [v, w']) [2]).set 2 (some y)) (fun Q q => q) rfl ?_
        refine ev_andV (a := isNum d 0) (ev_call mN (ea_cons (ev_var rfl rd) (ea_one ev_int)) ⟨d, 0, rfl, fd, rfl⟩) (fun h => ?_) fun h => ?_
        · cases d with
          | int i =>
            have h0 : decide ((0 : Int) ≤ i) = true := h
            refine Ev.to (ev_op (ev_var rfl rd) (ev_var rfl (Rep.up hr3 eN)) rd_lt) ?_
            show _ = D.bl (decide (0 ≤ i) && decide (i < n))
            rw [h0, Bool.true_and]
          | _ => cases (show false = true from h)
        · cases d with
          | int i =>
            have h0 : decide ((0 : Int) ≤ i) = false := h
            show D.bl (decide (0 ≤ i) && decide (i < n)) = _
            rw [h0, Bool.false_and]
          | _ => rfl
      · show D.bl _ = .bl (isNm l && (nodeIn a n && nodeIn b n))
        rw [h1]
        simp
  · have hn : isArr d n = false := by
      unfold isArr
      split
      · exact absurd ⟨_, _, _, rfl⟩ hs
      · rfl
    cases d with
    | tup ds =>
      refine no (fun H1 e1 => et_orF (et_not (b := true) (et_B (M := M) (Ev.to (ev_isi (ea_cons (ev_var rfl (Rep.up r (msk_mono e1))) (ea_one ev_ty)) (fi_tn hf) (fi_dT hf) (by decide)) rfl))) (et_orT (et_test (M := M) (Ev.to (ev_op (ev_len (ea_one (ev_var rfl (Rep.up r (msk_mono e1)))) rfl (fi_dT hf) fun y e => nomatch e) ev_int (rd_eqU rfl rfl)) ?_)))) hn _
      have h3 : ds.length ≠ 3 := by
        intro z
        match ds, z with
        | [a, l, b], _ => exact hs ⟨a, l, b, rfl⟩
      show D.bl (!PyData.eqv (.int (ds.length : Int)) (.int 3)) = .bl true
      have h4 : ((ds.length : Int) = 3) = False := by
        apply propext
        constructor
        · intro z
          omega
        · intro z
          exact z.elim
      simp [PyData.eqv, h4]
    | oth v => cases (show false = true from hf)
    | ins C fs => cases (show false = true from hf)
    | dK k => cases (show false = true from hf)
    | dT k => cases (show false = true from hf)
    | _ => exact no (fun H1 e1 => et_orT (et_not (b := false) (et_B (M := M) (Ev.to (ev_isi (ea_cons (ev_var rfl (Rep.up r (msk_mono e1))) (ea_one ev_ty)) (fi_tn hf) (fi_dT hf) (by decide)) rfl)))) hn _
/-! ### the exceptions keep what they are told -/
theorem ok_BadGraph_init (T : Tx K mg) : FnOk P w K mg base (L2.CX P w) 1 T.f_BadGraph_init T.d_BadGraph_init ["self", "part", "number"] (SpX T.C_BadGraph ["part", "number"]) := by
  refine T.F_BadGraph_init.ok sc_BadGraph_init (fun vs _ _ _ ⟨a, ys, e, l, _⟩ => by rw [e, List.length_cons, l] <;> rfl) (fun cdv A outer s H vs Q E hr h => ⟨_, (pss_cons (ps_ost (pv 0) (pv 1))
      (pss_one (ps_ost (pv 0) (pv 2)))), ?_⟩)
  obtain ⟨a, ys, rfl, l, ha, q⟩ := h
  match ys, l with
  | [y1, y2], _ =>
    refine ⟨y1, rfl, _, rfl, a, _, rfl, T.ox_BadGraph, T.na_BadGraph_part, .inl ⟨ha, fun dx hdx hne => ?_⟩⟩
    refine ⟨y2, rfl, _, rfl, a, _, rfl, T.ox_BadGraph, T.na_BadGraph_number, .inr ⟨dx, _, upd_same, (upd_ne hne).trans upd_same, by simp, ?_⟩⟩
    refine q dx _ hdx hne ((upd_ne (Ne.symm hne)).trans upd_same) upd_same fun b h1 h2 => ?_
    rw [upd_ne h2, upd_ne h1, upd_ne h2]
theorem ok_BadName_init (T : Tx K mg) : FnOk P w K mg base (L2.CX P w) 1 T.f_BadName_init T.d_BadName_init ["self", "name"] (SpX T.C_BadName ["name"]) := by
  refine T.F_BadName_init.ok sc_BadName_init (fun vs _ _ _ ⟨a, ys, e, l, _⟩ => by rw [e, List.length_cons, l] <;> rfl) (fun cdv A outer s H vs Q E hr h => ⟨_, (pss_one (ps_ost (pv 0) (pv 1))), ?_⟩)
  obtain ⟨a, ys, rfl, l, ha, q⟩ := h
  match ys, l with
  | [y1], _ =>
    refine ⟨y1, rfl, _, rfl, a, _, rfl, T.ox_BadName, T.na_BadName_name, .inl ⟨ha, fun dx hdx hne => ?_⟩⟩
    refine q dx _ hdx hne upd_same ((upd_ne hne).trans upd_same) fun b h1 h2 => ?_
    rw [upd_ne h1, upd_ne h2]
theorem ok_TooLarge_init (T : Tx K mg) : FnOk P w K mg base (L2.CX P w) 1 T.f_TooLarge_init T.d_TooLarge_init ["self", "number"] (SpX T.C_TooLarge ["number"]) := by
  refine T.F_TooLarge_init.ok sc_TooLarge_init (fun vs _ _ _ ⟨a, ys, e, l, _⟩ => by rw [e, List.length_cons, l] <;> rfl) (fun cdv A outer s H vs Q E hr h => ⟨_, (pss_one (ps_ost (pv 0) (pv 1))), ?_⟩)
  obtain ⟨a, ys, rfl, l, ha, q⟩ := h
  match ys, l with
  | [y1], _ =>
    refine ⟨y1, rfl, _, rfl, a, _, rfl, T.ox_TooLarge, T.na_TooLarge_number, .inl ⟨ha, fun dx hdx hne => ?_⟩⟩
    refine q dx _ hdx hne upd_same ((upd_ne hne).trans upd_same) fun b h1 h2 => ?_
    rw [upd_ne h1, upd_ne h2]
end
end K01
namespace K01
open PySem PySem.Spec PyProof.Rows L2 Ak
/-! ### graphs as data -/
abbrev Arrow := Int × Str × Int
def aD (a : Arrow) : D := .tup [.int a.1, .str a.2.1, .int a.2.2]
def leA (a b : Arrow) : Bool := leD (aD a) (aD b)
def uniq {α : Type} [DecidableEq α] (l : List α) : List α := l.foldl (fun acc x => if x ∈ acc then acc else acc ++ [x]) []
def sortA (as : List Arrow) : List Arrow := (uniq as).mergeSort leA
abbrev OutL := List ((Int × Str) × List Int)
def stepO (kvs : OutL) (a : Arrow) : OutL := if kvs.any (fun p => decide (p.1 = (a.1, a.2.1))) = true then kvs.map (fun p => if p.1 = (a.1, a.2.1) then (p.1, p.2 ++ [a.2.2]) else p) else kvs ++ [((a.1, a.2.1), [a.2.2])]
def outF (as : List Arrow) : OutL := as.foldl stepO []
def keyO (k : Int × Str) : List Key := [.inl k.1, .inr k.2]
def outD (kvs : OutL) : List (List Key × D) := kvs.map fun p => (keyO p.1, .lst (p.2.map .int))
def fieldsD (cs : List Str) (as : List Arrow) : List (Str × D) := [("colours", .tup (cs.map .str)), ("arrows", .tup (as.map aD)), ("out", .dT (outD (outF as)))]
def endsO (kvs : OutL) (n : Int) (l : Str) : List Int := ((kvs.find? fun p => decide (p.1 = (n, l))).map (·.2)).getD []
theorem keyO_inj {a b : Int × Str} (h : keyO a = keyO b) : a = b := by
  unfold keyO at h
  injection h with h1 h2
  injection h1 with h1
  injection h2 with h2 _
  injection h2 with h2
  exact Prod.ext h1 h2
theorem vD_out (n : Int) (l : Str) : forall kvs : OutL, (vD (outD kvs) (keyO (n, l))).getD (.tup []) = .tup [] ∧ (endsO kvs n l) = [] ∨ (vD (outD kvs) (keyO (n, l))).getD (.tup []) = .lst ((endsO kvs n l).map .int)
  | [] => .inl ⟨rfl, rfl⟩
  | p :: kvs => by
    by_cases h : p.1 = (n, l)
    · right
      have e1 : vD (outD (p :: kvs)) (keyO (n, l)) = some (.lst (p.2.map .int)) := by simp [vD, outD, List.find?_cons, h]
      have e2 : endsO (p :: kvs) n l = p.2 := by simp [endsO, List.find?_cons, h]
      rw [e1, e2] <;> rfl
    · have hk : ¬ keyO p.1 = keyO (n, l) := fun z => h (keyO_inj z)
      have e1 : vD (outD (p :: kvs)) (keyO (n, l)) = vD (outD kvs) (keyO (n, l)) := by simp [vD, outD, List.find?_cons, hk]
      have e2 : endsO (p :: kvs) n l = endsO kvs n l := by simp [endsO, List.find?_cons, h]
      rw [e1, e2]
      exact vD_out n l kvs
section
variable {P : Program} {w : World} {K : PySem.W.Frag} {mg : Str -> Option Value} {base : Heap}
def graphD (T : Tx K mg) (cs : List Str) (as : List Arrow) : D := .ins T.C_Graph (fieldsD cs as)
def R_nodes (T : Tx K mg) : List D -> D -> Prop := fun ds z => exists cs as, ds = [graphD T cs as] ∧ cs.length ≤ 1000000 ∧ z = .lst (rngD 0 cs.length)
theorem ok_Graph_nodes (T : Tx K mg) : FnOk P w K mg base (L2.CX P w) 1 T.f_Graph_nodes T.d_Graph_nodes ["self"] (SpR (R_nodes T)) := by
  refine T.F_Graph_nodes.ok sc_Graph_nodes (fun _ _ _ _ h => SpR.len (n := 1) (fun ds z ⟨cs, as, e, _⟩ => by rw [e] <;> rfl) h) (fun cdv A outer s H vs Q E hr h => ⟨_, (pss_one (ps_ret (pe_listRg rfl rfl T.n_list (prg_1 rfl T.n_range (pe_callB call_lenU rfl T.n_len PySem.boot_len (by exact (pa_cons (pe_fld (pv 0) rfl) pa_nil))))))), ?_⟩)
  obtain ⟨M, ds, z, m, rs, ⟨cs, as, rfl, hz, rfl⟩, q⟩ := h
  obtain ⟨v, rfl, r⟩ := rs.one_of
  refine st_ret (M := M) (ev_lrg m (ev_len (ea_one (ev_fld (ev_var rfl r) T.cls_Graph T.na_Graph_colours rfl)) rfl (fun _ e => nomatch e) fun _ e => nomatch e) (by omega) ?_) fun y H3 e3 ry => q y H3 e3 (Rep.to ry ?_)
  · rw [List.length_map]
    omega
  · rw [List.length_map] <;> rfl
def R_ends (T : Tx K mg) : List D -> D -> Prop := fun ds z => exists cs as n l, ds = [graphD T cs as, .int n, .str l] ∧ z = .tup ((endsO (outF as) n l).map .int)
theorem ok_Graph_ends (T : Tx K mg) : FnOk P w K mg base (L2.CX P w) 1 T.f_Graph_ends T.d_Graph_ends ["self", "node", "label"] (SpR (R_ends T)) := by
  refine T.F_Graph_ends.ok sc_Graph_ends (fun _ _ _ _ h => SpR.len (n := 3) (fun ds z ⟨cs, as, n, l, e, _⟩ => by rw [e] <;> rfl) h) (fun cdv A outer s H vs Q E hr h => ⟨_, (pss_one (ps_ret (pe_callTy call_tuple_of rfl T.n_tuple (by decide +kernel) (by exact (pa_cons (pe_dget2 (hu_of hr) (pe_fld (pv 0) rfl) (pe_tup (pa_cons (pv 1) (pa_cons (pv 2) pa_nil))) (pe_tup pa_nil) ⟨rfl, rfl, rfl, rfl⟩) pa_nil))))), ?_⟩)
  obtain ⟨M, ds, z, m, rs, ⟨cs, as, n, l, rfl, rfl⟩, q⟩ := h
  obtain ⟨v, v2, v3, rfl, r, r2, r3⟩ := rs.three_of
  have key : EvD M (tDGet2 (tFld K (tVar 0) "out") (tTup (tCons (tVar 1) (tCons (tVar 2) tNil))) (tTup tNil)) (L2.start ["self", "node", "label"] [v, v2, v3]) H ((vD (outD (outF as)) (keyO (n, l))).getD (.tup [])) :=
    ev_dget2 (c := kcT) (ev_fld (ev_var rfl r) T.cls_Graph T.na_Graph_out rfl) (ev_tup m (ea_cons (ev_var rfl r2) (ea_one (ev_var rfl r3))) (by simp [keyO])) (ev_tup m ea_nil)
  refine st_ret (M := M) (ev_tof (ds := (endsO (outF as) n l).map .int) m (ea_one key) ?_) fun y H3 e3 ry => q y H3 e3 ry
  rcases vD_out n l (outF as) with ⟨h1, h2⟩ | h1
  · rw [h1, h2]
    exact .inr rfl
  · rw [h1]
    exact .inl rfl
/-- the labels of the arrows out of a node, as they stand -/
def labsO (kvs : OutL) (n : Int) : List Str := kvs.filterMap fun p => if p.1.1 = n then some p.1.2 else none
def R_labels (T : Tx K mg) : List D -> D -> Prop := fun ds z => exists cs as n, ds = [graphD T cs as, .int n] ∧ (outF as).length ≤ 1000000 ∧ CanSort ((labsO (outF as) n).map .str) ∧ z = .tup (sortD ((labsO (outF as) n).map .str))
theorem ok_Graph_labels (T : Tx K mg) : FnOk P w K mg base (L2.CX P w) 1 T.f_Graph_labels T.d_Graph_labels ["self", "node"] (SpR (R_labels T)) := by
  refine T.F_Graph_labels.ok sc_Graph_labels (fun _ _ _ _ h => SpR.len (n := 2) (fun ds z ⟨cs, as, n, e, _⟩ => by rw [e] <;> rfl) h) (fun cdv A outer s H vs Q E hr h => ⟨_, (pss_one (ps_ret (pe_callTy call_tuple_of rfl T.n_tuple (by decide +kernel) (by exact (pa_cons (pe_callB (call_sortU rfl hr.units) rfl T.n_sorted PyProof.Rows.boot_sorted (by exact (pa_cons (pe_lockU (pe_lc (own := [("one", 2), ("label", 3)]) (g := (gTup K 2 (gCons (gName 2) (gCons (gName 3) gNil)))) (tt := (tTest (tOp (rEqU false) (tVar 2) (tVar 1)))) (te := (tVar 3)) rfl sc_Graph_labels.nd (pi_any (pe_fld (pv 0) rfl)) (blkOk_by (own := [("one", 2), ("label", 3)]) (N := ["self", "node", "one", "label"]) (sc := (defScope s_Graph_labels)) (by decide +kernel)) (fun _ _ _ _ _ => by exact (pg_tup rfl (pgs_cons (pg_name (i := 2) sc_Graph_labels.nd rfl (.inl rfl)) (pgs_cons (pg_name (i := 3) sc_Graph_labels.nd rfl (.inl rfl)) pgs_nil)))) (fun _ _ _ _ _ => by exact (pts_one (pt_cmpR (op_eqU hr.units) (pv 2) (pv 1) (nomark _)))) (fun _ _ _ _ _ => by exact (pv 3)))) pa_nil))) pa_nil))))), ?_⟩)
  obtain ⟨M, ds, z, m, rs, ⟨cs, as, n, rfl, hz, hc, rfl⟩, q⟩ := h
  obtain ⟨v, v2, rfl, r, r2⟩ := rs.two_of
  obtain ⟨a, dx, fs, ev, ha, rf⟩ := id r
  obtain ⟨vo, hvo, ro⟩ := rf.look (f := "out") (d := .dT (outD (outF as))) rfl
  let labF : D -> Option D := fun d => match d with
    | .tup [.int x, l] => if x = n then some l else none
    | _ => none
  have hl : List.filterMap labF ((outD (outF as)).map fun p => kT p.1) = (labsO (outF as) n).map .str := by
    generalize outF as = l
    induction l with
    | nil => rfl
    | cons p l ih =>
      show List.filterMap labF (kT (keyO p.1) :: (outD l).map fun p => kT p.1) = (labsO (p :: l) n).map .str
      have h1 : labF (kT (keyO p.1)) = if p.1.1 = n then some (D.str p.1.2) else none := rfl
      unfold labsO
      rw [List.filterMap_cons, List.filterMap_cons, h1, ih]
      by_cases h : p.1.1 = n
      · rw [if_pos h, if_pos h] <;> rfl
      · rw [if_neg h, if_neg h] <;> rfl
  refine st_ret (M := M) (ev_tof m (ea_one (ev_sort (d := .lst ((labsO (outF as) n).map .str)) m (ea_one (ev_lock (c := kcT) (kvs := outD (outF as)) m ro fun Hl b od ws ml fl eb nm hb rp => ?_)) rfl hc)) (.inl rfl)) fun y H3 e3 ry => q y H3 e3 ry
  have rl := Rep.fx fl _ r
  have rl2 := Rep.fx fl _ r2
  have keys : (outD (outF as)).map (fun p => kT p.1) = ws.map fun p => kT p.1 := by
    have e : ws.map (·.1) = (outD (outF as)).map (·.1) := RepT.keys (repT_iff.mpr rp)
    have e2 := congrArg (List.map kT) e
    rw [List.map_map, List.map_map] at e2
    exact e2.symm
  have sees : Ev M (tFld K (tVar 0) "out") (L2.start ["self", "node", "one", "label"] [v, v2]) Hl fun y _ => y = .ref b := fun H1 e1 Q q => by
    refine ⟨v, rfl, ?_⟩
    obtain ⟨a2, dx2, fs2, ev2, ha2, rf2⟩ := rl.up (msk_mono (M := M) e1)
    have h0 := fl.ins ha
    have ea : a2 = a := by
      rw [ev] at ev2
      cases ev2
      rfl
    subst ea
    have ha3 := msk_mono (M := M) e1 _ _ h0
    rw [ha2] at ha3
    cases ha3
    exact ⟨a2, T.C_Graph, _, _, vo, ev2, msk_same _ _ ha2, T.cls_Graph, T.na_Graph_out, hvo, q vo H1 (Same.refl _) eb⟩
  rw [← hl]
  refine ev_lc labF ml (ia_dict (a := b) (od := od) ml sees nm (.inr ⟨ws, hb, keys⟩)) (by unfold outD; rw [List.length_map, List.length_map]; exact hz) fun N H3 d x mN eN hd rd => ?_
  obtain ⟨p, hp, rfl⟩ := List.mem_map.mp hd
  obtain ⟨p', hp', rfl⟩ := List.mem_map.mp hp
  obtain ⟨t, xs, et, ht, rxs⟩ := rd
  obtain ⟨x1, x2, exs, rx1, rx2⟩ := Reps.two_of (d := .int p'.1.1) (e := .str p'.1.2) rxs
  subst exs et
  have e1 : x1 = V.int p'.1.1 := rx1
  have e2 : x2 = V.str p'.1.2 := rx2
  refine elt_of (b := decide (p'.1.1 = n)) (s2 := ((wipe (L2.start ["self", "node", "one", "label"] [v, v2]) [2, 3]).set 2 (some x1)).set 3 (some x2)) (fun Q q => ⟨t, [x1, x2], rfl, SqT.of (msk_same _ _ ht), rfl, x1, [x2], rfl, x2, [], rfl, rfl, q⟩) rfl ?_ (fun h => ?_) fun h => ?_
  · refine et_test (M := N) (Ev.to (ev_op (ev_var rfl rx1) (ev_var rfl (Rep.up rl2 eN)) (rd_eqU rfl rfl)) ?_)
    exact congrArg D.bl (eqv_int _ _)
  · refine ⟨.str p'.1.2, ?_, ev_var rfl rx2⟩
    show (if p'.1.1 = n then some (D.str p'.1.2) else none) = _
    rw [if_pos (of_decide_eq_true h)]
  · show (if p'.1.1 = n then some (D.str p'.1.2) else none) = _
    rw [if_neg (of_decide_eq_false h)]
/-! ### check -/
def R_check (T : Tx K mg) : List D -> D -> Prop := fun ds z => exists cs as d, ds = [graphD T cs as, d] ∧ d.fi = true ∧ nodeIn d cs.length = true ∧ z = .non
def X_check (T : Tx K mg) : List D -> Addr -> List (Str × D) -> Prop := fun ds C fs => exists cs as d, ds = [graphD T cs as, d] ∧ d.fi = true ∧ nodeIn d cs.length = false ∧ C = T.C_BadName ∧ fs = ([("name", d)] : List (Str × D))
theorem ok_Graph_check (T : Tx K mg) : FnOk P w K mg base (L2.CX P w) 3 T.f_Graph_check T.d_Graph_check ["self", "node"] (SpE (R_check T) (X_check T)) := by
  refine T.F_Graph_check.ok sc_Graph_check (fun _ _ _ _ h => SpE.len (n := 2) (fun ds z ⟨cs, as, n, e, _⟩ => by rw [e] <;> rfl) (fun ds C z ⟨cs, as, n, e, _⟩ => by rw [e] <;> rfl) h) (fun cdv A outer s H vs Q E hr h => ⟨_, (pss_one (ps_if (PW.pt (pw_or (pt_not (pt_val (pe_call (ok_is_number T) (hr.mono (by decide)) rfl T.g_is_number T.F_is_number.kp (T.B_is_number) .nil passL (pa_cons (pv 1) (pa_cons pe_int pa_nil))))) (pw_or1 (pt_cmpR op_ge (pv 1) (pe_callB call_lenU rfl T.n_len PySem.boot_len (by exact (pa_cons (pe_fld (pv 0) rfl) pa_nil))) (nomark _))))) (pss_one (ps_raise rfl (takes_of rfl rfl rfl rfl) (pmk_oex T.ox_BadName T.i_BadName T.t_BadName (ok_BadName_init T) (hr.mono (by decide)) T.B_BadName_init .nil (by exact passL) rfl T.g_BadName (pa_cons (pv 1) pa_nil)))) pss_nil)), ?_⟩)
  obtain ⟨M, ds, m, rs, h⟩ := h
  have key : exists cs as d, ds = [graphD T cs as, d] ∧ d.fi = true ∧ (nodeIn d cs.length = true -> forall v H', Same H H' -> Rep (msk M H') .non v -> Q v H') ∧
      (nodeIn d cs.length = false -> forall dx ws H', Same H H' -> H dx = none -> H' dx = some (.xd ws) -> RepF (msk M H') ([("name", d)] : List (Str × D)) ws -> E (.ref T.C_BadName) (some dx) H') := by
    rcases h with ⟨z, ⟨cs, as, d, e, hf, hn, rfl⟩, q⟩ | ⟨C, fs, ⟨cs, as, d, e, hf, hn, rfl, rfl⟩, q⟩
    · exact ⟨cs, as, d, e, hf, fun _ => q, fun z => by rw [hn] at z; cases z⟩
    · exact ⟨cs, as, d, e, hf, fun z => absurd z (by rw [hn]; exact Bool.false_ne_true), fun _ => q⟩
  obtain ⟨cs, as, d, rfl, hf, q1, q2⟩ := key
  obtain ⟨v, v2, rfl, r, r2⟩ := rs.two_of
  have num : EvT (tNot (tB (tCall (SpR R_is_number) [] E0 (tCons (tVar 1) (tCons (tC (.int 0)) tNil))))) (L2.start ["self", "node"] [v, v2]) H (!isNum d 0) := et_not (et_B (M := M) (ev_call m (ea_cons (ev_var rfl r2) (ea_one ev_int)) ⟨d, 0, rfl, hf, rfl⟩))
  have len : EvD M (tCB (rLenU K) (tCons (tFld K (tVar 0) "colours") tNil)) (L2.start ["self", "node"] [v, v2]) H (.int cs.length) := Ev.to (ev_len (ea_one (ev_fld (ev_var rfl r) T.cls_Graph T.na_Graph_colours rfl)) rfl (fun _ e => nomatch e) fun _ e => nomatch e) (by rw [List.length_map])
  have bad : nodeIn d cs.length = false -> forall H2, Same H H2 -> tMkO T.C_BadName (SpX T.C_BadName ["name"]) [] (tCons (tVar 1) tNil) (L2.start ["self", "node"] [v, v2]) H2 fun cls dd H' => E cls dd H' := fun hn H2 e2 =>
    tmk_ok (M := M) (ds := [d]) (ea_one (ev_var rfl (Rep.up r2 (msk_mono e2)))) rfl (by simp) (m.up e2) fun dx ws H' e3 hdx hw rf => q2 hn dx ws H' (e2.trans e3) (e2.free hdx) hw rf
  cases hd : isNum d 0 with
  | false =>
    refine st_ifT (et_orT (et_to num (by rw [hd] <;> rfl))) fun H2 e2 => bad ?_ H2 e2
    cases d with
    | int i =>
      have h0 : decide ((0 : Int) ≤ i) = false := hd
      show (decide (0 ≤ i) && _) = false
      rw [h0, Bool.false_and]
    | _ => rfl
  | true =>
    cases d with
    | int i =>
      have h0 : decide ((0 : Int) ≤ i) = true := hd
      have hn : nodeIn (.int i) cs.length = decide (i < (cs.length : Int)) := by
        show (decide (0 ≤ i) && _) = _
        rw [h0, Bool.true_and]
      refine st_if (b := decide ((cs.length : Int) ≤ i)) (et_orF (et_to num (by rw [hd] <;> rfl)) (et_test (ev_op (ev_var rfl r2) len rd_ge))) (fun h H2 e2 => bad ?_ H2 e2) fun h H2 e2 => ?_
      · rw [hn]
        have := of_decide_eq_true h
        exact decide_eq_false (by omega)
      · refine q1 ?_ .non H2 e2 rfl
        rw [hn]
        have := of_decide_eq_false h
        exact decide_eq_true (by omega)
    | _ => cases (show false = true from hd)
end

end K01
namespace K01
open PySem PySem.Spec PyProof.Rows L2 Ak
/-! ### what Graph refuses -/
inductive GFault where
  | bad (part : Str) (number : D)
  | large (n : Int)
def gFault (c a : D) : Option GFault := match c.its with
  | none => some (.bad "nodes" .non)
  | some cs => match cs.findIdx? (fun d => !isNm d) with
    | some i => some (.bad "nodes" (.int (i : Nat)))
    | none => match a.its with
      | none => some (.bad "arrows" .non)
      | some as => match as.findIdx? (fun d => !isArr d cs.length) with
        | some i => some (.bad "arrows" (.int (i : Nat)))
        | none => if 1000 < cs.length then some (.large cs.length) else if 10000 < as.length then some (.large as.length) else none
theorem findIdx_no {α : Type} {p : α -> Bool} {l : List α} (h : l.findIdx? p = none) {i : Nat} {x : α} (hx : l[i]? = some x) : p x = false := by
  rw [List.findIdx?_eq_none_iff] at h
  exact h x (List.mem_of_getElem? hx)
theorem findIdx_first {α : Type} {p : α -> Bool} : forall {l : List α} {i : Nat} {x : α}, l[i]? = some x -> p x = true -> (forall j y, j < i -> l[j]? = some y -> p y = false) -> l.findIdx? p = some i
  | [], _, _, h, _, _ => by simp at h
  | y :: l, 0, x, h, hp, _ => by
    simp at h
    subst h
    rw [List.findIdx?_cons, hp] <;> rfl
  | y :: l, i + 1, x, h, hp, hb => by
    rw [List.findIdx?_cons, hb 0 y (Nat.succ_pos _) rfl, findIdx_first (i := i) (x := x) (by simpa using h) hp fun j z hj hz => hb (j + 1) z (Nat.succ_lt_succ hj) (by simpa using hz)] <;> rfl
theorem isNm_str {d : D} (h : isNm d = true) : exists x, d = .str x := by
  cases d with
  | str x => exact ⟨x, rfl⟩
  | _ => cases (show false = true from h)
theorem nodeIn_int {d : D} {n : Int} (h : nodeIn d n = true) : exists i, d = .int i := by
  cases d with
  | int x => exact ⟨x, rfl⟩
  | _ => cases (show false = true from h)
theorem isArr_aD {d : D} {n : Int} (h : isArr d n = true) : exists a : Arrow, d = aD a := by
  unfold isArr at h
  split at h
  · rename_i a l b
    rw [Bool.and_eq_true, Bool.and_eq_true] at h
    obtain ⟨x, rfl⟩ := isNm_str h.1
    obtain ⟨i, rfl⟩ := nodeIn_int h.2.1
    obtain ⟨j, rfl⟩ := nodeIn_int h.2.2
    exact ⟨(i, x, j), rfl⟩
  · cases h
theorem all_strs : forall {cs : List D}, (forall d, d ∈ cs -> isNm d = true) -> exists xs : List Str, cs = xs.map .str
  | [], _ => ⟨[], rfl⟩
  | c :: cs, h => by
    obtain ⟨x, rfl⟩ := isNm_str (h c List.mem_cons_self)
    obtain ⟨xs, rfl⟩ := all_strs fun d hd => h d (List.mem_cons_of_mem _ hd)
    exact ⟨x :: xs, rfl⟩
theorem all_arrs {n : Int} : forall {cs : List D}, (forall d, d ∈ cs -> isArr d n = true) -> exists xs : List Arrow, cs = xs.map aD
  | [], _ => ⟨[], rfl⟩
  | c :: cs, h => by
    obtain ⟨x, rfl⟩ := isArr_aD (h c List.mem_cons_self)
    obtain ⟨xs, rfl⟩ := all_arrs fun d hd => h d (List.mem_cons_of_mem _ hd)
    exact ⟨x :: xs, rfl⟩
/-! ### the table of what leads out -/
def keyA (a : Arrow) : List Key := [.inl a.1, .inr a.2.1, .inl a.2.2]
theorem kT_keyA (a : Arrow) : kT (keyA a) = aD a := rfl
theorem keyA_inj {a b : Arrow} (h : keyA a = keyA b) : a = b := by
  unfold keyA at h
  injection h with h1 h2
  injection h2 with h2 h3
  injection h3 with h3 _
  injection h1 with h1
  injection h2 with h2
  injection h3 with h3
  exact Prod.ext h1 (Prod.ext h2 h3)
theorem aD_inj {a b : Arrow} (h : aD a = aD b) : a = b := by
  obtain ⟨a1, a2, a3⟩ := a
  obtain ⟨b1, b2, b3⟩ := b
  unfold aD at h
  injection h with h
  injection h with h1 h
  injection h with h2 h
  injection h with h3 _
  injection h1 with h1
  injection h2 with h2
  injection h3 with h3
  exact Prod.ext h1 (Prod.ext h2 h3)
theorem keys_pD {κ : Type} [DecidableEq κ] (kvs : List (κ × D)) (k : κ) (d : D) : (pD kvs k d).map (·.1) = if k ∈ kvs.map (·.1) then kvs.map (·.1) else kvs.map (·.1) ++ [k] := by
  have hany : (kvs.any fun kv => decide (kv.1 = k)) = true <-> k ∈ kvs.map (·.1) := by
    rw [List.any_eq_true]
    constructor
    · rintro ⟨p, hp, e⟩
      exact List.mem_map.mpr ⟨p, hp, of_decide_eq_true e⟩
    · intro h
      obtain ⟨p, hp, e⟩ := List.mem_map.mp h
      exact ⟨p, hp, decide_eq_true e⟩
  unfold pD
  by_cases h : k ∈ kvs.map (·.1)
  · rw [if_pos (hany.mpr h), if_pos h, List.map_map]
    refine List.map_congr_left fun p _ => ?_
    show (if p.1 = k then (p.1, d) else p).1 = p.1
    split <;> rfl
  · rw [if_neg fun z => h (hany.mp z), if_neg h, List.map_append] <;> rfl
theorem keys_foldP {κ : Type} [DecidableEq κ] (l : List (κ × D)) : (foldP l).map (·.1) = uniq (l.map (·.1)) := by
  have go : forall (l : List (κ × D)) (acc : List (κ × D)), (l.foldl (fun kvs p => pD kvs p.1 p.2) acc).map (·.1) = (l.map (·.1)).foldl (fun acc x => if x ∈ acc then acc else acc ++ [x]) (acc.map (·.1)) := by
    intro l
    induction l with
    | nil => intro acc; rfl
    | cons p l ih =>
      intro acc
      rw [List.foldl_cons, ih, List.map_cons, List.foldl_cons, keys_pD]
  exact go l []
theorem uniq_map {α β : Type} [DecidableEq α] [DecidableEq β] {f : α -> β} (hf : forall a b, f a = f b -> a = b) (l : List α) : uniq (l.map f) = (uniq l).map f := by
  have go : forall (l acc : List α), (l.map f).foldl (fun acc x => if x ∈ acc then acc else acc ++ [x]) (acc.map f) = (l.foldl (fun acc x => if x ∈ acc then acc else acc ++ [x]) acc).map f := by
    intro l
    induction l with
    | nil => intro acc; rfl
    | cons p l ih =>
      intro acc
      rw [List.map_cons, List.foldl_cons, List.foldl_cons, ← ih]
      congr 1
      by_cases h : p ∈ acc
      · rw [if_pos h, if_pos (List.mem_map.mpr ⟨p, h, rfl⟩)]
      · rw [if_neg h, if_neg, List.map_append] <;> try rfl
        intro z
        obtain ⟨q, hq, e⟩ := List.mem_map.mp z
        rw [hf _ _ e] at hq
        exact h hq
  exact go l []
/-- the dict comprehension's keys -/
theorem keys_arrows (as : List Arrow) : ((foldP (as.map fun a => (keyA a, D.bl true))).map fun p => kT p.1) = (uniq as).map aD := by
  have h1 := keys_foldP (as.map fun a => (keyA a, D.bl true))
  have h2 := congrArg (List.map kT) h1
  rw [List.map_map] at h2
  rw [show (fun p : List Key × D => kT p.1) = kT ∘ (·.1) from rfl, h2, List.map_map, show ((fun x : List Key × D => x.1) ∘ fun a => (keyA a, D.bl true)) = keyA from rfl, uniq_map (fun a b => keyA_inj), List.map_map] <;> rfl
theorem sortD_arrows (l : List Arrow) : sortD (l.map aD) = (l.mergeSort leA).map aD := (List.map_mergeSort (r := leA) (s := leD) (f := aD) fun _ _ _ _ => rfl).symm
/-- arrows can be sorted -/
theorem canSort_arrows {l : List Arrow} (hf : forall a, a ∈ l -> (aD a).ok = true) : CanSort (l.map aD) where
  alike := by
    rw [List.map_map]
    exact PySem.W.AllAlike.of (enc := fun a => (aD a).py) fun a b => rfl
  kind := by
    rw [List.map_map]
    exact PySem.W.Sortable.tuples (enc := fun a => (aD a).py) fun a => ⟨_, _, rfl⟩
  ok := fun d hd => by
    obtain ⟨a, ha, rfl⟩ := List.mem_map.mp hd
    exact hf a ha

end K01
namespace K01
open PySem PySem.Spec PyProof.Rows L2 Ak
/-! ### the dict of lists that is being made -/
def OutR (B H : Hp) (d : Addr) (p : (Int × Str) × List Int) (q : List Key × V) : Prop := q.1 = keyO p.1 ∧ exists l, q.2 = .ref l ∧ l ≠ d ∧ B l = none ∧ H l = some (.lst (p.2.map .int))
structure OutI (B H : Hp) (d : Addr) (kvs : OutL) (ws : List (List Key × V)) : Prop where
  at_ : H d = some (.dT ws)
  pr : Paired (OutR B H d) kvs ws
  nv : (ws.map (·.2)).Nodup
  nk : (kvs.map (·.1)).Nodup
theorem outR_mono {B H H' : Hp} {d : Addr} {kvs : OutL} {ws : List (List Key × V)} (r : Paired (OutR B H d) kvs ws) (h : forall l xs, B l = none -> l ≠ d -> (exists p, p ∈ ws ∧ p.2 = V.ref l) -> H l = some (.lst xs) -> H' l = some (.lst xs)) : Paired (OutR B H' d) kvs ws := by
  induction r with
  | nil => exact .nil
  | @cons p q ps qs hpq t ih =>
    obtain ⟨h1, l, h2, h3, h4, h5⟩ := hpq
    exact .cons ⟨h1, l, h2, h3, h4, h l _ h4 h3 ⟨q, List.mem_cons_self, h2⟩ h5⟩ (ih fun l xs b1 b2 ⟨p, hp, e⟩ b3 => h l xs b1 b2 ⟨p, List.mem_cons_of_mem _ hp, e⟩ b3)
theorem outR_val {B H : Hp} {d : Addr} {kvs : OutL} {ws : List (List Key × V)} (r : Paired (OutR B H d) kvs ws) (k : Int × Str) :
    ((kvs.any fun p => decide (p.1 = k)) = false ∧ valV ws (keyO k) = none) ∨ ((kvs.any fun p => decide (p.1 = k)) = true ∧ exists l xs, valV ws (keyO k) = some (.ref l) ∧ l ≠ d ∧ B l = none ∧ H l = some (.lst xs) ∧ (exists p, p ∈ ws ∧ p.2 = .ref l) ∧ exists p, p ∈ kvs ∧ xs = p.2.map V.int) := by
  induction r with
  | nil => exact .inl ⟨rfl, rfl⟩
  | @cons p q ps qs hpq t ih =>
    obtain ⟨h1, l, h2, h3, h4, h5⟩ := hpq
    by_cases e : p.1 = k
    · exact .inr ⟨by simp [e], l, _, by rw [valV_pos (by rw [h1, e]), h2], h3, h4, h5, ⟨q, List.mem_cons_self, h2⟩, p, List.mem_cons_self, rfl⟩
    · have ne : ¬ q.1 = keyO k := fun z => e (keyO_inj (h1.symm.trans z))
      rw [valV_neg ne, List.any_cons, decide_eq_false e, Bool.false_or]
      rcases ih with ih | ⟨i1, l', xs, i2, i3, i4, i5, ⟨p', hp', e'⟩, p0, hp0, e0⟩
      · exact .inl ih
      · exact .inr ⟨i1, l', xs, i2, i3, i4, i5, ⟨p', List.mem_cons_of_mem _ hp', e'⟩, p0, List.mem_cons_of_mem _ hp0, e0⟩
theorem outR_app {B H : Hp} {d l : Addr} {k : Int × Str} {e : Int} {xs : List V} {kvs : OutL} {ws : List (List Key × V)} (r : Paired (OutR B H d) kvs ws) (nv : (ws.map (·.2)).Nodup) (nk : (kvs.map (·.1)).Nodup)
    (hv : valV ws (keyO k) = some (.ref l)) (hl : H l = some (.lst xs)) : Paired (OutR B (upd H l (.lst (xs ++ [.int e]))) d) (kvs.map fun p => if p.1 = k then (p.1, p.2 ++ [e]) else p) ws := by
  induction r with
  | nil => cases hv
  | @cons p q ps qs hpq t ih =>
    obtain ⟨h1, l1, h2, h3, h4, h5⟩ := hpq
    rw [List.map_cons, List.nodup_cons] at nv nk
    by_cases ek : p.1 = k
    · rw [valV_pos (by rw [h1, ek]), h2] at hv
      injection hv with hv
      injection hv with hv
      subst hv
      rw [h5] at hl
      injection hl with hl
      injection hl with hl
      rw [List.map_cons, if_pos ek]
      refine .cons ⟨h1, l1, h2, h3, h4, ?_⟩ ?_
      · rw [upd_same, ← hl, List.map_append] <;> rfl
      · have hno : ps.map (fun p => if p.1 = k then (p.1, p.2 ++ [e]) else p) = ps := by
          refine (List.map_congr_left fun p' hp' => ?_).trans (List.map_id ps)
          rw [if_neg] <;> try rfl
          intro z
          exact nk.1 (List.mem_map.mpr ⟨p', hp', z.trans ek.symm⟩)
        rw [hno]
        refine outR_mono t fun l' xs' b1 b2 ⟨p', hp', e'⟩ b3 => ?_
        rw [upd_ne]
        · exact b3
        · rintro rfl
          exact nv.1 (List.mem_map.mpr ⟨p', hp', e'.trans h2.symm⟩)
    · have ne : ¬ q.1 = keyO k := fun z => ek (keyO_inj (h1.symm.trans z))
      rw [valV_neg ne] at hv
      rw [List.map_cons, if_neg ek]
      refine .cons ⟨h1, l1, h2, h3, h4, ?_⟩ (ih nv.2 nk.2 hv)
      rw [upd_ne]
      · exact h5
      · rintro rfl
        have hm : V.ref l1 ∈ qs.map (·.2) := by
          unfold valV at hv
          obtain ⟨y, hy, ey⟩ := Option.map_eq_some_iff.mp hv
          exact List.mem_map.mpr ⟨y, List.mem_of_find?_eq_some hy, ey⟩
        exact nv.1 (by rw [h2]; exact hm)
theorem outR_keys {B H : Hp} {d : Addr} {kvs : OutL} {ws : List (List Key × V)} (r : Paired (OutR B H d) kvs ws) : ws.length = kvs.length := (Paired.length r).symm
theorem stepO_keys {kvs : OutL} {a : Arrow} (nk : (kvs.map (·.1)).Nodup) : ((stepO kvs a).map (·.1)).Nodup := by
  unfold stepO
  by_cases h : (kvs.any fun p => decide (p.1 = (a.1, a.2.1))) = true
  · rw [if_pos h, List.map_map]
    have e : kvs.map ((fun p : (Int × Str) × List Int => p.1) ∘ fun p => if p.1 = (a.1, a.2.1) then (p.1, p.2 ++ [a.2.2]) else p) = kvs.map (·.1) := by
      refine List.map_congr_left fun p _ => ?_
      show (if p.1 = (a.1, a.2.1) then (p.1, p.2 ++ [a.2.2]) else p).1 = p.1
      split <;> rfl
    rw [e]
    exact nk
  · rw [if_neg h, List.map_append]
    refine nd_snoc nk fun z => h ?_
    obtain ⟨p, hp, e⟩ := List.mem_map.mp z
    exact List.any_eq_true.mpr ⟨p, hp, decide_eq_true e⟩
theorem stepO_len (kvs : OutL) (a : Arrow) : (stepO kvs a).length ≤ kvs.length + 1 := by
  unfold stepO
  split
  · rw [List.length_map]
    omega
  · rw [List.length_append, List.length_singleton]
    omega
theorem outF_len (as : List Arrow) : (outF as).length ≤ as.length := by
  have go : forall (l : List Arrow) (acc : OutL), (l.foldl stepO acc).length ≤ acc.length + l.length := by
    intro l
    induction l with
    | nil => intro acc; exact Nat.le_refl _
    | cons a l ih =>
      intro acc
      have h1 := ih (stepO acc a)
      have h2 := stepO_len acc a
      rw [List.foldl_cons, List.length_cons]
      omega
  have h := go as []
  rw [List.length_nil, Nat.zero_add] at h
  exact h
theorem outF_ends (as : List Arrow) : forall p, p ∈ outF as -> p.2.length ≤ as.length := by
  have go : forall (l : List Arrow) (acc : OutL) (n : Nat), (forall p, p ∈ acc -> p.2.length ≤ n) -> forall p, p ∈ l.foldl stepO acc -> p.2.length ≤ n + l.length := by
    intro l
    induction l with
    | nil => intro acc n h p hp; exact h p hp
    | cons a l ih =>
      intro acc n h p hp
      rw [List.foldl_cons] at hp
      have h2 := ih (stepO acc a) (n + 1) (fun q hq => ?_) p hp
      · rw [List.length_cons]
        omega
      · unfold stepO at hq
        split at hq
        · obtain ⟨r, hr, rfl⟩ := List.mem_map.mp hq
          have := h r hr
          split
          · rw [List.length_append, List.length_singleton]
            omega
          · omega
        · rcases List.mem_append.mp hq with z | z
          · have := h q z
            omega
          · rw [List.mem_singleton.mp z]
            simp
  intro p hp
  have h := go as [] 0 (fun q hq => by cases hq) p hp
  omega
theorem uniq_len {α : Type} [DecidableEq α] (l : List α) : (uniq l).length ≤ l.length := by
  have go : forall (l acc : List α), (l.foldl (fun acc x => if x ∈ acc then acc else acc ++ [x]) acc).length ≤ acc.length + l.length := by
    intro l
    induction l with
    | nil => intro acc; exact Nat.le_refl _
    | cons a l ih =>
      intro acc
      rw [List.foldl_cons, List.length_cons]
      have h := ih (if a ∈ acc then acc else acc ++ [a])
      split at h
      · rename_i h0
        rw [if_pos h0]
        omega
      · rename_i h0
        rw [if_neg h0]
        rw [List.length_append, List.length_singleton] at h
        omega
  have h := go l []
  rw [List.length_nil, Nat.zero_add] at h
  exact h
theorem sortA_len (as : List Arrow) : (sortA as).length ≤ as.length := by
  unfold sortA
  rw [(List.mergeSort_perm _ _).length_eq]
  exact uniq_len as
/-- what the dict is, once made -/
theorem outI_rep {M : MK} {B H : Hp} {d : Addr} {kvs : OutL} {ws : List (List Key × V)} (o : OutI B H d kvs ws) (hd : ¬ M d) (hM : forall l, B l = none -> ¬ M l) : Rep (msk M H) (.dT (outD kvs)) (.ref d) := by
  refine ⟨d, ws, rfl, .inl ?_, repT_iff.mpr ?_⟩
  · rw [msk_at hd]
    exact o.at_
  · have r := o.pr
    clear o
    induction r with
    | nil => exact .nil
    | @cons p q ps qs hpq t ih =>
      obtain ⟨h1, l, h2, h3, h4, h5⟩ := hpq
      refine .cons ⟨h1.symm, l, _, h2, ?_, Reps.ints p.2⟩ ih
      rw [msk_at (hM l h4)]
      exact h5

end K01
namespace K01
open PySem PySem.Spec PyProof.Rows L2 Ak
section
variable {P : Program} {w : World} {K : PySem.W.Frag} {mg : Str -> Option Value} {base : Heap}
def faultIs (T : Tx K mg) (f : GFault) (C : Addr) (fs : List (Str × D)) : Prop := match f with
  | .bad p n => C = T.C_BadGraph ∧ fs = ([("number", n), ("part", .str p)] : List (Str × D))
  | .large n => C = T.C_TooLarge ∧ fs = ([("number", .int n)] : List (Str × D))
def R_init : List D -> List (Str × D) -> Prop := fun ds fs => exists c a cs as, ds = [c, a] ∧ c.fi = true ∧ a.fi = true ∧ gFault c a = none ∧ c.its = some (cs.map .str) ∧ a.its = some (as.map aD) ∧ fs = fieldsD cs (sortA as)
def X_init (T : Tx K mg) : List D -> Addr -> List (Str × D) -> Prop := fun ds C fs => exists c a f, ds = [c, a] ∧ c.fi = true ∧ a.fi = true ∧ gFault c a = some f ∧ faultIs T f C fs
theorem its_row {d : D} (hf : d.fi = true) : (isB d "list" || isB d "tuple") = d.its.isSome := by
  cases d with
  | oth v => cases (show false = true from hf)
  | ins C fs => cases (show false = true from hf)
  | dK k => cases (show false = true from hf)
  | dT k => cases (show false = true from hf)
  | _ => simp [isB, D.tn, D.its]
theorem its_cases {d : D} {ds : List D} (hf : d.fi = true) (h : d.its = some ds) : (d = .lst ds ∨ d = .tup ds) ∧ ds.length ≤ 100000 ∧ forall e, e ∈ ds -> e.fi = true := by
  cases d with
  | lst es => cases h; exact ⟨.inl rfl, (fi_lst hf).1, fis_all.mp (fi_lst hf).2⟩
  | tup es => cases h; exact ⟨.inr rfl, (fi_tup hf).1, fis_all.mp (fi_tup hf).2⟩
  | oth v => cases (show false = true from hf)
  | ins C fs => cases (show false = true from hf)
  | dK k => cases (show false = true from hf)
  | dT k => cases (show false = true from hf)
  | _ => cases h
theorem its_len {d : D} {ds : List D} (h : d = .lst ds ∨ d = .tup ds) : d.len = some ds.length := by
  rcases h with rfl | rfl <;> rfl
theorem its_str {d : D} {ds : List D} (h : d = .lst ds ∨ d = .tup ds) : forall x, d = .str x -> x.length ≤ sizeLine := by
  rintro x rfl
  rcases h with h | h <;> cases h
def keyOfA : D -> Option (List Key × D)
  | .tup [.int i, .str l, .int j] => some ([.inl i, .inr l, .inl j], .bl true)
  | _ => none
theorem keyOfA_all (as : List Arrow) : (as.map aD).filterMap keyOfA = as.map fun a => (keyA a, D.bl true) := by
  induction as with
  | nil => rfl
  | cons a as ih =>
    rw [List.map_cons, List.filterMap_cons_some (f := keyOfA) (a := aD a) (b := (keyA a, D.bl true)) rfl, ih] <;> rfl
theorem outF_take {l : List Arrow} {i : Nat} {a : Arrow} (h : l[i]? = some a) : outF (l.take (i + 1)) = stepO (outF (l.take i)) a := by
  have e : l.take (i + 1) = l.take i ++ [a] := by rw [List.take_succ, h] <;> rfl
  unfold outF
  rw [e, List.foldl_append] <;> rfl
abbrev S11 (a b c : V) (o3 o4 o5 o6 o7 o8 o9 o10 : Option V) : L2.St := [some a, some b, some c, o3, o4, o5, o6, o7, o8, o9, o10]
theorem arrow_ok (a : Arrow) : (aD a).ok = true := by
  unfold D.ok
  rw [Bool.and_eq_true, decide_eq_true_eq]
  exact ⟨rfl, by simp [aD, D.py, D.pys, PyData.depth, PyData.depthAll]⟩
theorem ok_Graph_init (T : Tx K mg) : FnOk P w K mg base (L2.CX P w) 3 T.f_Graph_init T.d_Graph_init ["self", "colours", "arrows"] (SpI T.C_Graph R_init (X_init T)) := by
  refine T.F_Graph_init.ok sc_Graph_init (fun _ _ _ _ h => SpI.len (n := 2) (fun ds z ⟨c, a, _, _, e, _⟩ => by rw [e] <;> rfl) (fun ds C z ⟨c, a, _, e, _⟩ => by rw [e] <;> rfl) h) (fun cdv A outer s H vs Q E hr h => ⟨_, (pss_cons (ps_if (pt_not (pt_val (pe_call (ok_is_row T) (hr.mono (by decide)) rfl T.g_is_row T.F_is_row.kp (T.B_is_row) .nil passL (pa_cons (pv 1) pa_nil)))) (pss_one (ps_raise rfl (takes_of rfl rfl rfl rfl) (pmk_oex T.ox_BadGraph T.i_BadGraph T.t_BadGraph (ok_BadGraph_init T) (hr.mono (by decide)) T.B_BadGraph_init .nil (by exact passL) rfl T.g_BadGraph (pa_cons pe_str (pa_cons pe_non pa_nil))))) pss_nil)
      (pss_cons (ps_for PassesOwn.leaving rfl (pi_enumU rfl T.n_enumerate (pa_cons (pv 1) pa_nil)) (pg_tup rfl (pgs_cons (pg_name (i := 3) sc_Graph_init.nd rfl (.inl rfl)) (pgs_cons (pg_name (i := 4) sc_Graph_init.nd rfl (.inl rfl)) pgs_nil)))
      (pss_one (ps_if (pt_not (pt_val (pe_call (ok_is_name T) (hr.mono (by decide)) rfl T.g_is_name T.F_is_name.kp (T.B_is_name) .nil passL (pa_cons (pv 4) pa_nil)))) (pss_one (ps_raise rfl (takes_of rfl rfl rfl rfl) (pmk_oex T.ox_BadGraph T.i_BadGraph T.t_BadGraph (ok_BadGraph_init T) (hr.mono (by decide)) T.B_BadGraph_init .nil (by exact passL) rfl T.g_BadGraph (pa_cons pe_str (pa_cons (pv 3) pa_nil))))) pss_nil)))
      (pss_cons (ps_if (pt_not (pt_val (pe_call (ok_is_row T) (hr.mono (by decide)) rfl T.g_is_row T.F_is_row.kp (T.B_is_row) .nil passL (pa_cons (pv 2) pa_nil)))) (pss_one (ps_raise rfl (takes_of rfl rfl rfl rfl) (pmk_oex T.ox_BadGraph T.i_BadGraph T.t_BadGraph (ok_BadGraph_init T) (hr.mono (by decide)) T.B_BadGraph_init .nil (by exact passL) rfl T.g_BadGraph (pa_cons pe_str (pa_cons pe_non pa_nil))))) pss_nil)
      (pss_cons (ps_for PassesOwn.leaving rfl (pi_enumU rfl T.n_enumerate (pa_cons (pv 2) pa_nil)) (pg_tup rfl (pgs_cons (pg_name (i := 3) sc_Graph_init.nd rfl (.inl rfl)) (pgs_cons (pg_name (i := 5) sc_Graph_init.nd rfl (.inl rfl)) pgs_nil)))
      (pss_one (ps_if (pt_not (pt_val (pe_call (ok_is_arrow T) (hr.mono (by decide)) rfl T.g_is_arrow T.F_is_arrow.kp (T.B_is_arrow) .nil passL (pa_cons (pv 5) (pa_cons (pe_callB call_lenU rfl T.n_len PySem.boot_len (by exact (pa_cons (pv 1) pa_nil))) pa_nil))))) (pss_one (ps_raise rfl (takes_of rfl rfl rfl rfl) (pmk_oex T.ox_BadGraph T.i_BadGraph T.t_BadGraph (ok_BadGraph_init T) (hr.mono (by decide)) T.B_BadGraph_init .nil (by exact passL) rfl T.g_BadGraph (pa_cons pe_str (pa_cons (pv 3) pa_nil))))) pss_nil)))
      (pss_cons (ps_for PassesOwn.leaving rfl (RZ.pi_zipA rfl T.n_zip (pa_cons (pe_tup (pa_cons (pe_callB call_lenU rfl T.n_len PySem.boot_len (by exact (pa_cons (pv 1) pa_nil))) (pa_cons (pe_callB call_lenU rfl T.n_len PySem.boot_len (by exact (pa_cons (pv 2) pa_nil))) pa_nil))) (pa_cons (pe_con (pv 0) rfl) pa_nil))) (pg_tup rfl (pgs_cons (pg_name (i := 6) sc_Graph_init.nd rfl (.inl rfl)) (pgs_cons (pg_name (i := 7) sc_Graph_init.nd rfl (.inl rfl)) pgs_nil)))
      (pss_one (ps_if (pt_cmpR op_gt (pv 6) (pv 7) (nomark _)) (pss_one (ps_raise rfl (takes_of rfl rfl rfl rfl) (pmk_oex T.ox_TooLarge T.i_TooLarge T.t_TooLarge (ok_TooLarge_init T) (hr.mono (by decide)) T.B_TooLarge_init .nil (by exact passL) rfl T.g_TooLarge (pa_cons (pv 6) pa_nil)))) pss_nil)))
      (pss_cons (ps_fld (pv 0) (pe_callTy call_tuple_of rfl T.n_tuple (by decide +kernel) (by exact (pa_cons (pv 1) pa_nil))) rfl)
      (pss_cons (ps_fld (pv 0) (pe_callTy call_tuple_of rfl T.n_tuple (by decide +kernel) (by exact (pa_cons (pe_callB (call_sortU rfl hr.units) rfl T.n_sorted PyProof.Rows.boot_sorted (by exact (pa_cons (pe_dcU (.dT []) (.inr rfl) (hu_of hr) (own := [("arrow", 5)]) (g := (gName 5)) (tt := tYes) (tk := (tVar 5)) (tv := (tC (.bl true))) rfl sc_Graph_init.nd (pi_any (pv 2)) (blkOk_by (own := [("arrow", 5)]) (N := ["self", "colours", "arrows", "number", "colour", "arrow", "many", "most", "node", "label", "end"]) (sc := (defScope s_Graph_init)) (by decide +kernel)) (fun _ _ _ _ _ => by exact (pg_name (i := 5) sc_Graph_init.nd rfl (.inl rfl))) (fun _ _ _ _ _ => by exact pts_nil) (fun _ _ _ _ _ => by exact (pv 5)) (fun _ _ _ _ _ => by exact pe_bl)) pa_nil))) pa_nil))) rfl)
      (pss_cons (ps_fld (pv 0) pe_dnewT rfl)
      (pss_one (ps_for PassesOwn.leaving rfl (pi_any (pe_fld (pv 0) rfl)) (pg_tup rfl (pgs_cons (pg_name (i := 8) sc_Graph_init.nd rfl (.inl rfl)) (pgs_cons (pg_name (i := 9) sc_Graph_init.nd rfl (.inl rfl)) (pgs_cons (pg_name (i := 10) sc_Graph_init.nd rfl (.inl rfl)) pgs_nil))))
      (pss_one (ps_expr (pe_bm PySem.F.plainAttrs_list PySem.F.slot_list_append PySem.F.type_list_append mt_append (pe_dsetU (hu_of hr) (pe_fld (pv 0) rfl) (pe_tup (pa_cons (pv 8) (pa_cons (pv 9) pa_nil))) (pe_lst pa_nil) ⟨rfl, rfl, rfl, rfl⟩) (pa_cons (pv 10) pa_nil)))))))))))))), ?_⟩)
  obtain ⟨M, ds, x, dx, ws, m, mx, rfl, rs, hx, h⟩ := h
  have key : exists c a, ds = [c, a] ∧ c.fi = true ∧ a.fi = true ∧
      (gFault c a = none -> forall cs as, c.its = some (cs.map .str) -> a.its = some (as.map aD) -> forall vs' H', SameX x H H' -> H' x = some (.ins T.C_Graph dx vs') -> RepF (msk M H') (fieldsD cs (sortA as)) vs' -> Q .non H') ∧
      (forall f C fs, gFault c a = some f -> faultIs T f C fs -> forall dy ys H', SameX x H H' -> H dy = none -> H' dy = some (.xd ys) -> RepF (msk M H') fs ys -> E (.ref C) (some dy) H') := by
    rcases h with ⟨fs, ⟨c, a, cs, as, e, f1, f2, g, h1, h2, rfl⟩, q⟩ | ⟨C, fs, ⟨c, a, f, e, f1, f2, g, h1⟩, q⟩
    · refine ⟨c, a, e, f1, f2, fun _ cs' as' k1 k2 => ?_, fun f C fs z => by rw [g] at z; cases z⟩
      rw [h1] at k1
      rw [h2] at k2
      have e1 : cs = cs' := by
        have inj : forall {l l' : List Str}, l.map D.str = l'.map D.str -> l = l' := fun {l l'} => (List.map_inj_right fun a b h => by injection h).mp
        exact inj (Option.some.inj k1)
      have e2 : as = as' := by
        have inj : forall {l l' : List Arrow}, l.map aD = l'.map aD -> l = l' := fun {l l'} => (List.map_inj_right fun a b h => aD_inj h).mp
        exact inj (Option.some.inj k2)
      subst e1 e2
      exact q
    · exact ⟨c, a, e, f1, f2, fun z => (by rw [g] at z; cases z), fun f' C' fs' z k => (by
        rw [g] at z
        cases z
        have e2 : C' = C ∧ fs' = fs := by
          cases f with
          | bad p n => exact ⟨k.1.trans h1.1.symm, k.2.trans h1.2.symm⟩
          | large n => exact ⟨k.1.trans h1.1.symm, k.2.trans h1.2.symm⟩
        obtain ⟨rfl, rfl⟩ := e2
        exact q)⟩
  clear h
  obtain ⟨c, a, rfl, fc, fa, hOK, hX⟩ := key
  obtain ⟨vc, va, rfl, rc, ra⟩ := rs.two_of
  have bad : forall (s' : L2.St) (H' : Hp) (p : Str) (n : D) (tn : TE), Same H H' -> EvD M tn s' H' n -> gFault c a = some (.bad p n) -> tMkO T.C_BadGraph (SpX T.C_BadGraph ["part", "number"]) [] (tCons (tC (.str p)) (tCons tn tNil)) s' H' fun cls dd H2 => E cls dd H2 :=
    fun s' H' p n tn e1 ev g => tmk_ok (M := M) (ds := [.str p, n]) (ea_cons ev_str (ea_one ev)) rfl (by simp) (m.up e1) fun dy ys H2 e2 hn hy rf => hX _ _ _ g ⟨rfl, rfl⟩ dy ys H2 (SameX.of (e1.trans e2)) (e1.free hn) hy rf
  have big : forall (s' : L2.St) (H' : Hp) (n : Int) (tn : TE), Same H H' -> EvD M tn s' H' (.int n) -> gFault c a = some (.large n) -> tMkO T.C_TooLarge (SpX T.C_TooLarge ["number"]) [] (tCons tn tNil) s' H' fun cls dd H2 => E cls dd H2 :=
    fun s' H' n tn e1 ev g => tmk_ok (M := M) (ds := [.int n]) (ea_one ev) rfl (by simp) (m.up e1) fun dy ys H2 e2 hn hy rf => hX _ _ _ g ⟨rfl, rfl⟩ dy ys H2 (SameX.of (e1.trans e2)) (e1.free hn) hy rf
  -- the nodes are a row
  cases hci : c.its with
  | none =>
    refine st_seq (st_ifT (et_not (b := false) (et_B (M := M) (Ev.to (ev_call m (ea_one (ev_var rfl rc)) ⟨c, rfl, fc, rfl⟩) (by rw [its_row fc, hci] <;> rfl)))) fun H2 e2 => bad _ H2 "nodes" .non _ e2 ev_non ?_)
    unfold gFault
    rw [hci]
  | some cs0 =>
  obtain ⟨kc, lc, fcs⟩ := its_cases fc hci
  refine st_seq (st_ifF (et_not (b := true) (et_B (M := M) (Ev.to (ev_call m (ea_one (ev_var rfl rc)) ⟨c, rfl, fc, rfl⟩) (by rw [its_row fc, hci] <;> rfl)))) fun H2 e2 => ?_)
  refine st_seq (st_for (M := M) (m.up e2) (ei_enumU (ea_one (ev_var rfl (rc.up (msk_mono e2)))) kc) (fun H3 i s' H' => Same H3 H' ∧ (forall j d, j < i -> cs0[j]? = some d -> isNm d = true) ∧ exists o3 o4, s' = S11 (.ref x) vc va o3 o4 none none none none none none)
    (fun H3 e3 => ⟨Same.refl _, fun j d hj => absurd hj (Nat.not_lt_zero _), none, none, rfl⟩) (fun H3 i s' H' h => Kp.of h.1) ?_ ?_)
  · rintro H3 i d y s' H' H'' e3 hi hd ⟨e4, hall, o3, o4, rfl⟩ e5 ry
    have ryM := ry M ((m.up e2).up (e3.trans e4)) fun b z => .inl z
    rw [enumD_len] at hi
    obtain ⟨ci, hci2⟩ : exists ci, cs0[i]? = some ci := ⟨_, List.getElem?_eq_getElem hi⟩
    rw [enumD_at hci2] at hd
    cases hd
    have eA := ((e2.trans e3).trans e4).trans e5
    obtain ⟨t, xs, et, ht, rxs⟩ := ryM
    obtain ⟨y1, y2, exs, ry1, ry2⟩ := rxs.two_of
    subst exs et
    refine ⟨t, [y1, y2], rfl, SqT.of (msk_same _ _ ht), rfl, y1, [y2], rfl, y2, [], rfl, rfl, ?_⟩
    refine st_if (b := !isNm ci) (et_not (et_B (M := M) (ev_call (m.up eA) (ea_one (ev_var rfl ry2)) ⟨ci, rfl, fcs ci (List.mem_of_getElem? hci2), rfl⟩))) (fun hb H4 e6 => bad _ H4 "nodes" (.int (i : Nat)) _ (eA.trans e6) (ev_var rfl (ry1.up (msk_mono e6))) ?_) fun hb H4 e6 => ?_
    · unfold gFault
      rw [hci]
      have h1 : cs0.findIdx? (fun d => !isNm d) = some i := findIdx_first hci2 hb fun j z hj hz => by rw [hall j z hj hz] <;> rfl
      simp only [h1]
    · refine ⟨(e4.trans e5).trans e6, fun j d hj hd => ?_, some y1, some y2, rfl⟩
      rcases Nat.lt_succ_iff_lt_or_eq.mp hj with z | z
      · exact hall j d z hd
      · subst z
        rw [hci2] at hd
        cases hd
        simpa using hb
  rintro H3 s' H4 e3 ⟨e4, hall, o3, o4, rfl⟩
  rw [enumD_len] at hall
  dsimp only
  have eB := (e2.trans e3).trans e4
  clear e2 e3 e4
  have names : forall d, d ∈ cs0 -> isNm d = true := fun d hd => by
    obtain ⟨j, hj, e⟩ := List.mem_iff_getElem.mp hd
    exact hall j d hj (by rw [List.getElem?_eq_getElem hj, e])
  obtain ⟨cs, rfl⟩ := all_strs names
  have noBad : (cs.map D.str).findIdx? (fun d => !isNm d) = none := List.findIdx?_eq_none_iff.mpr fun d hd => by rw [names d hd] <;> rfl
  have mB := m.up eB
  have rcB := rc.up (msk_mono (M := M) eB)
  have raB := ra.up (msk_mono (M := M) eB)
  have lenC : forall (s2 : L2.St) (H' : Hp), Same H H' -> s2[1]? = some (some vc) -> EvD M (tCB (rLenU K) (tCons (tVar 1) tNil)) s2 H' (.int cs.length) := fun s2 H' e hs => Ev.to (ev_len (ea_one (ev_var hs (rc.up (msk_mono e)))) (its_len kc) (fi_dT fc) (its_str kc)) (by rw [List.length_map])
  -- the arrows are a row
  cases hai : a.its with
  | none =>
    refine st_seq (st_ifT (et_not (b := false) (et_B (M := M) (Ev.to (ev_call mB (ea_one (ev_var rfl raB)) ⟨a, rfl, fa, rfl⟩) (by rw [its_row fa, hai] <;> rfl)))) fun H2 e2 => bad _ H2 "arrows" .non _ (eB.trans e2) ev_non ?_)
    unfold gFault
    rw [hci]
    simp only [noBad, hai]
  | some as0 =>
  obtain ⟨ka, la, fas⟩ := its_cases fa hai
  refine st_seq (st_ifF (et_not (b := true) (et_B (M := M) (Ev.to (ev_call mB (ea_one (ev_var rfl raB)) ⟨a, rfl, fa, rfl⟩) (by rw [its_row fa, hai] <;> rfl)))) fun H2 e2 => ?_)
  refine st_seq (st_for (M := M) (mB.up e2) (ei_enumU (ea_one (ev_var rfl (raB.up (msk_mono e2)))) ka) (fun H3 i s' H' => Same H3 H' ∧ (forall j d, j < i -> as0[j]? = some d -> isArr d cs.length = true) ∧ exists o3 o4 o5, s' = S11 (.ref x) vc va o3 o4 o5 none none none none none)
    (fun H3 e3 => ⟨Same.refl _, fun j d hj => absurd hj (Nat.not_lt_zero _), o3, o4, none, rfl⟩) (fun H3 i s' H' h => Kp.of h.1) ?_ ?_)
  · rintro H3 i d y s' H' H'' e3 hi hd ⟨e4, hall2, p3, p4, p5, rfl⟩ e5 ry
    have ryM := ry M ((mB.up e2).up (e3.trans e4)) fun b z => .inl z
    rw [enumD_len] at hi
    obtain ⟨ai, hai2⟩ : exists ai, as0[i]? = some ai := ⟨_, List.getElem?_eq_getElem hi⟩
    rw [enumD_at hai2] at hd
    cases hd
    have eA := (eB.trans ((e2.trans e3).trans e4)).trans e5
    obtain ⟨t, xs, et, ht, rxs⟩ := ryM
    obtain ⟨y1, y2, exs, ry1, ry2⟩ := rxs.two_of
    subst exs et
    refine ⟨t, [y1, y2], rfl, SqT.of (msk_same _ _ ht), rfl, y1, [y2], rfl, y2, [], rfl, rfl, ?_⟩
    refine st_if (b := !isArr ai cs.length) (et_not (et_B (M := M) (ev_call (m.up eA) (ea_cons (ev_var rfl ry2) (ea_one (lenC _ _ eA rfl))) ⟨ai, _, rfl, fas ai (List.mem_of_getElem? hai2), rfl⟩))) (fun hb H4 e6 => bad _ H4 "arrows" (.int (i : Nat)) _ (eA.trans e6) (ev_var rfl (ry1.up (msk_mono e6))) ?_) fun hb H4 e6 => ?_
    · unfold gFault
      rw [hci]
      have h1 : as0.findIdx? (fun d => !isArr d (cs.map D.str).length) = some i := findIdx_first hai2 (by rw [List.length_map]; exact hb) fun j z hj hz => by rw [List.length_map, hall2 j z hj hz] <;> rfl
      simp only [noBad, hai, h1]
    · refine ⟨(e4.trans e5).trans e6, fun j d hj hd => ?_, some y1, p4, some y2, rfl⟩
      rcases Nat.lt_succ_iff_lt_or_eq.mp hj with z | z
      · exact hall2 j d z hd
      · subst z
        rw [hai2] at hd
        cases hd
        simpa using hb
  rintro H3 s' H5 e3 ⟨e4, hall2, p3, p4, p5, rfl⟩
  rw [enumD_len] at hall2
  dsimp only
  have eC := eB.trans ((e2.trans e3).trans e4)
  clear e2 e3 e4
  have arrs : forall d, d ∈ as0 -> isArr d cs.length = true := fun d hd => by
    obtain ⟨j, hj, e⟩ := List.mem_iff_getElem.mp hd
    exact hall2 j d hj (by rw [List.getElem?_eq_getElem hj, e])
  obtain ⟨as, rfl⟩ := all_arrs arrs
  have noBadA : (as.map aD).findIdx? (fun d => !isArr d cs.length) = none := List.findIdx?_eq_none_iff.mpr fun d hd => by rw [arrs d hd] <;> rfl
  have mC := m.up eC
  have hg : gFault c a = if 1000 < cs.length then some (.large cs.length) else if 10000 < as.length then some (.large as.length) else none := by
    unfold gFault
    rw [hci]
    simp only [noBad, hai, noBadA, List.length_map]
  rw [List.length_map] at lc la
  have rcC := rc.up (msk_mono (M := M) eC)
  have raC := ra.up (msk_mono (M := M) eC)
  have hxC : H5 x = some (.ins T.C_Graph dx []) := eC _ _ hx
  -- how many
  refine st_seq (st_for (M := M) (ds := zipD [.int cs.length, .int as.length] [.int 1000, .int 10000]) mC (ei_zipK (b := T.a_Graph_most) (ea_cons (ev_tup mC (ea_cons (lenC _ _ eC rfl) (ea_one (Ev.to (ev_len (ea_one (ev_var rfl raC)) (its_len ka) (fi_dT fa) (its_str ka)) (by rw [List.length_map]))))) (ea_one (ev_conR rfl hxC T.cls_Graph T.con_Graph_most rfl))) T.tup_Graph_most (fun G => ⟨_, _, rfl, rfl, _, _, rfl, rfl, rfl⟩) rfl)
    (fun H3 i s' H' => Same H3 H' ∧ (0 < i -> cs.length ≤ 1000) ∧ (1 < i -> as.length ≤ 10000) ∧ exists q3 q4 q5 q6 q7, s' = S11 (.ref x) vc va q3 q4 q5 q6 q7 none none none)
    (fun H3 e3 => ⟨Same.refl _, fun z => absurd z (Nat.lt_irrefl _), fun z => absurd z (by omega), p3, p4, p5, none, none, rfl⟩) (fun H3 i s' H' h => Kp.of h.1) ?_ ?_)
  · rintro H3 i d y s' H' H'' e3 hi hd ⟨e4, b1, b2, q3, q4, q5, q6, q7, rfl⟩ e5 ry
    have ryM := ry M (mC.up (e3.trans e4)) fun b z => .inl z
    have eA := (eC.trans (e3.trans e4)).trans e5
    obtain ⟨n1, n2, en⟩ : exists n1 n2 : Int, d = .tup [.int n1, .int n2] ∧ ((i = 0 ∧ n1 = cs.length ∧ n2 = 1000) ∨ (i = 1 ∧ n1 = as.length ∧ n2 = 10000)) := by
      match i, hd with
      | 0, hd =>
        cases hd
        exact ⟨_, _, rfl, .inl ⟨rfl, rfl, rfl⟩⟩
      | 1, hd =>
        cases hd
        exact ⟨_, _, rfl, .inr ⟨rfl, rfl, rfl⟩⟩
      | i + 2, hd => cases hd
    obtain ⟨rfl, en⟩ := en
    obtain ⟨t, xs, et, ht, rxs⟩ := ryM
    obtain ⟨y1, y2, exs, ry1, ry2⟩ := rxs.two_of
    subst exs et
    refine ⟨t, [y1, y2], rfl, SqT.of (msk_same _ _ ht), rfl, y1, [y2], rfl, y2, [], rfl, rfl, ?_⟩
    refine st_if (b := decide (n2 < n1)) (et_test (M := M) (ev_op (ev_var rfl ry1) (ev_var rfl ry2) rd_gt)) (fun hb H4 e6 => big _ H4 n1 _ (eA.trans e6) (ev_var rfl (ry1.up (msk_mono e6))) ?_) fun hb H4 e6 => ?_
    · have hb' := of_decide_eq_true hb
      rw [hg]
      rcases en with ⟨rfl, rfl, rfl⟩ | ⟨rfl, rfl, rfl⟩
      · rw [if_pos (by omega)]
      · rw [if_neg (by have := b1 (by omega); omega), if_pos (by omega)]
    · have hb' := of_decide_eq_false hb
      refine ⟨(e4.trans e5).trans e6, fun _ => ?_, fun _ => ?_, q3, q4, q5, some y1, some y2, rfl⟩
      · rcases en with ⟨rfl, rfl, rfl⟩ | ⟨rfl, rfl, rfl⟩
        · omega
        · exact b1 (by omega)
      · rcases en with ⟨rfl, rfl, rfl⟩ | ⟨rfl, rfl, rfl⟩
        · omega
        · omega
  rintro H3 s' H6 e3 ⟨e4, b1, b2, q3, q4, q5, q6, q7, rfl⟩
  dsimp only
  have hc1 : cs.length ≤ 1000 := b1 (by simp [zipD])
  have ha1 : as.length ≤ 10000 := b2 (by simp [zipD])
  have g0 : gFault c a = none := by
    rw [hg, if_neg (by omega), if_neg (by omega)]
  have fin := hOK g0 cs as hci hai
  have eD := eC.trans (e3.trans e4)
  clear e3 e4 hOK hX bad big
  have mD := m.up eD
  have rcD := rc.up (msk_mono (M := M) eD)
  have hxD : H6 x = some (.ins T.C_Graph dx []) := eD _ _ hx
  refine st_seq (st_fldR rfl hxD T.cls_Graph T.na_Graph_colours (by simp) (ev_tof (ds := cs.map .str) mD (ea_one (ev_var rfl rcD)) kc) fun yc H7 e7 ry7 => ?_)
  have m7 : Mok M (upd H7 x (.ins T.C_Graph dx (putF "colours" yc []))) := (mD.up e7).upd
  have X7 : SameX x H (upd H7 x (.ins T.C_Graph dx (putF "colours" yc []))) := (SameX.of (eD.trans e7)).upd
  have ra7 : Rep (msk M (upd H7 x (.ins T.C_Graph dx (putF "colours" yc [])))) a va := by
    rw [msk_upd mx]
    exact ra.up (msk_mono (eD.trans e7))
  have rc7 : Rep (msk M (upd H7 x (.ins T.C_Graph dx (putF "colours" yc [])))) (.tup (cs.map .str)) yc := by
    rw [msk_upd mx]
    exact ry7
  clear ry7 e7 rcD rcC raC
  dsimp only
  have hx7 : (upd H7 x (.ins T.C_Graph dx (putF "colours" yc []))) x = some (.ins T.C_Graph dx [("colours", yc)]) := upd_same
  generalize upd H7 x (.ins T.C_Graph dx (putF "colours" yc [])) = G7 at m7 X7 ra7 rc7 hx7 ⊢
  have hcan : CanSort ((uniq as).map aD) := canSort_arrows fun a _ => arrow_ok a
  refine st_seq (st_fldR rfl hx7 T.cls_Graph T.na_Graph_arrows (by simp) (ev_tof m7 (ea_one (ev_sort (ds := (uniq as).map aD) m7 (ea_one (ev_dc (c := kcT) (ds := as.map aD) keyOfA m7 (ia_seq (ev_var rfl ra7) ka) (by rw [List.length_map]; omega) fun N H3 d y mN eN hd rd => ?_)) ?_ hcan)) (.inl rfl)) fun ya H8 e8 ry8 => ?_)
  · obtain ⟨a0, _, rfl⟩ := List.mem_map.mp hd
    exact eltp_of (c := kcT) (o := some (keyA a0, .bl true)) (s2 := (wipe (S11 (.ref x) vc va q3 q4 q5 q6 q7 none none none) [5]).set 5 (some y)) (fun Q q => q) rfl et_yes (fun _ => ⟨keyA a0, .bl true, rfl, ev_var rfl rd, ev_cbl⟩) fun z => nomatch z
  · show some _ = some _
    rw [keyOfA_all, keys_arrows]
  dsimp only
  have m8 : Mok M (upd H8 x (.ins T.C_Graph dx (putF "arrows" ya [("colours", yc)]))) := (m7.up e8).upd
  have X8 : SameX x H (upd H8 x (.ins T.C_Graph dx (putF "arrows" ya [("colours", yc)]))) := (X7.trans (SameX.of e8)).upd
  have rc8 : Rep (msk M (upd H8 x (.ins T.C_Graph dx (putF "arrows" ya [("colours", yc)])))) (.tup (cs.map .str)) yc := by
    rw [msk_upd mx]
    exact rc7.up (msk_mono e8)
  have ra8 : Rep (msk M (upd H8 x (.ins T.C_Graph dx (putF "arrows" ya [("colours", yc)])))) (.tup ((sortA as).map aD)) ya := by
    rw [msk_upd mx]
    exact Rep.to ry8 (by rw [sortD_arrows] <;> rfl)
  have hx8 : (upd H8 x (.ins T.C_Graph dx (putF "arrows" ya [("colours", yc)]))) x = some (.ins T.C_Graph dx [("colours", yc), ("arrows", ya)]) := upd_same
  generalize upd H8 x (.ins T.C_Graph dx (putF "arrows" ya [("colours", yc)])) = G8 at m8 X8 rc8 ra8 hx8 ⊢
  clear ry8 e8 ra7 rc7 X7 m7 hx7
  refine st_seq fun d hd => ⟨.ref x, rfl, x, T.C_Graph, dx, _, rfl, (upd_ne (ne_of_none hx8 hd)).trans hx8, T.cls_Graph, T.na_Graph_out, by simp, ?_⟩
  dsimp only
  have hdx : d ≠ x := (ne_of_none hx8 hd).symm
  have hMd : ¬ M d := m8.new hd
  let M' : MK := fun a => M a ∨ a = d
  have hx9 : (upd (upd G8 d (.dT [])) x (.ins T.C_Graph dx (putF "out" (.ref d) [("colours", yc), ("arrows", ya)]))) x = some (.ins T.C_Graph dx [("colours", yc), ("arrows", ya), ("out", .ref d)]) := upd_same
  have hd9 : (upd (upd G8 d (.dT [])) x (.ins T.C_Graph dx (putF "out" (.ref d) [("colours", yc), ("arrows", ya)]))) d = some (.dT []) := (upd_ne hdx).trans upd_same
  have kp9 : Kp M G8 (upd (upd G8 d (.dT [])) x (.ins T.C_Graph dx (putF "out" (.ref d) [("colours", yc), ("arrows", ya)]))) :=
    (kp_updN (Kp.refl M G8) hd).upd mx fun od u z => by
      rw [upd_ne hdx.symm, hx8] at z
      cases z
  have X9 : SameX x H (upd (upd G8 d (.dT [])) x (.ins T.C_Graph dx (putF "out" (.ref d) [("colours", yc), ("arrows", ya)]))) := (X8.trans (SameX.of (same_new hd))).upd
  have m9 : Mok M' (upd (upd G8 d (.dT [])) x (.ins T.C_Graph dx (putF "out" (.ref d) [("colours", yc), ("arrows", ya)]))) := by
    refine Mok.add ?_ hd9
    exact (m8.up (same_new hd)).upd
  have n9 : forall a, M' a -> M a ∨ G8 a = none := fun a z => z.imp id fun z => by rw [z]; exact hd
  have ra9 := Rep.fx (kp9.msk n9) _ ra8
  have rc9 := Rep.fx (kp9.msk n9) _ rc8
  have hdH : H d = none := X8.free (by rw [hx8]; exact Option.some_ne_none _) hd
  have hMn : forall {G : Hp}, SameX x H G -> G x ≠ none -> forall l, G l = none -> ¬ M l := fun {G} xg gx l hl z => by
    obtain ⟨o, e, _⟩ := m l z
    rw [xg.free gx hl] at e
    cases e
  generalize upd (upd G8 d (.dT [])) x (.ins T.C_Graph dx (putF "out" (.ref d) [("colours", yc), ("arrows", ya)])) = G9 at hx9 hd9 X9 m9 ra9 rc9 ⊢
  clear kp9 n9 ra8 rc8 X8 m8 hx8 hd G8
  refine st_for (M := M') m9 (ia_tup (ev_fldR rfl hx9 T.cls_Graph T.na_Graph_arrows rfl ra9)) (fun H2 i s' H' => Kp M' H2 H' ∧ H' x = some (.ins T.C_Graph dx [("colours", yc), ("arrows", ya), ("out", .ref d)]) ∧ (exists ws, OutI H2 H' d (outF ((sortA as).take i)) ws) ∧
      (forall b o, b ≠ x -> b ≠ d -> H2 b = some o -> H' b = some o) ∧ exists p8 p9 p10, s' = S11 (.ref x) vc va q3 q4 q5 q6 q7 p8 p9 p10)
    (fun H2 e2 => ⟨Kp.refl _ _, e2 _ _ hx9, ⟨[], e2 _ _ hd9, .nil, List.nodup_nil, List.nodup_nil⟩, fun b o _ _ h => h, none, none, none, rfl⟩) (fun H2 i s' H' h => h.1) ?_ ?_
  · rintro H2 i dd y s' H' H'' e2 hi hdd ⟨kp, hxi, ⟨ws, oi⟩, keep, p8, p9, p10, rfl⟩ e5 ry
    rw [List.length_map] at hi
    obtain ⟨a0, ha0⟩ : exists a0, (sortA as)[i]? = some a0 := ⟨_, List.getElem?_eq_getElem hi⟩
    rw [List.getElem?_map, ha0] at hdd
    cases hdd
    have ryM := ry (fun _ => False) (Mok.none _) fun b z => z.elim
    obtain ⟨t, xs, et, ht, rxs⟩ := ryM
    obtain ⟨y1, y2, y3, exs, ry1, ry2, ry3⟩ := rxs.three_of
    have f1 : y1 = V.int a0.1 := ry1
    have f2 : y2 = V.str a0.2.1 := ry2
    have f3 : y3 = V.int a0.2.2 := ry3
    subst exs et f1 f2 f3
    refine ⟨t, _, rfl, SqT.of (msk_same _ _ ht), rfl, _, _, rfl, _, _, rfl, _, [], rfl, rfl, ?_⟩
    have hx2 := e5 _ _ hxi
    have hd2 := e5 _ _ oi.at_
    refine ⟨.ref x, rfl, x, T.C_Graph, dx, _, .ref d, rfl, hx2, T.cls_Graph, T.na_Graph_out, rfl, d, rfl, .inr ⟨ws, .inl hd2⟩, _, rfl, _, rfl, by rw [sizeLine_eq]; simp, fun b hb => ⟨by rw [sizeLine_eq]; simp, fun l hl => ?_⟩⟩
    have hbd : d ≠ b := ne_of_none hd2 hb
    have hld : d ≠ l := ne_of_none ((upd_ne hbd).trans hd2) hl
    have hbl : b ≠ l := ne_of_none upd_same hl
    have hl2 : H'' l = none := by
      rw [← hl, upd_ne hbl.symm]
    have up : forall {a : Addr} {o : HO}, H'' a = some o -> upd (upd H'' b (.tup [V.int a0.1, V.str a0.2.1])) l (.lst []) a = some o := fun {a o} h => by
      rw [upd_ne (ne_of_none h hl2), upd_ne (ne_of_none h hb)]
      exact h
    have hb3 : upd (upd H'' b (.tup [V.int a0.1, V.str a0.2.1])) l (.lst []) b = some (.tup ((keyO (a0.1, a0.2.1)).map kV)) := (upd_ne hbl).trans upd_same
    have hl3 : upd (upd H'' b (.tup [V.int a0.1, V.str a0.2.1])) l (.lst []) l = some (.lst []) := upd_same
    have hx3 := up hx2
    have hd3 := up hd2
    have kp3 : Kp M' H2 (upd (upd H'' b (.tup [V.int a0.1, V.str a0.2.1])) l (.lst [])) := kp.trans (Kp.of fun a o h => up (e5 _ _ h))
    have keep3 : forall c o, c ≠ x -> c ≠ d -> H2 c = some o -> upd (upd H'' b (.tup [V.int a0.1, V.str a0.2.1])) l (.lst []) c = some o := fun c o h1 h2 h => up (e5 _ _ (keep c o h1 h2 h))
    have pr3 : Paired (OutR H2 (upd (upd H'' b (.tup [V.int a0.1, V.str a0.2.1])) l (.lst [])) d) (outF ((sortA as).take i)) ws := outR_mono oi.pr fun l' xs' _ _ _ h => up (e5 _ _ h)
    have hlB : H2 l = none := by
      cases q : H2 l with
      | none => rfl
      | some o =>
        have h1 : l ≠ x := by
          rintro rfl
          rw [hx2] at hl2
          cases hl2
        rw [e5 _ _ (keep l o h1 hld.symm q)] at hl2
        cases hl2
    have hlws : forall p, p ∈ ws -> p.2 ≠ .ref l := by
      have r := pr3
      clear pr3
      have go : forall {kvs : OutL} {ws : List (List Key × V)}, Paired (OutR H2 H' d) kvs ws -> forall p, p ∈ ws -> p.2 ≠ .ref l := by
        intro kvs ws r
        induction r with
        | nil => intro p hp; cases hp
        | @cons p q ps qs hpq t ih =>
          obtain ⟨_, l1, h2, _, _, h5⟩ := hpq
          intro z hz
          rcases List.mem_cons.mp hz with ez | hz
          · rw [ez, h2]
            intro e
            injection e with e
            rw [e] at h5
            rw [e5 _ _ h5] at hl2
            cases hl2
          · exact ih z hz
      exact go oi.pr
    have hk3 : outF ((sortA as).take (i + 1)) = stepO (outF ((sortA as).take i)) a0 := outF_take ha0
    have nk3 : ((outF ((sortA as).take (i + 1))).map (·.1)).Nodup := by
      rw [hk3]
      exact stepO_keys oi.nk
    have hlen : ws.length ≤ 10000 := by
      rw [outR_keys oi.pr]
      have h1 := outF_len ((sortA as).take i)
      have h2 : ((sortA as).take i).length ≤ i := by rw [List.length_take]; omega
      have h3 : (sortA as).length ≤ as.length := sortA_len as
      omega
    generalize upd (upd H'' b (.tup [V.int a0.1, V.str a0.2.1])) l (.lst []) = G3 at hb3 hl3 hx3 hd3 kp3 keep3 pr3 ⊢
    refine ⟨valV ws (keyO (a0.1, a0.2.1)), .inr ⟨ws, keyO (a0.1, a0.2.1), b, .inl hd3, rfl, hb3, rfl⟩, fun v hv => ?_, fun hv => ?_⟩
    · rcases outR_val pr3 (a0.1, a0.2.1) with ⟨_, h2⟩ | ⟨h1, l1, xs1, h2, h3, h4, h5, _, p0, hp0, ep0⟩
      · rw [h2] at hv
        cases hv
      · rw [h2] at hv
        cases hv
        have hlx : l1 ≠ x := by
          rintro rfl
          rw [hx3] at h5
          cases h5
        refine ⟨.inl ⟨rfl, xs1, SqL.of h5⟩, .int a0.2.2, rfl, l1, xs1, .int a0.2.2, rfl, rfl, h5, ?_, ?_⟩
        · rw [ep0, List.length_map, sizeLine_eq]
          have b1 := outF_ends ((sortA as).take i) p0 hp0
          have b2 : ((sortA as).take i).length ≤ i := by rw [List.length_take]; omega
          have b3 := sortA_len as
          omega
        refine ⟨kp_updN kp3 h4, (upd_ne hlx.symm).trans hx3, ⟨ws, (upd_ne h3.symm).trans hd3, ?_, oi.nv, nk3⟩, fun c o n1 n2 h => (upd_ne (ne_of_none h h4)).trans (keep3 c o n1 n2 h), _, _, _, rfl⟩
        rw [hk3]
        unfold stepO
        rw [if_pos h1]
        exact outR_app pr3 oi.nv oi.nk h2 h5
    · rcases outR_val pr3 (a0.1, a0.2.1) with ⟨h1, h2⟩ | ⟨h1, l1, xs1, h2, _⟩
      · refine ⟨_, DPut.t hd3 hb3 (by rw [sizeLine_eq]; omega), .inl ⟨rfl, [], SqL.of ((upd_ne hld.symm).trans hl3)⟩, .int a0.2.2, rfl, l, [], .int a0.2.2, rfl, rfl, (upd_ne hld.symm).trans hl3, by rw [sizeLine_eq]; simp, ?_⟩
        have hlx : l ≠ x := by
          rintro rfl
          rw [hx3] at hl3
          cases hl3
        refine ⟨kp_updN (kp3.upd (.inr rfl) fun od u z => by rw [hd3] at z; cases z) hlB, ((upd_ne hlx.symm).trans (upd_ne hdx.symm)).trans hx3, ⟨putK ws (keyO (a0.1, a0.2.1)) (.ref l), (upd_ne hld).trans upd_same, ?_, ?_, nk3⟩, fun c o n1 n2 h => ((upd_ne (ne_of_none h hlB)).trans (upd_ne n2)).trans (keep3 c o n1 n2 h), _, _, _, rfl⟩
        · rw [hk3, putK_new _ hv]
          unfold stepO
          rw [if_neg (by rw [h1]; exact Bool.false_ne_true)]
          refine Paired.snoc (outR_mono pr3 fun l' xs' b1 b2 ⟨p, hp, ep⟩ h => ?_) ⟨rfl, l, rfl, hld.symm, hlB, upd_same⟩
          have ne : l' ≠ l := by
            rintro rfl
            exact hlws p hp ep
          rw [upd_ne ne, upd_ne b2]
          exact h
        · rw [putK_new _ hv, List.map_append]
          refine nd_snoc oi.nv fun z => ?_
          obtain ⟨p, hp, ep⟩ := List.mem_map.mp z
          exact hlws p hp ep
      · rw [h2] at hv
        cases hv
  · rintro H2 s' H' e2 ⟨kp, hxi, ⟨ws, oi⟩, keep, p8, p9, p10, rfl⟩
    have htk : (sortA as).take ((sortA as).map aD).length = sortA as := by rw [List.length_map, List.take_length]
    rw [htk] at oi
    have X2 : SameX x H H2 := X9.trans (SameX.of e2)
    have hx2 : H2 x ≠ none := by
      rw [e2 _ _ hx9]
      exact Option.some_ne_none _
    have XF : SameX x H H' := fun b o n h => by
      have h2 := X2 b o n h
      refine keep b o n ?_ h2
      rintro rfl
      rw [hdH] at h
      cases h
    have less : forall {d0 : D} {v0 : V}, Rep (msk M' G9) d0 v0 -> Rep (msk M H') d0 v0 := fun {d0 v0} r => by
      have h1 := r.up (msk_mono (M := M') e2)
      have h2 := Rep.fx kp.fx _ h1
      exact h2.up (msk_less fun a z => .inl z)
    refine fin _ H' XF hxi ⟨yc, _, rfl, less rc9, ya, _, rfl, less ra9, .ref d, _, rfl, ?_, rfl⟩
    exact outI_rep oi hMd (hMn X2 hx2)
end
end K01
namespace K01
open PySem PySem.Spec PyProof.Rows L2 Ak
/-! ### graphs that are none the worse -/
def okG (cs : List Str) (as : List Arrow) : Prop := (forall c, c ∈ cs -> nameS c = true) ∧ (forall a, a ∈ as -> isArr (aD a) cs.length = true) ∧ cs.length ≤ 1000 ∧ as.length ≤ 10000
theorem nameS_len {x : Str} (h : nameS x = true) : x.length ≤ 8 := by
  unfold nameS at h
  rw [Bool.and_eq_true, Bool.and_eq_true] at h
  exact of_decide_eq_true h.2.1
theorem arr_name {a : Arrow} {n : Int} (h : isArr (aD a) n = true) : nameS a.2.1 = true ∧ 0 ≤ a.1 ∧ a.1 < n ∧ 0 ≤ a.2.2 ∧ a.2.2 < n := by
  have h' : (nameS a.2.1 && ((decide (0 ≤ a.1) && decide (a.1 < n)) && (decide (0 ≤ a.2.2) && decide (a.2.2 < n)))) = true := h
  simp only [Bool.and_eq_true, decide_eq_true_eq] at h'
  exact ⟨h'.1, h'.2.1.1, h'.2.1.2, h'.2.2.1, h'.2.2.2⟩
theorem arr_of {a : Arrow} {n : Int} (h1 : nameS a.2.1 = true) (h2 : 0 ≤ a.1) (h3 : a.1 < n) (h4 : 0 ≤ a.2.2) (h5 : a.2.2 < n) : isArr (aD a) n = true := by
  show (nameS a.2.1 && ((decide (0 ≤ a.1) && decide (a.1 < n)) && (decide (0 ≤ a.2.2) && decide (a.2.2 < n)))) = true
  simp [h1, h2, h3, h4, h5]
theorem okG_fi {cs : List Str} {as : List Arrow} (h : okG cs as) : (D.tup (cs.map .str)).fi = true ∧ (D.lst (cs.map .str)).fi = true ∧ (D.tup (as.map aD)).fi = true ∧ (D.lst (as.map aD)).fi = true := by
  obtain ⟨h1, h2, h3, h4⟩ := h
  have f1 : D.fis (cs.map .str) = true := fis_all.mpr fun d hd => by
    obtain ⟨c, hc, rfl⟩ := List.mem_map.mp hd
    have := nameS_len (h1 c hc)
    exact decide_eq_true (by omega)
  have f2 : D.fis (as.map aD) = true := fis_all.mpr fun d hd => by
    obtain ⟨a, ha, rfl⟩ := List.mem_map.mp hd
    have := nameS_len (arr_name (h2 a ha)).1
    have h5 : decide (a.2.1.length ≤ 10000) = true := decide_eq_true (by omega)
    show (decide (([D.int a.1, .str a.2.1, .int a.2.2] : List D).length ≤ 100000) && (true && (decide (a.2.1.length ≤ 10000) && (true && true)))) = true
    rw [h5] <;> rfl
  have l1 : decide ((cs.map D.str).length ≤ 100000) = true := decide_eq_true (by rw [List.length_map]; omega)
  have l2 : decide ((as.map aD).length ≤ 100000) = true := decide_eq_true (by rw [List.length_map]; omega)
  refine ⟨?_, ?_, ?_, ?_⟩
  · show (decide _ && _) = true
    rw [l1, f1] <;> rfl
  · show (decide _ && _) = true
    rw [l1, f1] <;> rfl
  · show (decide _ && _) = true
    rw [l2, f2] <;> rfl
  · show (decide _ && _) = true
    rw [l2, f2] <;> rfl
theorem okG_fault {c a : D} {cs : List Str} {as : List Arrow} (h : okG cs as) (hc : c.its = some (cs.map .str)) (ha : a.its = some (as.map aD)) : gFault c a = none := by
  obtain ⟨h1, h2, h3, h4⟩ := h
  have e1 : (cs.map D.str).findIdx? (fun d => !isNm d) = none := List.findIdx?_eq_none_iff.mpr fun d hd => by
    obtain ⟨x, hx, rfl⟩ := List.mem_map.mp hd
    show (!nameS x) = false
    rw [h1 x hx] <;> rfl
  have e2 : (as.map aD).findIdx? (fun d => !isArr d cs.length) = none := List.findIdx?_eq_none_iff.mpr fun d hd => by
    obtain ⟨x, hx, rfl⟩ := List.mem_map.mp hd
    rw [h2 x hx] <;> rfl
  unfold gFault
  rw [hc]
  simp only [e1, ha, List.length_map, e2]
  rw [if_neg (by omega), if_neg (by omega)]
theorem okG_init {c a : D} {cs : List Str} {as : List Arrow} (h : okG cs as) (hc : c = .lst (cs.map .str) ∨ c = .tup (cs.map .str)) (ha : a = .lst (as.map aD) ∨ a = .tup (as.map aD)) : R_init [c, a] (fieldsD cs (sortA as)) := by
  obtain ⟨f1, f2, f3, f4⟩ := okG_fi h
  have hc2 : c.its = some (cs.map .str) := by rcases hc with rfl | rfl <;> rfl
  have ha2 : a.its = some (as.map aD) := by rcases ha with rfl | rfl <;> rfl
  refine ⟨c, a, cs, as, rfl, ?_, ?_, okG_fault h hc2 ha2, hc2, ha2, rfl⟩
  · rcases hc with rfl | rfl
    · exact f2
    · exact f1
  · rcases ha with rfl | rfl
    · exact f4
    · exact f3
def moveA (n : Int) (a : Arrow) : Arrow := (a.1 + n, a.2.1, a.2.2 + n)
def moveD (n : Int) : D -> D
  | .tup [.int x, l, .int y] => .tup [.int (x + n), l, .int (y + n)]
  | d => d
section
variable {P : Program} {w : World} {K : PySem.W.Frag} {mg : Str -> Option Value} {base : Heap}
def R_beside (T : Tx K mg) : List D -> D -> Prop := fun ds z => exists cs as cs2 as2, ds = [graphD T cs as, graphD T cs2 as2] ∧ okG (cs ++ cs2) (as ++ as2.map (moveA cs.length)) ∧ z = graphD T (cs ++ cs2) (sortA (as ++ as2.map (moveA cs.length)))
theorem ok_Graph_beside (T : Tx K mg) : FnOk P w K mg base (L2.CX P w) 5 T.f_Graph_beside T.d_Graph_beside ["self", "other"] (SpR (R_beside T)) := by
  refine T.F_Graph_beside.ok sc_Graph_beside (fun _ _ _ _ h => SpR.len (n := 2) (fun ds z ⟨cs, as, c2, a2, e, _⟩ => by rw [e] <;> rfl) h) (fun cdv A outer s H vs Q E hr h => ⟨_, (pss_cons (ps_set (i := 2) sc_Graph_beside.nd rfl (.inr rfl) (pe_callB call_lenU rfl T.n_len PySem.boot_len (by exact (pa_cons (pe_fld (pv 0) rfl) pa_nil))))
      (pss_cons (ps_setLc (i := 3) (own := [("node", 4), ("label", 5), ("end", 6)]) (g := (gTup K 3 (gCons (gName 4) (gCons (gName 5) (gCons (gName 6) gNil))))) (tt := tYes) (te := (tTup (tCons (tOp (rAddU K) (tVar 4) (tVar 2)) (tCons (tVar 5) (tCons (tOp (rAddU K) (tVar 6) (tVar 2)) tNil))))) rfl sc_Graph_beside.nd rfl rfl (sw_true rfl rfl rfl (by decide +kernel)) (pi_any (pe_fld (pv 1) rfl)) (blkOk_by (own := [("node", 4), ("label", 5), ("end", 6)]) (N := ["self", "other", "many", "moved", "node", "label", "end"]) (sc := (defScope s_Graph_beside)) (by decide +kernel)) (fun _ _ _ _ _ => by exact (pg_tup rfl (pgs_cons (pg_name (i := 4) sc_Graph_beside.nd rfl (.inl rfl)) (pgs_cons (pg_name (i := 5) sc_Graph_beside.nd rfl (.inl rfl)) (pgs_cons (pg_name (i := 6) sc_Graph_beside.nd rfl (.inl rfl)) pgs_nil))))) (fun _ _ _ _ _ => by exact pts_nil) (fun _ _ _ _ _ => by exact (pe_tup (pa_cons (pe_op op_addU (pv 4) (pv 2)) (pa_cons (pv 5) (pa_cons (pe_op op_addU (pv 6) (pv 2)) pa_nil))))))
      (pss_one (ps_ret (pe_make T.mk_Graph (ok_Graph_init T) (hr.mono (by decide)) rfl T.g_Graph T.B_Graph_init .nil passL (pa_cons (pe_tup (StX.pa_star (pe_fld (pv 0) rfl) (StX.pa_star (pe_fld (pv 1) rfl) pa_nil))) (pa_cons (pe_tup (StX.pa_star (pe_fld (pv 0) rfl) (StX.pa_star (pv 3) pa_nil))) pa_nil))))))), ?_⟩)
  obtain ⟨M, ds, z, m, rs, ⟨cs, as, cs2, as2, rfl, ok, rfl⟩, q⟩ := h
  obtain ⟨v, v2, rfl, r, r2⟩ := rs.two_of
  have hl : as2.length ≤ 10000 := by
    have := ok.2.2.2
    rw [List.length_append, List.length_map] at this
    omega
  have hc1 : (cs ++ cs2).length ≤ 1000 := ok.2.2.1
  have ha1 := ok.2.2.2
  refine st_seq (st_set (P := fun y G => Rep G (.int cs.length) y) (Ev.to (ev_len (ea_one (ev_fld (ev_var rfl r) T.cls_Graph T.na_Graph_colours rfl)) rfl (fun _ e => nomatch e) fun _ e => nomatch e) (by rw [List.length_map])) fun yn H2 e2 rn => ?_)
  dsimp only
  have rB := r.up (msk_mono (M := M) e2)
  have r2B := r2.up (msk_mono (M := M) e2)
  refine st_seq (st_set (P := fun y G => Rep G (.lst ((as2.map (moveA cs.length)).map aD)) y) (Ev.to (ev_lcm (ds := as2.map aD) (moveD cs.length) (m.up e2) (ia_tup (ev_fld (ev_var rfl r2B) T.cls_Graph T.na_Graph_arrows rfl)) (by rw [List.length_map]; omega) fun N H3 d y mN eN hd rd => ?_) ?_) fun ym H3 e3 rm => ?_)
  · obtain ⟨a0, _, rfl⟩ := List.mem_map.mp hd
    obtain ⟨t, xs, et, ht, rxs⟩ := rd
    obtain ⟨y1, y2, y3, exs, ry1, ry2, ry3⟩ := rxs.three_of
    subst exs et
    refine elt_all (s2 := (((wipe (L2.start ["self", "other", "many", "moved", "node", "label", "end"] [v, v2] |>.set 2 (some yn)) [4, 5, 6]).set 4 (some y1)).set 5 (some y2)).set 6 (some y3)) (fun Q q => ⟨t, _, rfl, SqT.of (msk_same _ _ ht), rfl, _, _, rfl, _, _, rfl, _, [], rfl, rfl, q⟩) rfl ?_
    have rn3 := Rep.up rn eN
    exact ev_tup mN (ea_cons (ev_op (ev_var rfl ry1) (ev_var rfl rn3) rd_addI) (ea_cons (ev_var rfl ry2) (ea_one (ev_op (ev_var rfl ry3) (ev_var rfl rn3) rd_addI))))
  · rw [List.map_map, List.map_map]
    congr 1
  dsimp only
  have rC := rB.up (msk_mono (M := M) e3)
  have r2C := r2B.up (msk_mono (M := M) e3)
  have m3 := (m.up e2).up e3
  refine st_ret (M := M) (ev_make (C := T.C_Graph) (R := R_init) (X := X_init T) m3 (ea_cons (ev_tupB (ds := cs.map .str ++ (cs2.map .str ++ [])) m3 (ea_star (ev_fld (ev_var rfl rC) T.cls_Graph T.na_Graph_colours rfl) (.inr rfl) (ea_star (ev_fld (ev_var rfl r2C) T.cls_Graph T.na_Graph_colours rfl) (.inr rfl) ea_nil)) ?_)
    (ea_one (ev_tupB (ds := as.map aD ++ ((as2.map (moveA cs.length)).map aD ++ [])) m3 (ea_star (ev_fld (ev_var rfl rC) T.cls_Graph T.na_Graph_arrows rfl) (.inr rfl) (ea_star (ev_var rfl rm) (.inl rfl) ea_nil)) ?_))) (okG_init ok ?_ ?_)) fun y H4 e4 ry => q y H4 ((e2.trans e3).trans e4) ry
  · rw [sizeLine_eq]
    rw [List.length_append] at hc1
    simp only [List.length_append, List.length_map, List.length_nil]
    omega
  · rw [sizeLine_eq]
    rw [List.length_append] at ha1
    simp only [List.length_append, List.length_map, List.length_nil] at ha1 ⊢
    omega
  · right
    rw [List.append_nil, List.map_append]
  · right
    rw [List.append_nil, List.map_append]
end

end K01
namespace K01
open PySem PySem.Spec PyProof.Rows L2 Ak
/-! ### what is reached -/
def Reach (as : List Arrow) (n x : Int) : Prop := forall S : Int -> Prop, S n -> (forall a, a ∈ as -> S a.1 -> S a.2.2) -> S x
def isReach (as : List Arrow) (n : Int) (F : List Int) : Prop := F.Nodup ∧ forall x, x ∈ F <-> Reach as n x
theorem isReach_perm {as : List Arrow} {n : Int} {F G : List Int} (h1 : isReach as n F) (h2 : isReach as n G) : F.Perm G := nodup_perm h1.1 h2.1 fun x => (h1.2 x).trans (h2.2 x).symm
/-- the search as it stands: what is to be looked at, what is found -/
structure Srch (as : List Arrow) (n : Int) (rest found : List Int) : Prop where
  nf : found.Nodup
  nr : rest.Nodup
  sub : forall x, x ∈ rest -> x ∈ found
  here : n ∈ found
  ok : forall x, x ∈ found -> Reach as n x
  cl : forall a, a ∈ as -> a.1 ∈ found -> a.1 ∉ rest -> a.2.2 ∈ found
/-- .. while one is looked at: the first i arrows are done -/
structure Srch1 (as : List Arrow) (n one : Int) (i : Nat) (rest found : List Int) : Prop where
  nf : found.Nodup
  nr : rest.Nodup
  sub : forall x, x ∈ rest -> x ∈ found
  here : n ∈ found
  ok : forall x, x ∈ found -> Reach as n x
  cl : forall a, a ∈ as -> a.1 ∈ found -> a.1 ∉ rest -> a.1 ≠ one -> a.2.2 ∈ found
  on : one ∈ found
  off : one ∉ rest
  dn : forall (j : Nat) a, j < i -> as[j]? = some a -> a.1 = one -> a.2.2 ∈ found
theorem Srch.pop {as : List Arrow} {n one : Int} {rest found : List Int} (s : Srch as n (rest ++ [one]) found) : Srch1 as n one 0 rest found := by
  obtain ⟨nf, nr, sub, here, ok, cl⟩ := s
  rw [List.nodup_append] at nr
  refine ⟨nf, nr.1, fun x h => sub x (List.mem_append_left _ h), here, ok, fun a ha h1 h2 h3 => cl a ha h1 fun z => ?_, sub one (List.mem_append_right _ List.mem_cons_self), fun z => nr.2.2 one z one List.mem_cons_self rfl, fun j a h => absurd h (Nat.not_lt_zero _)⟩
  rcases List.mem_append.mp z with z | z
  · exact h2 z
  · exact h3 (List.mem_singleton.mp z)
theorem Srch1.done {as : List Arrow} {n one : Int} {rest found : List Int} (s : Srch1 as n one as.length rest found) : Srch as n rest found := by
  refine ⟨s.nf, s.nr, s.sub, s.here, s.ok, fun a ha h1 h2 => ?_⟩
  by_cases e : a.1 = one
  · obtain ⟨j, hj, ej⟩ := List.mem_iff_getElem.mp ha
    exact s.dn j a hj (by rw [List.getElem?_eq_getElem hj, ej]) e
  · exact s.cl a ha h1 h2 e
theorem Srch1.skip {as : List Arrow} {n one : Int} {i : Nat} {a : Arrow} {rest found : List Int} (s : Srch1 as n one i rest found) (h : as[i]? = some a) (hs : a.1 = one -> a.2.2 ∈ found) : Srch1 as n one (i + 1) rest found :=
  ⟨s.nf, s.nr, s.sub, s.here, s.ok, s.cl, s.on, s.off, fun j b hj hb e => by
    rcases Nat.lt_succ_iff_lt_or_eq.mp hj with z | z
    · exact s.dn j b z hb e
    · subst z
      rw [h] at hb
      cases hb
      exact hs e⟩
theorem Srch1.add {as : List Arrow} {n one : Int} {i : Nat} {a : Arrow} {rest found : List Int} (s : Srch1 as n one i rest found) (h : as[i]? = some a) (h1 : a.1 = one) (h2 : a.2.2 ∉ found) : Srch1 as n one (i + 1) (rest ++ [a.2.2]) (found ++ [a.2.2]) := by
  have hr : a.2.2 ∉ rest := fun z => h2 (s.sub _ z)
  refine ⟨nd_snoc s.nf h2, nd_snoc s.nr hr, fun x hx => ?_, List.mem_append_left _ s.here, fun x hx => ?_, fun b hb b1 b2 b3 => ?_, List.mem_append_left _ s.on, fun z => ?_, fun j b hj hb e => ?_⟩
  · rcases List.mem_append.mp hx with z | z
    · exact List.mem_append_left _ (s.sub x z)
    · exact List.mem_append_right _ z
  · rcases List.mem_append.mp hx with z | z
    · exact s.ok x z
    · rw [List.mem_singleton.mp z]
      intro S hn hS
      refine hS a (List.mem_of_getElem? h) ?_
      rw [h1]
      exact s.ok one s.on S hn hS
  · refine List.mem_append_left _ (s.cl b hb ?_ (fun z => b2 (List.mem_append_left _ z)) b3)
    rcases List.mem_append.mp b1 with z | z
    · exact z
    · exact absurd (List.mem_append_right _ z) b2
  · rcases List.mem_append.mp z with z | z
    · exact s.off z
    · rw [← List.mem_singleton.mp z] at h2
      exact h2 s.on
  · rcases Nat.lt_succ_iff_lt_or_eq.mp hj with z | z
    · exact List.mem_append_left _ (s.dn j b z hb e)
    · subst z
      rw [h] at hb
      cases hb
      exact List.mem_append_right _ List.mem_cons_self
theorem Srch.start (as : List Arrow) (n : Int) : Srch as n [n] [n] :=
  ⟨by simp, by simp, fun x h => h, List.mem_cons_self, fun x h => by rw [List.mem_singleton.mp h]; exact fun S hn _ => hn, fun a _ h1 h2 => absurd h1 h2⟩
theorem Srch.end_ {as : List Arrow} {n : Int} {found : List Int} (s : Srch as n [] found) : isReach as n found :=
  ⟨s.nf, fun x => ⟨s.ok x, fun h => h (fun y => y ∈ found) s.here fun a ha h1 => s.cl a ha h1 (by simp)⟩⟩
/-- what can be found at all -/
def couldBe (as : List Arrow) (n : Int) : List Int := n :: as.map (·.2.2)
theorem reach_could {as : List Arrow} {n x : Int} (h : Reach as n x) : x ∈ couldBe as n := h (fun y => y ∈ couldBe as n) List.mem_cons_self fun a ha _ => List.mem_cons_of_mem _ (List.mem_map.mpr ⟨a, ha, rfl⟩)
theorem nodup_len {α : Type} [DecidableEq α] : forall {l m : List α}, l.Nodup -> (forall x, x ∈ l -> x ∈ m) -> l.length ≤ m.length
  | [], _, _, _ => Nat.zero_le _
  | x :: l, m, h, k => by
    rw [List.nodup_cons] at h
    obtain ⟨a, b, rfl⟩ := List.append_of_mem (k x List.mem_cons_self)
    have := nodup_len (l := l) (m := a ++ b) h.2 fun y hy => by
      rcases List.mem_append.mp (k y (List.mem_cons_of_mem _ hy)) with z | z
      · exact List.mem_append_left _ z
      · rcases List.mem_cons.mp z with e | z
        · exact absurd (e ▸ hy) h.1
        · exact List.mem_append_right _ z
    rw [List.length_append] at this
    rw [List.length_append, List.length_cons, List.length_cons]
    omega
def foundW (l : List Int) : List (Key × V) := l.map fun i => (.inl i, .bl true)
def foundK (l : List Int) : List (Key × D) := l.map fun i => (.inl i, .bl true)
theorem foundR {G : Hp} : forall l : List Int, RepP G (foundK l) (foundW l)
  | [] => .nil
  | i :: l => .cons ⟨rfl, rfl⟩ (foundR l)
theorem found_val (l : List Int) (i : Int) : (vD (foundK l) (.inl i)).isSome = decide (i ∈ l) := by
  induction l with
  | nil => simp [vD, foundK]
  | cons j l ih =>
    by_cases e : j = i
    · subst e
      simp [vD, foundK]
    · have h1 : vD (foundK (j :: l)) (.inl i) = vD (foundK l) (.inl i) := by simp [vD, foundK, List.find?_cons, e]
      rw [h1, ih]
      have e' : ¬ i = j := fun z => e z.symm
      simp [e']
theorem found_put (l : List Int) (i : Int) (h : i ∉ l) : putK (foundW l) (.inl i) (.bl true) = foundW (l ++ [i]) := by
  rw [putK_new]
  · unfold foundW
    rw [List.map_append] <;> rfl
  · unfold valV foundW
    rw [Option.map_eq_none_iff, List.find?_eq_none]
    intro p hp
    obtain ⟨j, hj, rfl⟩ := List.mem_map.mp hp
    intro z
    have z' := of_decide_eq_true z
    injection z' with z'
    exact h (z' ▸ hj)
section
variable {P : Program} {w : World} {K : PySem.W.Frag} {mg : Str -> Option Value} {base : Heap}
def R_reached (T : Tx K mg) : List D -> D -> Prop := fun ds z => exists cs as n F, ds = [graphD T cs as, .int n] ∧ nodeIn (.int n) cs.length = true ∧ as.length ≤ 10000 ∧ isReach as n F ∧ z = .tup ((sortI F).map .int)
def X_reached (T : Tx K mg) : List D -> Addr -> List (Str × D) -> Prop := X_check T
abbrev S8 (a b : V) (o2 o3 o4 o5 o6 o7 : Option V) : L2.St := [some a, some b, o2, o3, o4, o5, o6, o7]
theorem ok_Graph_reached (T : Tx K mg) : FnOk P w K mg base (L2.CX P w) 5 T.f_Graph_reached T.d_Graph_reached ["self", "node"] (SpE (R_reached T) (X_reached T)) := by
  refine T.F_Graph_reached.ok sc_Graph_reached (fun _ _ _ _ h => SpE.len (n := 2) (fun ds z ⟨cs, as, n, F, e, _⟩ => by rw [e] <;> rfl) (fun ds C z ⟨cs, as, n, e, _⟩ => by rw [e] <;> rfl) h) (fun cdv A outer s H vs Q E hr h => ⟨_, (pss_cons (ps_expr (pe_meth (pv 0) T.cls_Graph T.m_Graph_check (ok_Graph_check T) (hr.mono (by decide)) T.B_Graph_check .nil (passes_call (takes_of rfl rfl rfl rfl) (fun _ _ _ _ h => h)) (pa_cons (pv 1) pa_nil)))
      (pss_cons (ps_par (i := 2) (j := 3) rfl sc_Graph_reached.nd rfl rfl (by decide) rfl rfl (pa_cons (pe_lst (pa_cons (pv 1) pa_nil)) (pa_cons (pe_disp (pps_cons (pv 1) pe_bl pps_nil) (by rfl) (by rfl) (fun z => by cases z) (by decide)) pa_nil)) rfl)
      (pss_cons (ps_while PassesOwn.leaving (pt_cmpR (op_neU hr.units) (pv 2) (pe_lst pa_nil) (nomark _))
      (pss_cons (ps_set (i := 4) sc_Graph_reached.nd rfl (.inl rfl) (pe_bm0 PySem.F.plainAttrs_list PySem.F.slot_list_pop PySem.F.type_list_pop mt_pop (pv 2)))
      (pss_one (ps_for PassesOwn.leaving rfl (pi_any (pe_fld (pv 0) rfl)) (pg_tup rfl (pgs_cons (pg_name (i := 5) sc_Graph_reached.nd rfl (.inl rfl)) (pgs_cons (pg_name (i := 6) sc_Graph_reached.nd rfl (.inl rfl)) (pgs_cons (pg_name (i := 7) sc_Graph_reached.nd rfl (.inl rfl)) pgs_nil))))
      (pss_one (ps_if (PW.pt (pw_and (pt_cmpR (op_eqU hr.units) (pv 5) (pv 4) (nomark _)) (pw_and1 (pt_cmpR (op_notInU hr.units) (pv 7) (pv 3) (by with_unfolding_all rfl))))) (pss_cons (ps_dput (hu_of hr) (pv 3) (pv 7) pe_bl rfl)
      (pss_one (ps_expr (pe_bm PySem.F.plainAttrs_list PySem.F.slot_list_append PySem.F.type_list_append mt_append (pv 2) (pa_cons (pv 7) pa_nil))))) pss_nil))))))
      (pss_one (ps_ret (pe_callTy call_tuple_of rfl T.n_tuple (by decide +kernel) (by exact (pa_cons (pe_callB (call_sortU rfl hr.units) rfl T.n_sorted PyProof.Rows.boot_sorted (by exact (pa_cons (pv 3) pa_nil))) pa_nil)))))))), ?_⟩)
  obtain ⟨M, ds, m, rs, ⟨z, ⟨cs, as, n, F, rfl, hn, hz, hF, rfl⟩, q⟩ | ⟨C, fs, hX, q⟩⟩ := h
  · obtain ⟨v, v2, rfl, r, r2⟩ := rs.two_of
    have en : v2 = V.int n := r2
    subst en
    refine st_seq (ev_methE (M := M) (d := .non) m (ev_var rfl r) rfl (ea_one (ev_var rfl r2)) ⟨cs, as, _, rfl, rfl, hn, rfl⟩ H (Same.refl H) _ fun y H2 e2 _ => ?_)
    dsimp only
    have m2 := m.up e2
    have rB := r.up (msk_mono (M := M) e2)
    refine st_seq ⟨_, rfl, by rw [sizeLine_eq]; simp, fun p hp d hd => ⟨_, rfl, upd_same, [(.inl n, .bl true)], rfl, by simp, .ref p, .ref d, rfl, ?_⟩⟩
    dsimp only
    have hpd : p ≠ d := ne_of_none upd_same hd
    have hd2 : H2 d = none := by
      rw [← hd, upd_ne hpd.symm]
    let B : Hp := upd (upd (upd H2 p (.lst [V.int n])) d (.dK [])) d (.dK (mergeK [] [(.inl n, .bl true)]))
    have hBp : B p = some (.lst ([n].map V.int)) := (upd_ne hpd).trans ((upd_ne hpd).trans upd_same)
    have hBd : B d = some (.dK (foundW [n])) := upd_same
    have sB : Same H2 B := fun a o h => by
      show (upd (upd (upd H2 p _) d _) d _) a = some o
      rw [upd_ne (ne_of_none h hd2), upd_ne (ne_of_none h hd2), upd_ne (ne_of_none h hp)]
      exact h
    let M' : MK := fun a => M a ∨ a = p ∨ a = d
    have n2 : forall a, M' a -> M a ∨ H2 a = none := fun a z => by
      rcases z with z | z | z
      · exact .inl z
      · exact .inr (by rw [z]; exact hp)
      · exact .inr (by rw [z]; exact hd2)
    have rG : Rep (msk M' B) (graphD T cs as) v := Rep.fx ((Kp.of sB).msk n2) _ rB
    have hMp : ¬ M p := m2.new hp
    have hMd : ¬ M d := m2.new hd2
    have hlenU : (couldBe as n).length ≤ 10001 := by
      unfold couldBe
      rw [List.length_cons, List.length_map]
      omega
    have fLen : forall {rest found : List Int}, Srch as n rest found -> found.length ≤ (couldBe as n).length := fun s => nodup_len s.nf fun x hx => reach_could (s.ok x hx)
    have fLen1 : forall {one : Int} {i : Nat} {rest found : List Int}, Srch1 as n one i rest found -> found.length ≤ (couldBe as n).length ∧ rest.length ≤ found.length := fun s => ⟨nodup_len s.nf fun x hx => reach_could (s.ok x hx), nodup_len s.nr s.sub⟩
    refine st_seq ⟨fun mm σ' H' => exists rest found o4 o5 o6 o7, mm = 2 * ((couldBe as n).length - found.length) + rest.length ∧ σ' = S8 v (.int n) (some (.ref p)) (some (.ref d)) o4 o5 o6 o7 ∧ H' p = some (.lst (rest.map V.int)) ∧ H' d = some (.dK (foundW found)) ∧ Srch as n rest found ∧ Kp M' B H' ∧ forall a o, a ≠ p -> a ≠ d -> B a = some o -> H' a = some o,
      ⟨_, [n], [n], none, none, none, none, rfl, rfl, hBp, hBd, Srch.start as n, Kp.refl _ _, fun a o _ _ h => h⟩, ?_⟩
    rintro mm σ' H' ⟨rest, found, o4, o5, o6, o7, rfl, rfl, hp', hd', sr, kp, keep⟩
    have test : EvT (tTest (tOp (rEqU true) (tVar 2) (tLst tNil))) (S8 v (.int n) (some (.ref p)) (some (.ref d)) o4 o5 o6 o7) H' (!PyData.eqv (D.lst (rest.map .int)).py (D.lst []).py) :=
      et_test (M := fun _ => False) (ev_op (d := .lst (rest.map .int)) (ev_var rfl ⟨p, _, rfl, by rw [msk_at (fun z => z)]; exact hp', Reps.ints rest⟩) (ev_lst (Mok.none _) ea_nil) (rd_eqU (ok_ints rest) rfl))
    refine test H' (Same.refl _) _ fun H4 e4 => ?_
    rcases List.eq_nil_or_concat rest with rfl | ⟨rest', one, rfl⟩
    · refine iteF ?_
      have keepS : Same H H4 := fun a o h => by
        have h2 := e2 _ _ h
        exact e4 _ _ (keep a o (ne_of_none h2 hp) (ne_of_none h2 hd2) (sB _ _ h2))
      have hd4 := e4 _ _ hd'
      have rd : Rep (msk M H4) (.dK (foundK found)) (.ref d) := ⟨d, foundW found, rfl, .inl (by rw [msk_at hMd]; exact hd4), repK_iff.mpr (foundR found)⟩
      refine st_ret (M := M) (ev_tof (m.up keepS) (ea_one (ev_sort (ds := found.map .int) (d := .dK (foundK found)) (m.up keepS) (ea_one (ev_var rfl rd)) ?_ (canSort_ints found))) (.inl rfl)) fun y H5 e5 ry => q y H5 (keepS.trans e5) (Rep.to ry ?_)
      · show some _ = some _
        unfold foundK
        rw [List.map_map] <;> rfl
      · rw [sortD_ints, sortI_eq (isReach_perm sr.end_ hF)]
    · rw [List.concat_eq_append] at *
      have hb : (!PyData.eqv (D.lst ((rest' ++ [one]).map .int)).py (D.lst []).py) = true := by
        cases rest' <;> rfl
      rw [hb]
      refine iteT ⟨fun σ2 H5 => exists m', m' < 2 * ((couldBe as n).length - found.length) + (rest' ++ [one]).length ∧ (exists rest found o4 o5 o6 o7, m' = 2 * ((couldBe as n).length - found.length) + rest.length ∧ σ2 = S8 v (.int n) (some (.ref p)) (some (.ref d)) o4 o5 o6 o7 ∧ H5 p = some (.lst (rest.map V.int)) ∧ H5 d = some (.dK (foundW found)) ∧ Srch as n rest found ∧ Kp M' B H5 ∧ forall a o, a ≠ p -> a ≠ d -> B a = some o -> H5 a = some o), fun _ _ h => h, ?_⟩
      have hp4 : H4 p = some (.lst (rest'.map V.int ++ [V.int one])) := by
        rw [e4 _ _ hp', List.map_append] <;> rfl
      refine st_seq (st_pop rfl hp4 ?_)
      dsimp only
      have kp4 : Kp M' B (upd H4 p (.lst (rest'.map V.int))) := (kp.trans (Kp.of e4)).upd (.inr (.inl rfl)) fun od u z => by rw [hp4] at z; cases z
      have keep4 : forall a o, a ≠ p -> a ≠ d -> B a = some o -> upd H4 p (.lst (rest'.map V.int)) a = some o := fun a o h1 h2 h => (upd_ne h1).trans (e4 _ _ (keep a o h1 h2 h))
      have hp5 : upd H4 p (.lst (rest'.map V.int)) p = some (.lst (rest'.map V.int)) := upd_same
      have hd5 : upd H4 p (.lst (rest'.map V.int)) d = some (.dK (foundW found)) := (upd_ne hpd.symm).trans (e4 _ _ hd')
      generalize upd H4 p (.lst (rest'.map V.int)) = H5 at kp4 keep4 hp5 hd5 ⊢
      have mok5 : Mok M' H5 := fun a z => by
        rcases z with z | z | z
        · obtain ⟨o, e, nt⟩ := m2 a z
          exact ⟨o, keep4 a o (ne_of_none e hp) (ne_of_none e hd2) (sB _ _ e), nt⟩
        · rw [z]
          exact ⟨_, hp5, fun xs e => nomatch e⟩
        · rw [z]
          exact ⟨_, hd5, fun xs e => nomatch e⟩
      have rG5 := Rep.fx kp4.fx _ rG
      refine st_for (M := M') mok5 (ia_tup (ev_fld (ev_var rfl rG5) T.cls_Graph T.na_Graph_arrows rfl)) (fun H6 i s' H' => Kp M' H6 H' ∧ exists r2 f2 o5 o6 o7, s' = S8 v (.int n) (some (.ref p)) (some (.ref d)) (some (.int one)) o5 o6 o7 ∧ H' p = some (.lst (r2.map V.int)) ∧ H' d = some (.dK (foundW f2)) ∧ Srch1 as n one i r2 f2 ∧
          f2.length + rest'.length = found.length + r2.length ∧ found.length ≤ f2.length ∧ forall a o, a ≠ p -> a ≠ d -> B a = some o -> H' a = some o)
        (fun H6 e6 => ⟨Kp.refl _ _, rest', found, o5, o6, o7, rfl, e6 _ _ hp5, e6 _ _ hd5, sr.pop, rfl, Nat.le_refl _, fun a o h1 h2 h => e6 _ _ (keep4 a o h1 h2 h)⟩) (fun H6 i s' H' h => h.1) ?_ ?_
      · rintro H6 i dd y s' H7 H8 e6 hi hdd ⟨kp7, r2', f2, o5, o6, o7, rfl, hp7, hd7, s1, hlen, hle, keep7⟩ e8 ry
        rw [List.length_map] at hi
        obtain ⟨a0, ha0⟩ : exists a0, as[i]? = some a0 := ⟨_, List.getElem?_eq_getElem hi⟩
        rw [List.getElem?_map, ha0] at hdd
        cases hdd
        have ryM := ry (fun _ => False) (Mok.none _) fun b z => z.elim
        obtain ⟨t, xs, et, ht, rxs⟩ := ryM
        obtain ⟨y1, y2, y3, exs, ry1, ry2, ry3⟩ := rxs.three_of
        subst exs et
        refine ⟨t, _, rfl, SqT.of (msk_same _ _ ht), rfl, _, _, rfl, _, _, rfl, _, [], rfl, rfl, ?_⟩
        have hp8 := e8 _ _ hp7
        have hd8 := e8 _ _ hd7
        have b1 := fLen1 s1
        have hrd : Rep (msk (fun _ => False) H8) (.dK (foundK f2)) (.ref d) := ⟨d, foundW f2, rfl, .inl (by rw [msk_at (fun z => z)]; exact hd8), repK_iff.mpr (foundR f2)⟩
        refine st_if (b := decide (a0.1 = one) && !decide (a0.2.2 ∈ f2)) (et_and (et_test (M := fun _ => False) (Ev.to (ev_op (ev_var rfl ry1) (ev_var rfl (show Rep _ (.int one) (V.int one) from rfl)) (rd_eqU rfl rfl)) (congrArg D.bl (eqv_int _ _)))) fun _ => et_test (M := fun _ => False) (Ev.to (ev_op (ev_var rfl ry3) (ev_var rfl hrd) (rd_inDU (c := kcK) (k := .inl a0.2.2) (kvs := foundK f2))) (by rw [found_val] <;> rfl))) (fun hb H9 e9 => ?_) fun hb H9 e9 => ?_
        · rw [Bool.and_eq_true, decide_eq_true_eq] at hb
          have h2 : a0.2.2 ∉ f2 := by simpa using hb.2
          have s2 := s1.add ha0 hb.1 h2
          have f3 : y3 = V.int a0.2.2 := ry3
          subst f3
          have hp9 := e9 _ _ hp8
          have hd9 := e9 _ _ hd8
          refine st_seq (st_dput kcK (M := fun _ => False) (d := .bl true) (k := .inl a0.2.2) rfl hd9 (by unfold foundW; rw [List.length_map, sizeLine_eq]; omega) ev_cbl (ev_var rfl (show Rep _ (.int a0.2.2) (V.int a0.2.2) from rfl)) fun yy H10 e10 ryy => ?_)
          have eyy : yy = V.bl true := ryy
          subst eyy
          dsimp only
          have hp10 : upd H10 d (.dK (putK (foundW f2) (.inl a0.2.2) (.bl true))) p = some (.lst (r2'.map V.int)) := (upd_ne hpd).trans (e10 _ _ hp9)
          refine st_append (M := fun _ => False) (d := .int a0.2.2) rfl hp10 (by rw [List.length_map, sizeLine_eq]; omega) (ev_var rfl (show Rep _ (.int a0.2.2) (V.int a0.2.2) from rfl)) fun yy H11 e11 ryy => ?_
          have eyy : yy = V.int a0.2.2 := ryy
          subst eyy
          have hd11 : H11 d = some (.dK (foundW (f2 ++ [a0.2.2]))) := by
            rw [e11 _ _ upd_same, found_put f2 _ h2]
            rfl
          refine ⟨?_, r2' ++ [a0.2.2], f2 ++ [a0.2.2], _, _, _, rfl, ?_, (upd_ne hpd.symm).trans hd11, s2, ?_, by rw [List.length_append]; omega, fun a o h1 h2 h => (upd_ne h1).trans (e11 _ _ ((upd_ne h2).trans (e10 _ _ (e9 _ _ (e8 _ _ (keep7 a o h1 h2 h))))))⟩
          · have k1 := (kp7.trans (Kp.of (e8.trans (e9.trans e10)))).upd (p := d) (o := .dK (putK (foundW f2) (.inl a0.2.2) (.bl true))) (.inr (.inr rfl)) fun od u z => by rw [e10 _ _ hd9] at z; cases z
            exact (k1.trans (Kp.of e11)).upd (.inr (.inl rfl)) fun od u z => by rw [e11 _ _ hp10] at z; cases z
          · rw [upd_same, List.map_append] <;> rfl
          · rw [List.length_append, List.length_append, List.length_singleton]
            omega
        · refine ⟨kp7.trans (Kp.of (e8.trans e9)), r2', f2, _, _, _, rfl, e9 _ _ hp8, e9 _ _ hd8, s1.skip ha0 fun e => ?_, hlen, hle, fun a o h1 h2 h => e9 _ _ (e8 _ _ (keep7 a o h1 h2 h))⟩
          rw [decide_eq_true e, Bool.true_and] at hb
          simpa using hb
      · rintro H6 s' H7 e6 ⟨kp7, r2', f2, o5, o6, o7, rfl, hp7, hd7, s1, hlen, hle, keep7⟩
        rw [List.length_map] at s1
        have b1 := fLen1 s1
        have b2 := fLen sr
        refine ⟨_, ?_, r2', f2, _, _, _, _, rfl, rfl, hp7, hd7, s1.done, (kp4.trans (Kp.of e6)).trans kp7, keep7⟩
        rw [List.length_append, List.length_singleton]
        omega
  · obtain ⟨cs, as, d, rfl, hf, hn, rfl, rfl⟩ := hX
    obtain ⟨v, v2, rfl, r, r2⟩ := rs.two_of
    exact st_seq (tm_raise (M := M) (C' := T.C_BadName) (gs := ([("name", d)] : List (Str × D))) m (ev_var rfl r) rfl (ea_one (ev_var rfl r2)) ⟨cs, as, d, rfl, hf, hn, rfl, rfl⟩ q)
end

end K01
namespace K01
open PySem PySem.Spec PyProof.Rows L2 Ak
/-! ### a part of a graph -/
def keptF (is : List Int) : List Int := sortI (uniq is)
def idxF (kept : List Int) (i : Int) : Int := (kept.idxOf i : Nat)
def partC (cs : List Str) (kept : List Int) : List Str := kept.map fun i => cs.getD i.toNat ⟨#[]⟩
def partA (as : List Arrow) (kept : List Int) : List Arrow := (as.filter fun a => decide (a.1 ∈ kept) && decide (a.2.2 ∈ kept)).map fun a => (idxF kept a.1, a.2.1, idxF kept a.2.2)
theorem uniq_mem {α : Type} [DecidableEq α] (l : List α) (x : α) : x ∈ uniq l <-> x ∈ l := by
  have go : forall (l acc : List α), (x ∈ l.foldl (fun acc x => if x ∈ acc then acc else acc ++ [x]) acc) <-> x ∈ acc ∨ x ∈ l := by
    intro l
    induction l with
    | nil => intro acc; simp
    | cons y l ih =>
      intro acc
      rw [List.foldl_cons, ih]
      by_cases h : y ∈ acc
      · rw [if_pos h, List.mem_cons]
        constructor
        · rintro (z | z)
          · exact .inl z
          · exact .inr (.inr z)
        · rintro (z | rfl | z)
          · exact .inl z
          · exact .inl h
          · exact .inr z
      · rw [if_neg h, List.mem_append, List.mem_singleton, List.mem_cons, or_assoc]
  have h := go l []
  have e : x ∈ ([] : List α) ∨ x ∈ l <-> x ∈ l := by simp
  exact h.trans e
theorem uniq_nodup {α : Type} [DecidableEq α] (l : List α) : (uniq l).Nodup := by
  have go : forall (l acc : List α), acc.Nodup -> (l.foldl (fun acc x => if x ∈ acc then acc else acc ++ [x]) acc).Nodup := by
    intro l
    induction l with
    | nil => intro acc h; exact h
    | cons y l ih =>
      intro acc h
      rw [List.foldl_cons]
      refine ih _ ?_
      by_cases hy : y ∈ acc
      · rw [if_pos hy]
        exact h
      · rw [if_neg hy]
        exact nd_snoc h hy
  exact go l [] List.nodup_nil
theorem kept_mem (is : List Int) (x : Int) : x ∈ keptF is <-> x ∈ is := ((sortI_perm _).mem_iff).trans (uniq_mem is x)
theorem kept_nodup (is : List Int) : (keptF is).Nodup := (sortI_perm _).symm.nodup (uniq_nodup is)
theorem foldP_nodup {κ : Type} [DecidableEq κ] {l : List (κ × D)} (h : (l.map (·.1)).Nodup) : foldP l = l := by
  have go : forall (l acc : List (κ × D)), (l.map (·.1)).Nodup -> (forall p, p ∈ l -> p.1 ∉ acc.map (·.1)) -> l.foldl (fun kvs p => pD kvs p.1 p.2) acc = acc ++ l := by
    intro l
    induction l with
    | nil => intro acc _ _; rw [List.append_nil] <;> rfl
    | cons p l ih =>
      intro acc hn hd
      rw [List.map_cons, List.nodup_cons] at hn
      have hp : pD acc p.1 p.2 = acc ++ [p] := by
        unfold pD
        rw [if_neg]
        intro z
        obtain ⟨q, hq, e⟩ := List.any_eq_true.mp z
        exact hd p List.mem_cons_self (List.mem_map.mpr ⟨q, hq, of_decide_eq_true e⟩)
      rw [List.foldl_cons, hp, ih _ hn.2 fun q hq => ?_, List.append_assoc] <;> try rfl
      rw [List.map_append]
      intro z
      rcases List.mem_append.mp z with z | z
      · exact hd q (List.mem_cons_of_mem _ hq) z
      · have e : q.1 = p.1 := List.mem_singleton.mp z
        exact hn.1 (List.mem_map.mpr ⟨q, hq, e⟩)
  have h2 := go l [] h fun p _ => by simp
  exact h2
def placesF (kept : List Int) : List (Key × D) := kept.zipIdx.map fun p => (.inl p.1, .int (p.2 : Nat))
theorem places_val (kept : List Int) (i : Int) : vD (placesF kept) (.inl i) = if i ∈ kept then some (.int (idxF kept i)) else none := by
  have go : forall (l : List Int) (k : Nat), vD ((l.zipIdx k).map fun p => ((.inl p.1 : Key), D.int (p.2 : Nat))) (.inl i) = if i ∈ l then some (.int ((k + l.idxOf i : Nat) : Int)) else none := by
    intro l
    induction l with
    | nil => intro k; simp [vD]
    | cons j l ih =>
      intro k
      by_cases e : j = i
      · subst e
        simp [vD, List.zipIdx_cons]
      · have e' : ¬ i = j := fun z => e z.symm
        have h1 : vD (((j :: l).zipIdx k).map fun p => ((.inl p.1 : Key), D.int (p.2 : Nat))) (.inl i) = vD ((l.zipIdx (k + 1)).map fun p => ((.inl p.1 : Key), D.int (p.2 : Nat))) (.inl i) := by simp [vD, List.zipIdx_cons, e]
        rw [h1, ih (k + 1)]
        by_cases hm : i ∈ l
        · rw [if_pos hm, if_pos (List.mem_cons_of_mem _ hm)]
          congr 2
          have : (j :: l).idxOf i = l.idxOf i + 1 := by
            rw [List.idxOf_cons]
            have : (j == i) = false := beq_eq_false_iff_ne.mpr e
            rw [this] <;> rfl
          rw [this]
          omega
        · rw [if_neg hm, if_neg (by simp [e', hm])]
  have h := go kept 0
  simp only [Nat.zero_add] at h
  exact h
theorem places_is (kept : List Int) (i : Int) : (vD (placesF kept) (.inl i)).isSome = decide (i ∈ kept) := by
  rw [places_val]
  by_cases h : i ∈ kept
  · rw [if_pos h, decide_eq_true h] <;> rfl
  · rw [if_neg h, decide_eq_false h] <;> rfl
def partS (as : List Arrow) (kept : List Int) : List Arrow := as.filter fun a => decide (a.1 ∈ kept) && decide (a.2.2 ∈ kept)
def bothIn (kept : List Int) : D -> Option D
  | .tup [.int x, l, .int y] => if (decide (x ∈ kept) && decide (y ∈ kept)) = true then some (.tup [.int x, l, .int y]) else none
  | _ => none
theorem bothIn_all (kept : List Int) (as : List Arrow) : (as.map aD).filterMap (bothIn kept) = (partS as kept).map aD := by
  induction as with
  | nil => rfl
  | cons a as ih =>
    have h1 : bothIn kept (aD a) = if (decide (a.1 ∈ kept) && decide (a.2.2 ∈ kept)) = true then some (aD a) else none := rfl
    unfold partS at ih ⊢
    rw [List.map_cons, List.filterMap_cons, List.filter_cons, h1]
    by_cases h : (decide (a.1 ∈ kept) && decide (a.2.2 ∈ kept)) = true
    · rw [if_pos h, if_pos h, ih] <;> rfl
    · rw [if_neg h, if_neg h, ih]
def colD (cs : List Str) : D -> D
  | .int i => .str (cs.getD i.toNat ⟨#[]⟩)
  | d => d
def placeD (kept : List Int) : D -> D
  | .tup [.int x, l, .int y] => .tup [.int (idxF kept x), l, .int (idxF kept y)]
  | d => d
def nodeKey : D -> Option (Key × D)
  | .int i => some (.inl i, .bl true)
  | _ => none
def placeKey : D -> Option (Key × D)
  | .tup [a, .int i] => some (.inl i, a)
  | _ => none
theorem nodeKey_all (is : List Int) : (is.map D.int).filterMap nodeKey = is.map fun i => (.inl i, .bl true) := by
  induction is with
  | nil => rfl
  | cons i is ih => rw [List.map_cons, List.filterMap_cons_some (f := nodeKey) (a := D.int i) (b := (.inl i, .bl true)) rfl, ih] <;> rfl
theorem placeKey_all (l : List Int) : (enumD (l.map D.int)).filterMap placeKey = placesF l := by
  have go : forall (l : List Int) (k : Nat), (((l.map D.int).zipIdx k).map fun p => D.tup [.int (p.2 : Int), p.1]).filterMap placeKey = (l.zipIdx k).map fun p => (.inl p.1, .int (p.2 : Nat)) := by
    intro l
    induction l with
    | nil => intro k; rfl
    | cons i l ih =>
      intro k
      rw [List.map_cons, List.zipIdx_cons, List.map_cons, List.filterMap_cons_some (f := placeKey) (b := (.inl i, .int (k : Nat))) rfl, ih (k + 1), List.zipIdx_cons, List.map_cons]
  exact go l 0
theorem zipIdx_fst {α : Type} : forall (l : List α) (k : Nat), (l.zipIdx k).map (·.1) = l
  | [], _ => rfl
  | x :: l, k => by rw [List.zipIdx_cons, List.map_cons, zipIdx_fst l (k + 1)]
theorem places_keys (kept : List Int) (h : kept.Nodup) : ((placesF kept).map (·.1)).Nodup := by
  unfold placesF
  rw [List.map_map]
  have e : kept.zipIdx.map ((fun x : Key × D => x.1) ∘ fun p => (.inl p.1, .int (p.2 : Nat))) = kept.map Sum.inl := by
    have h2 := congrArg (List.map (Sum.inl : Int -> Key)) (zipIdx_fst kept 0)
    rw [List.map_map] at h2
    exact h2
  rw [e]
  exact List.Pairwise.map _ (fun a b hab z => hab (Sum.inl.inj z)) h
theorem keptD (is : List Int) : sortD ((foldP (is.map fun i => ((.inl i : Key), D.bl true))).map fun p => kD p.1) = (keptF is).map .int := by
  have h1 := keys_foldP (is.map fun i => ((.inl i : Key), D.bl true))
  have h2 := congrArg (List.map kD) h1
  rw [List.map_map] at h2
  rw [show (fun p : Key × D => kD p.1) = kD ∘ (·.1) from rfl, h2, List.map_map, show ((fun x : Key × D => x.1) ∘ fun i => ((.inl i : Key), D.bl true)) = (Sum.inl : Int -> Key) from rfl, uniq_map (fun a b h => Sum.inl.inj h), List.map_map]
  exact sortD_ints (uniq is)
theorem keptI (is : List Int) : ((foldP (is.map fun i => ((.inl i : Key), D.bl true))).map fun p => kD p.1) = (uniq is).map .int := by
  have h1 := keys_foldP (is.map fun i => ((.inl i : Key), D.bl true))
  have h2 := congrArg (List.map kD) h1
  rw [List.map_map] at h2
  rw [show (fun p : Key × D => kD p.1) = kD ∘ (·.1) from rfl, h2, List.map_map, show ((fun x : Key × D => x.1) ∘ fun i => ((.inl i : Key), D.bl true)) = (Sum.inl : Int -> Key) from rfl, uniq_map (fun a b h => Sum.inl.inj h), List.map_map] <;> rfl
theorem idx_lt {kept : List Int} {i : Int} (h : i ∈ kept) : 0 ≤ idxF kept i ∧ idxF kept i < kept.length := by
  unfold idxF
  have := List.idxOf_lt_length_of_mem h
  omega
theorem ints_le {n : Nat} {l : List Int} (hn : l.Nodup) (h : forall i, i ∈ l -> 0 ≤ i ∧ i < n) : l.length ≤ n := by
  have := nodup_len (l := l) (m := (List.range n).map fun (i : Nat) => (i : Int)) hn fun x hx => by
    obtain ⟨h1, h2⟩ := h x hx
    exact List.mem_map.mpr ⟨x.toNat, List.mem_range.mpr (by omega), by omega⟩
  rw [List.length_map, List.length_range] at this
  exact this
theorem part_ok {cs : List Str} {as : List Arrow} {is : List Int} (h : okG cs as) (hi : forall i, i ∈ is -> 0 ≤ i ∧ i < cs.length) : okG (partC cs (keptF is)) (partA as (keptF is)) := by
  obtain ⟨h1, h2, h3, h4⟩ := h
  have hl : (keptF is).length ≤ cs.length := ints_le (kept_nodup is) fun i hm => hi i ((kept_mem is i).mp hm)
  refine ⟨fun c hc => ?_, fun a ha => ?_, ?_, ?_⟩
  · obtain ⟨i, hm, rfl⟩ := List.mem_map.mp hc
    obtain ⟨b1, b2⟩ := hi i ((kept_mem is i).mp hm)
    have hlt : i.toNat < cs.length := by omega
    rw [List.getD_eq_getElem?_getD, List.getElem?_eq_getElem hlt]
    exact h1 _ (List.getElem_mem hlt)
  · obtain ⟨b, hb, rfl⟩ := List.mem_map.mp ha
    have hb2 := List.mem_filter.mp hb
    rw [Bool.and_eq_true, decide_eq_true_eq, decide_eq_true_eq] at hb2
    have h5 := arr_name (h2 b hb2.1)
    have h6 := idx_lt hb2.2.1
    have h7 := idx_lt hb2.2.2
    unfold partC
    rw [List.length_map]
    exact arr_of h5.1 h6.1 h6.2 h7.1 h7.2
  · unfold partC
    rw [List.length_map]
    omega
  · unfold partA
    rw [List.length_map]
    exact Nat.le_trans (List.length_filter_le _ _) h4
section
variable {P : Program} {w : World} {K : PySem.W.Frag} {mg : Str -> Option Value} {base : Heap}
def R_only (T : Tx K mg) : List D -> D -> Prop := fun ds z => exists (cs : List Str) (as : List Arrow) (nd : D) (is : List Int), ds = [graphD T cs as, nd] ∧ okG cs as ∧ nd.fi = true ∧ nd.its = some (is.map .int) ∧ (forall i, i ∈ is -> 0 ≤ i ∧ i < cs.length) ∧ z = graphD T (partC cs (keptF is)) (sortA (partA as (keptF is)))
def X_only (T : Tx K mg) : List D -> Addr -> List (Str × D) -> Prop := fun ds C fs => exists (cs : List Str) (as : List Arrow) (nd : D) (ns : List D) (i : Nat) (d : D), ds = [graphD T cs as, nd] ∧ nd.fi = true ∧ nd.its = some ns ∧ ns[i]? = some d ∧ nodeIn d cs.length = false ∧ (forall j e, j < i -> ns[j]? = some e -> nodeIn e cs.length = true) ∧ C = T.C_BadName ∧ fs = ([("name", d)] : List (Str × D))
abbrev So (a b : V) (o2 o3 o4 o5 o6 o7 o8 o9 o10 : Option V) : L2.St := [some a, some b, o2, o3, o4, o5, o6, o7, o8, o9, o10]
theorem ok_Graph_only (T : Tx K mg) : FnOk P w K mg base (L2.CX P w) 5 T.f_Graph_only T.d_Graph_only ["self", "nodes"] (SpE (R_only T) (X_only T)) := by
  refine T.F_Graph_only.ok sc_Graph_only (fun _ _ _ _ h => SpE.len (n := 2) (fun ds z ⟨cs, as, n, F, e, _⟩ => by rw [e] <;> rfl) (fun ds C z ⟨cs, as, n, _, _, _, e, _⟩ => by rw [e] <;> rfl) h) (fun cdv A outer s H vs Q E hr h => ⟨_, (pss_cons (ps_for PassesOwn.leaving rfl (pi_any (pv 1)) (pg_name (i := 2) sc_Graph_only.nd rfl (.inl rfl))
      (pss_one (ps_expr (pe_meth (pv 0) T.cls_Graph T.m_Graph_check (ok_Graph_check T) (hr.mono (by decide)) T.B_Graph_check .nil (passes_call (takes_of rfl rfl rfl rfl) (fun _ _ _ _ h => h)) (pa_cons (pv 2) pa_nil)))))
      (pss_cons (ps_set (i := 3) sc_Graph_only.nd rfl (.inl rfl) (pe_callB (call_sortU rfl hr.units) rfl T.n_sorted PyProof.Rows.boot_sorted (by exact (pa_cons (pe_dcU (.dK []) (.inl rfl) (hu_of hr) (own := [("node", 2)]) (g := (gName 2)) (tt := tYes) (tk := (tVar 2)) (tv := (tC (.bl true))) rfl sc_Graph_only.nd (pi_any (pv 1)) (blkOk_by (own := [("node", 2)]) (N := ["self", "nodes", "node", "kept", "places", "at", "some", "arrow", "colours", "label", "end"]) (sc := (defScope s_Graph_only)) (by decide +kernel)) (fun _ _ _ _ _ => by exact (pg_name (i := 2) sc_Graph_only.nd rfl (.inl rfl))) (fun _ _ _ _ _ => by exact pts_nil) (fun _ _ _ _ _ => by exact (pv 2)) (fun _ _ _ _ _ => by exact pe_bl)) pa_nil))))
      (pss_cons (ps_set (i := 4) sc_Graph_only.nd rfl (.inr rfl) (pe_dcU (.dK []) (.inl rfl) (hu_of hr) (own := [("at", 5), ("node", 2)]) (g := (gTup K 2 (gCons (gName 5) (gCons (gName 2) gNil)))) (tt := tYes) (tk := (tVar 2)) (tv := (tVar 5)) rfl sc_Graph_only.nd (pi_enumU rfl T.n_enumerate (pa_cons (pv 3) pa_nil)) (blkOk_by (own := [("at", 5), ("node", 2)]) (N := ["self", "nodes", "node", "kept", "places", "at", "some", "arrow", "colours", "label", "end"]) (sc := (defScope s_Graph_only)) (by decide +kernel)) (fun _ _ _ _ _ => by exact (pg_tup rfl (pgs_cons (pg_name (i := 5) sc_Graph_only.nd rfl (.inl rfl)) (pgs_cons (pg_name (i := 2) sc_Graph_only.nd rfl (.inl rfl)) pgs_nil)))) (fun _ _ _ _ _ => by exact pts_nil) (fun _ _ _ _ _ => by exact (pv 2)) (fun _ _ _ _ _ => by exact (pv 5))))
      (pss_cons (ps_setLc (i := 6) (own := [("arrow", 7)]) (g := (gName 7)) (tt := (tAnd (tTest (tOp (rInU false) (tOp (rIx K) (tVar 7) (tC (.int 0))) (tVar 4))) (tTest (tOp (rInU false) (tOp (rIx K) (tVar 7) (tC (.int 2))) (tVar 4))))) (te := (tVar 7)) rfl sc_Graph_only.nd rfl rfl (sw_true rfl rfl rfl (by decide +kernel)) (pi_any (pe_fld (pv 0) rfl)) (blkOk_by (own := [("arrow", 7)]) (N := ["self", "nodes", "node", "kept", "places", "at", "some", "arrow", "colours", "label", "end"]) (sc := (defScope s_Graph_only)) (by decide +kernel)) (fun _ _ _ _ _ => by exact (pg_name (i := 7) sc_Graph_only.nd rfl (.inl rfl))) (fun _ _ _ _ _ => by exact (pts_one (PW.pt (pw_and (pt_cmpR (op_inU hr.units) (pe_ix ix_seq (pv 7) pe_int (fun _ _ => rfl)) (pv 4) (by with_unfolding_all rfl)) (pw_and1 (pt_cmpR (op_inU hr.units) (pe_ix ix_seq (pv 7) pe_int (fun _ _ => rfl)) (pv 4) (by with_unfolding_all rfl))))))) (fun _ _ _ _ _ => by exact (pv 7)))
      (pss_cons (ps_setLc (i := 8) (own := [("node", 2)]) (g := (gName 2)) (tt := tYes) (te := (tOp (rIx K) (tFld K (tVar 0) "colours") (tVar 2))) rfl sc_Graph_only.nd rfl rfl (sw_true rfl rfl rfl (by decide +kernel)) (pi_any (pv 3)) (blkOk_by (own := [("node", 2)]) (N := ["self", "nodes", "node", "kept", "places", "at", "some", "arrow", "colours", "label", "end"]) (sc := (defScope s_Graph_only)) (by decide +kernel)) (fun _ _ _ _ _ => by exact (pg_name (i := 2) sc_Graph_only.nd rfl (.inl rfl))) (fun _ _ _ _ _ => by exact pts_nil) (fun _ _ _ _ _ => by exact (pe_ix ix_seq (pe_fld (pv 0) rfl) (pv 2) (fun _ _ => rfl))))
      (pss_one (ps_ret (pe_make T.mk_Graph (ok_Graph_init T) (hr.mono (by decide)) rfl T.g_Graph T.B_Graph_init .nil (passes_call (takes_of rfl rfl rfl rfl) (fun _ _ _ _ h => h)) (pa_cons (pv 8) (pa_cons (pe_lc (own := [("node", 2), ("label", 9), ("end", 10)]) (g := (gTup K 3 (gCons (gName 2) (gCons (gName 9) (gCons (gName 10) gNil))))) (tt := tYes) (te := (tTup (tCons (tDGet (tVar 4) (tVar 2)) (tCons (tVar 9) (tCons (tDGet (tVar 4) (tVar 10)) tNil))))) rfl sc_Graph_only.nd (pi_any (pv 6)) (blkOk_by (own := [("node", 2), ("label", 9), ("end", 10)]) (N := ["self", "nodes", "node", "kept", "places", "at", "some", "arrow", "colours", "label", "end"]) (sc := (defScope s_Graph_only)) (by decide +kernel)) (fun _ _ _ _ _ => by exact (pg_tup rfl (pgs_cons (pg_name (i := 2) sc_Graph_only.nd rfl (.inl rfl)) (pgs_cons (pg_name (i := 9) sc_Graph_only.nd rfl (.inl rfl)) (pgs_cons (pg_name (i := 10) sc_Graph_only.nd rfl (.inl rfl)) pgs_nil))))) (fun _ _ _ _ _ => by exact pts_nil) (fun _ _ _ _ _ => by exact (pe_tup (pa_cons (pe_dget (hu_of hr) (pv 4) (pv 2) (fun _ _ => rfl)) (pa_cons (pv 9) (pa_cons (pe_dget (hu_of hr) (pv 4) (pv 10) (fun _ _ => rfl)) pa_nil)))))) pa_nil)))))))))), ?_⟩)
  obtain ⟨M, ds, m, rs, ⟨z, ⟨cs, as, nd, is, rfl, ok, fn, hn, hi, rfl⟩, q⟩ | ⟨C, fs, ⟨cs, as, nd, ns, i0, d0, rfl, fn, hn, hi0, hbad, hgood, rfl, rfl⟩, q⟩⟩ := h
  · obtain ⟨v, v2, rfl, r, r2⟩ := rs.two_of
    obtain ⟨kn, ln, fns⟩ := its_cases fn hn
    rw [List.length_map] at ln
    refine st_seq (st_for (M := M) m (ia_seq (ev_var rfl r2) kn) (fun H3 i s' H' => Same H3 H' ∧ exists o2, s' = So v v2 o2 none none none none none none none none) (fun H3 e3 => ⟨Same.refl _, none, rfl⟩) (fun H3 i s' H' h => Kp.of h.1) ?_ ?_)
    · rintro H3 i d y s' H' H'' e3 hil hd ⟨e4, o2, rfl⟩ e5 ry
      rw [List.getElem?_map] at hd
      obtain ⟨j, hj, rfl⟩ := Option.map_eq_some_iff.mp hd
      have eA := (e3.trans e4).trans e5
      have ryM := ry M (m.up (e3.trans e4)) fun b z => .inl z
      obtain ⟨b1, b2⟩ := hi j (List.mem_of_getElem? hj)
      refine ev_methE (M := M) (d := .non) (m.up eA) (ev_var rfl (r.up (msk_mono eA))) rfl (ea_one (ev_var rfl ryM)) ⟨cs, as, _, rfl, rfl, ?_, rfl⟩ H'' (Same.refl _) _ fun y2 H4 e6 _ => ⟨(e4.trans e5).trans e6, some y, rfl⟩
      show (decide (0 ≤ j) && decide (j < (cs.length : Int))) = true
      rw [decide_eq_true b1, decide_eq_true b2] <;> rfl
    rintro H3 s' H4 e3 ⟨e4, o2, rfl⟩
    dsimp only
    have eB := e3.trans e4
    have mB := m.up eB
    have rB := r.up (msk_mono (M := M) eB)
    have r2B := r2.up (msk_mono (M := M) eB)
    -- kept
    refine st_seq (st_set (P := fun y G => Rep G (.lst ((keptF is).map .int)) y) (Ev.to (ev_sort (ds := (uniq is).map .int) mB (ea_one (ev_dc (c := kcK) (ds := is.map .int) nodeKey mB (ia_seq (ev_var rfl r2B) kn) (by rw [List.length_map]; omega) fun N H5 d y mN eN hd rd => ?_)) ?_ (canSort_ints _)) ?_) fun yk H5 e5 rk => ?_)
    · obtain ⟨i, _, rfl⟩ := List.mem_map.mp hd
      exact eltp_of (c := kcK) (o := some (.inl i, .bl true)) (s2 := (wipe (So v v2 o2 none none none none none none none none) [2]).set 2 (some y)) (fun Q q => q) rfl et_yes (fun _ => ⟨.inl i, .bl true, rfl, ev_var rfl rd, ev_cbl⟩) fun z => nomatch z
    · show some _ = some _
      rw [nodeKey_all, keptI]
    · rw [sortD_ints] <;> rfl
    dsimp only
    have mC := mB.up e5
    have rC := rB.up (msk_mono (M := M) e5)
    have klen : (keptF is).length ≤ 1000 := by
      have h1 : (keptF is).length ≤ cs.length := ints_le (kept_nodup is) fun i hm => hi i ((kept_mem is i).mp hm)
      have h2 := ok.2.2.1
      omega
    -- places
    refine st_seq (st_set (P := fun y G => Rep G (.dK (placesF (keptF is))) y) (Ev.to (ev_dc (c := kcK) (ds := enumD ((keptF is).map .int)) placeKey mC (ei_enumU (ea_one (ev_var rfl rk)) (.inl rfl)) (by rw [enumD_len, List.length_map]; omega) fun N H6 d y mN eN hd rd => ?_) ?_) fun yp H6 e6 rp => ?_)
    · unfold enumD at hd
      obtain ⟨⟨d1, j⟩, hd1, rfl⟩ := List.mem_map.mp hd
      have hm : d1 ∈ (keptF is).map .int := by
        have h0 : d1 ∈ (((keptF is).map D.int).zipIdx 0).map (·.1) := List.mem_map.mpr ⟨(d1, j), hd1, rfl⟩
        rw [zipIdx_fst] at h0
        exact h0
      obtain ⟨i, _, rfl⟩ := List.mem_map.mp hm
      obtain ⟨t, xs, et, ht, rxs⟩ := rd
      obtain ⟨y1, y2, exs, ry1, ry2⟩ := rxs.two_of
      subst exs et
      exact eltp_of (c := kcK) (o := some (.inl i, .int (j : Nat))) (s2 := ((wipe (So v v2 o2 (some yk) none none none none none none none) [5, 2]).set 5 (some y1)).set 2 (some y2)) (fun Q q => ⟨t, _, rfl, SqT.of (msk_same _ _ ht), rfl, _, _, rfl, _, [], rfl, rfl, q⟩) rfl et_yes (fun _ => ⟨.inl i, .int (j : Nat), rfl, ev_var rfl ry2, ev_var rfl ry1⟩) fun z => nomatch z
    · show D.dK _ = .dK _
      rw [placeKey_all, foldP_nodup (places_keys _ (kept_nodup is))]
    dsimp only
    have mD := mC.up e6
    have rD := rC.up (msk_mono (M := M) e6)
    have rkD := Rep.up rk (msk_mono (M := M) e6)
    have ala : as.length ≤ 10000 := ok.2.2.2
    -- some
    refine st_seq (st_set (P := fun y G => Rep G (.lst ((partS as (keptF is)).map aD)) y) (Ev.to (ev_lc (ds := as.map aD) (bothIn (keptF is)) mD (ia_tup (ev_fld (ev_var rfl rD) T.cls_Graph T.na_Graph_arrows rfl)) (by rw [List.length_map]; omega) fun N H7 d y mN eN hd rd => ?_) ?_) fun ys H7 e7 rs7 => ?_)
    · obtain ⟨a, _, rfl⟩ := List.mem_map.mp hd
      have rp7 := Rep.up rp eN
      refine elt_of (b := decide (a.1 ∈ keptF is) && decide (a.2.2 ∈ keptF is)) (s2 := (wipe (So v v2 o2 (some yk) (some yp) none none none none none none) [7]).set 7 (some y)) (fun Q q => q) rfl
        (et_and (et_test (M := N) (Ev.to (ev_op (ev_op (ev_var rfl rd) ev_int (rd_ixT (z := .int a.1) rfl)) (ev_var rfl rp7) (rd_inDU (c := kcK) (k := .inl a.1) (kvs := placesF (keptF is)))) (by rw [places_is] <;> rfl)))
          fun _ => et_test (M := N) (Ev.to (ev_op (ev_op (ev_var rfl rd) ev_int (rd_ixT (z := .int a.2.2) rfl)) (ev_var rfl rp7) (rd_inDU (c := kcK) (k := .inl a.2.2) (kvs := placesF (keptF is)))) (by rw [places_is] <;> rfl))) (fun h => ⟨aD a, ?_, ev_var rfl rd⟩) fun h => ?_
      · show (if (decide (a.1 ∈ keptF is) && decide (a.2.2 ∈ keptF is)) = true then some (aD a) else none) = _
        rw [if_pos h]
      · show (if _ then _ else _) = _
        rw [if_neg (by rw [h]; exact Bool.false_ne_true)]
    · rw [bothIn_all]
    dsimp only
    have mE := mD.up e7
    have rE := rD.up (msk_mono (M := M) e7)
    have rkE := rkD.up (msk_mono (M := M) e7)
    have rpE := Rep.up rp (msk_mono (M := M) e7)
    -- colours
    refine st_seq (st_set (P := fun y G => Rep G (.lst ((partC cs (keptF is)).map .str)) y) (Ev.to (ev_lcm (ds := (keptF is).map .int) (colD cs) mE (ia_list (ev_var rfl rkE)) (by rw [List.length_map]; omega) fun N H8 d y mN eN hd rd => ?_) ?_) fun yc H8 e8 rc8 => ?_)
    · obtain ⟨i, hm, rfl⟩ := List.mem_map.mp hd
      obtain ⟨b1, b2⟩ := hi i ((kept_mem is i).mp hm)
      refine elt_all (s2 := (wipe (So v v2 o2 (some yk) (some yp) none (some ys) none none none none) [2]).set 2 (some y)) (fun Q q => q) rfl ?_
      refine ev_op (ev_fld (ev_var rfl (Rep.up rE eN)) T.cls_Graph T.na_Graph_colours rfl) (ev_var rfl rd) (rd_ixT ?_)
      have hlt : i.toNat < cs.length := by omega
      have e : i = ((i.toNat : Nat) : Int) := by omega
      have h2 : (cs.map D.str)[i.toNat]? = some (.str (cs.getD i.toNat ⟨#[]⟩)) := by
        rw [List.getElem?_map, List.getD_eq_getElem?_getD, List.getElem?_eq_getElem hlt] <;> rfl
      have h3 := atI_nat h2
      rw [← e] at h3
      exact h3
    · unfold partC
      rw [List.map_map, List.map_map] <;> rfl
    dsimp only
    have mF := mE.up e8
    have rF := rE.up (msk_mono (M := M) e8)
    have rpF := Rep.up rpE (msk_mono (M := M) e8)
    have rsF := Rep.up rs7 (msk_mono (M := M) e8)
    have okP := part_ok ok hi
    have plen : (partS as (keptF is)).length ≤ 10000 := Nat.le_trans (List.length_filter_le _ _) ala
    refine st_ret (M := M) (ev_make (C := T.C_Graph) (R := R_init) (X := X_init T) mF (ea_cons (ev_var rfl rc8) (ea_one (ev_lcm (ds := (partS as (keptF is)).map aD) (placeD (keptF is)) mF (ia_list (ev_var rfl rsF)) (by rw [List.length_map]; omega) fun N H9 d y mN eN hd rd => ?_))) (okG_init okP (.inl rfl) (.inl ?_))) fun y H9 e9 ry => q y H9 (((((eB.trans e5).trans e6).trans e7).trans e8).trans e9) ry
    · obtain ⟨a, ha, rfl⟩ := List.mem_map.mp hd
      have hb := (List.mem_filter.mp ha).2
      rw [Bool.and_eq_true, decide_eq_true_eq, decide_eq_true_eq] at hb
      obtain ⟨t, xs, et, ht, rxs⟩ := rd
      obtain ⟨y1, y2, y3, exs, ry1, ry2, ry3⟩ := rxs.three_of
      subst exs et
      have rp9 := Rep.up rpF eN
      refine elt_all (s2 := (((wipe (So v v2 o2 (some yk) (some yp) none (some ys) none (some yc) none none) [2, 9, 10]).set 2 (some y1)).set 9 (some y2)).set 10 (some y3)) (fun Q q => ⟨t, _, rfl, SqT.of (msk_same _ _ ht), rfl, _, _, rfl, _, _, rfl, _, [], rfl, rfl, q⟩) rfl ?_
      exact ev_tup mN (ea_cons (ev_dget (c := kcK) (k := .inl a.1) (ev_var rfl rp9) (ev_var rfl ry1) (by rw [places_val, if_pos hb.1])) (ea_cons (ev_var rfl ry2) (ea_one (ev_dget (c := kcK) (k := .inl a.2.2) (ev_var rfl rp9) (ev_var rfl ry3) (by rw [places_val, if_pos hb.2])))))
    · unfold partA partS
      rw [List.map_map, List.map_map] <;> rfl
  · obtain ⟨v, v2, rfl, r, r2⟩ := rs.two_of
    obtain ⟨kn, ln, fns⟩ := its_cases fn hn
    have hil0 : i0 < ns.length := (List.getElem?_eq_some_iff.mp hi0).1
    refine st_seq (st_for (M := M) m (ia_seq (ev_var rfl r2) kn) (fun H3 i s' H' => Same H3 H' ∧ i ≤ i0 ∧ exists o2, s' = So v v2 o2 none none none none none none none none) (fun H3 e3 => ⟨Same.refl _, Nat.zero_le _, none, rfl⟩) (fun H3 i s' H' h => Kp.of h.1) ?_ ?_)
    · rintro H3 i d y s' H' H'' e3 hil hd ⟨e4, hle, o2, rfl⟩ e5 ry
      have eA := (e3.trans e4).trans e5
      have ryM := ry M (m.up (e3.trans e4)) fun b z => .inl z
      have fd := fns d (List.mem_of_getElem? hd)
      rcases Nat.lt_or_eq_of_le hle with hlt | rfl
      · exact ev_methE (M := M) (d := .non) (m.up eA) (ev_var rfl (r.up (msk_mono eA))) rfl (ea_one (ev_var rfl ryM)) ⟨cs, as, _, rfl, fd, hgood i d hlt hd, rfl⟩ H'' (Same.refl _) _ fun y2 H4 e6 _ => ⟨(e4.trans e5).trans e6, hlt, some y, rfl⟩
      · rw [hi0] at hd
        cases hd
        exact tm_raise (M := M) (C' := T.C_BadName) (gs := ([("name", d0)] : List (Str × D))) (m.up eA) (ev_var rfl (r.up (msk_mono eA))) rfl (ea_one (ev_var rfl ryM)) ⟨cs, as, d0, rfl, fd, hbad, rfl, rfl⟩ fun dy ws H4 e6 hn' hy rf => q dy ws H4 (eA.trans e6) (eA.free hn') hy rf
    · rintro H3 s' H4 e3 ⟨e4, hle, _⟩
      exact absurd hle (by omega)
end

end K01
namespace K01
open PySem PySem.Spec PyProof.Rows L2 Ak
/-! ### the law draws -/
section
variable {P : Program} {w : World} {K : PySem.W.Frag} {mg : Str -> Option Value} {base : Heap}
def SpN (K : PySem.W.Frag) : Sp := fun vs H Q _ => exists (a : Addr) (ns : List Int) (i : Int), vs = [.ref a, .int i] ∧ SqL K H a (ns.map V.int) ∧ ns.length ≤ 1000 ∧ 0 ≤ i ∧ forall r H', Same H H' -> 0 ≤ r -> Q (.int r) H'
theorem ok__law_number (T : Tx K mg) : FnOk P w K mg base (L2.CX P w) 1 T.f__law_number T.d__law_number ["script", "index"] (SpN K) := by
  refine T.F__law_number.ok sc__law_number (fun vs _ _ _ ⟨a, ns, i, e, _⟩ => by rw [e] <;> rfl) (fun cdv A outer s H vs Q E hr h => ⟨_, (pss_cons (ps_asg (pe_ifExp (pt_cmpR (op_neD hr.units) (pv 0) (pe_lst pa_nil) (nomark _)) (pe_tup (pa_cons (pe_ix ix_seq (pv 0) (pe_op op_mod (pv 1) (pe_callB call_lenU rfl T.n_len PySem.boot_len (by exact (pa_cons (pv 0) pa_nil)))) (fun _ _ => rfl)) (pa_cons (pe_op op_fdivW (pv 1) (pe_callB call_lenU rfl T.n_len PySem.boot_len (by exact (pa_cons (pv 0) pa_nil)))) pa_nil))) (pe_tup (pa_cons pe_int (pa_cons pe_int pa_nil)))) (pg_tup rfl (pgs_cons (pg_name (i := 2) sc__law_number.nd rfl (.inl rfl)) (pgs_cons (pg_name (i := 3) sc__law_number.nd rfl (.inl rfl)) pgs_nil))))
      (pss_cons (ps_set (i := 4) sc__law_number.nd rfl (.inl rfl) (pe_ifExp (pt_cmpR op_lt (pv 3) pe_int (nomark _)) (pe_op op_sub (pv 2) (pe_op op_pow pe_int pe_int)) pe_int))
      (pss_cons (ps_for PassesOwn.leaving rfl (pi_range1 rfl T.n_range (pa_cons (pe_op op_mod (pe_callTy call_int1 rfl T.n_int (by decide +kernel) (by exact (pa_cons (pv 3) pa_nil))) pe_int) pa_nil)) (pg_name (i := 5) sc__law_number.nd rfl (.inl rfl))
      (pss_one (ps_set (i := 4) sc__law_number.nd rfl (.inl rfl) (pe_op op_fdivW (pv 4) pe_int))))
      (pss_cons (ps_if (pt_cmpR op_gt (pv 4) pe_int (nomark _)) (pss_one (ps_ret (pe_op op_mod (pe_callTy call_int1 rfl T.n_int (by decide +kernel) (by exact (pa_cons (pv 4) pa_nil))) pe_int))) pss_nil)
      (pss_cons (ps_set (i := 6) sc__law_number.nd rfl (.inl rfl) (pe_op op_mod (pe_op op_addU (pe_op op_mulX (pe_callTy call_int1 rfl T.n_int (by decide +kernel) (by exact (pa_cons (pe_op op_addU (pv 2) (pe_op op_mulX pe_int (pv 1))) pa_nil))) pe_int) (pe_op op_mulX pe_int (pe_callB call_lenU rfl T.n_len PySem.boot_len (by exact (pa_cons (pv 0) pa_nil))))) pe_int))
      (pss_cons (ps_set (i := 6) sc__law_number.nd rfl (.inl rfl) (pe_op op_mod (pe_op op_addU (pe_op op_mulX (pv 6) (pv 6)) (pe_op op_mulX pe_int (pv 1))) pe_int))
      (pss_one (ps_ret (pe_callTy call_int1 rfl T.n_int (by decide +kernel) (by exact (pa_cons (pe_op op_mod (pe_op op_addU (pe_op op_mulX (pv 6) pe_int) (pe_op op_fdivW (pv 6) pe_int)) pe_int) pa_nil))))))))))), ?_⟩)
  obtain ⟨a, ns, i, rfl, hs, hn, hi, q⟩ := h
  let M0 : MK := fun _ => False
  have m0 : forall H : Hp, Mok M0 H := Mok.none
  have first : exists c t : Int, 0 ≤ t ∧ EvD M0 (tIf (tTest (tOp (rNeD K) (tVar 0) (tLst tNil))) (tTup (tCons (tOp (rIx K) (tVar 0) (tOp (rI (fun _ j => 0 < j) fun i j => .int (i % j)) (tVar 1) (tCB (rLenU K) (tCons (tVar 0) tNil)))) (tCons (tOp (rI CDivW fun i j => .int (i / j)) (tVar 1) (tCB (rLenU K) (tCons (tVar 0) tNil))) tNil))) (tTup (tCons (tC (.int 12345)) (tCons (tC (.int 0)) tNil)))) (L2.start ["script", "index", "cell", "turn", "rest", "step", "blend"] [.ref a, .int i]) H (.tup [.int c, .int t]) := by
    by_cases hn0 : ns = []
    · exact ⟨12345, 0, Int.le_refl _, ev_ifE (et_scr rfl hs) (fun h => by rw [decide_eq_true hn0] at h; cases h) fun _ => ev_tup (m0 _) (ea_cons ev_int (ea_one ev_int))⟩
    · have hl : 0 < ns.length := List.length_pos_iff.mpr hn0
      have hb1 : 0 ≤ i % (ns.length : Int) := Int.emod_nonneg _ (by omega)
      have hb2 : i % (ns.length : Int) < ns.length := Int.emod_lt_of_pos _ (by omega)
      have hlt : (i % (ns.length : Int)).toNat < ns.length := by omega
      have hat : atI ns (i % (ns.length : Int)) = some ns[(i % (ns.length : Int)).toNat] := by
        have h := atI_nat (List.getElem?_eq_getElem hlt)
        rw [show (((i % (ns.length : Int)).toNat : Nat) : Int) = i % (ns.length : Int) by omega] at h
        exact h
      refine ⟨ns[(i % (ns.length : Int)).toNat], i / (ns.length : Int), Int.ediv_nonneg hi (by omega), ev_ifE (et_scr rfl hs) (fun _ => ev_tup (m0 _) (ea_cons (ev_scrix rfl hs (ev_op (d := .int i) (ev_var rfl rfl) (ev_scrlen rfl hs) (rd_mod (by omega))) hat) (ea_one (ev_op (d := .int i) (ev_var rfl rfl) (ev_scrlen rfl hs) (rd_fdiv ?_))))) fun h => by rw [decide_eq_false hn0] at h; cases h⟩
      exact wide_div (b := 11) (by omega) (by omega) (by omega) (by omega)
  obtain ⟨c, t, ht, first⟩ := first
  refine st_seq (first H (Same.refl H) _ fun v H2 e2 r => ?_)
  obtain ⟨tp, xs, et, htp, rxs⟩ := r
  obtain ⟨y1, y2, exs, ry1, ry2⟩ := rxs.two_of
  have f1 : y1 = V.int c := ry1
  have f2 : y2 = V.int t := ry2
  subst exs et f1 f2
  refine ⟨tp, _, rfl, SqT.of (msk_same _ _ htp), rfl, _, _, rfl, _, [], rfl, rfl, ?_⟩
  dsimp only
  have iv : forall {i : Int} {G : Hp}, Rep G (.int i) (V.int i) := rfl
  -- rest
  refine st_seq (st_set (M := M0) (P := fun y G => exists r0 : Int, y = V.int r0) (ev_ifE (b := decide (t < 60)) (et_test (M := M0) (ev_op (d := .int t) (ev_var rfl iv) ev_int rd_lt)) (fun _ => Ev.imp (ev_op (d := .int c) (ev_var rfl iv) (ev_op ev_int ev_int (rd_pow ⟨by decide, by decide, by decide⟩)) rd_sub) fun y G z => ⟨_, z⟩) fun _ => Ev.imp ev_int fun y G z => ⟨_, z⟩) fun y H3 e3 ⟨r0, ey⟩ => ?_)
  subst ey
  dsimp only
  -- the loop
  refine st_seq (st_for (M := M0) (m0 _) (ei_rng1 (j := t % 60) (ea_one (ev_op (ev_int1 (ea_one (ev_var (d := .int t) rfl iv))) ev_int (rd_mod (by decide)))) (by have := Int.emod_nonneg t (b := 60) (by decide); omega) (by have := Int.emod_lt_of_pos t (b := 60) (by decide); omega))
    (fun H4 i' s' H' => Same H4 H' ∧ exists (r1 : Int) (o5 : Option V), s' = [some (.ref a), some (.int i), some (.int c), some (.int t), some (.int r1), o5, none]) (fun H4 e4 => ⟨Same.refl _, r0, none, rfl⟩) (fun H4 i' s' H' h => Kp.of h.1) ?_ ?_)
  · rintro H4 i' d y s' H' H'' e4 hil hd ⟨e5, r1, o5, rfl⟩ e6 ry
    exact st_set (M := M0) (P := fun y G => Rep G (.int (r1 / 1009)) y) (ev_op (d := .int r1) (ev_var rfl iv) ev_int (rd_fdiv (wide_div (b := 11) (by decide) (by decide) (by decide) (by decide)))) fun y2 H5 e7 r7 => ⟨(e5.trans e6).trans e7, r1 / 1009, some y, by rw [show y2 = V.int (r1 / 1009) from r7] <;> rfl⟩
  rintro H4 s' H5 e4 ⟨e5, r1, o5, rfl⟩
  dsimp only
  have eA := e2.trans (e3.trans (e4.trans e5))
  refine st_seq (st_if (b := decide (0 < r1)) (et_test (M := M0) (ev_op (d := .int r1) (ev_var rfl iv) ev_int rd_gt)) (fun _ H6 e6 => st_ret (M := M0) (ev_op (ev_int1 (ea_one (ev_var (d := .int r1) rfl iv))) ev_int (rd_mod (by decide))) fun y H7 e7 ry => ?_) fun _ H6 e6 => ?_)
  · rw [show y = V.int (r1 % 1009) from ry]
    exact q _ H7 (eA.trans (e6.trans e7)) (Int.emod_nonneg _ (by decide))
  dsimp only
  have sm : forall n : Int, CMul n 48271 := fun n => .inr ⟨by decide, by decide⟩
  refine st_seq (st_set (M := M0) (P := fun y G => Rep G (.int (((c + 977 * i) * 48271 + 31 * (ns.length : Int)) % 2147483647)) y) (ev_op (ev_op (ev_op (ev_int1 (ea_one (ev_op (ev_var (d := .int c) rfl iv) (ev_op ev_int (ev_var (d := .int i) rfl iv) (rd_mulC (.inl ⟨by decide, by decide⟩))) rd_addI))) ev_int (rd_mulC (sm _))) (ev_op ev_int (ev_scrlen rfl (hs.same (eA.trans e6))) (rd_mulC (.inl ⟨by decide, by decide⟩))) rd_addI) ev_int (rd_mod (by decide))) fun y H7 e7 ry => ?_)
  generalize hb : ((c + 977 * i) * 48271 + 31 * (ns.length : Int)) % 2147483647 = b1 at ry
  have hb1 : 0 ≤ b1 ∧ b1 < 2147483647 := by
    rw [← hb]
    exact ⟨Int.emod_nonneg _ (by decide), Int.emod_lt_of_pos _ (by decide)⟩
  have ey : y = V.int b1 := ry
  subst ey
  dsimp only
  refine st_seq (st_set (M := M0) (P := fun y G => Rep G (.int ((b1 * b1 + 40503 * i) % 2147483629)) y) (ev_op (ev_op (ev_op (ev_var (d := .int b1) rfl iv) (ev_var (d := .int b1) rfl iv) (rd_mulC (.inl ⟨by omega, by omega⟩))) (ev_op ev_int (ev_var (d := .int i) rfl iv) (rd_mulC (.inl ⟨by decide, by decide⟩))) rd_addI) ev_int (rd_mod (by decide))) fun y H8 e8 ry2' => ?_)
  generalize hb3 : (b1 * b1 + 40503 * i) % 2147483629 = b2 at ry2'
  have hb2 : 0 ≤ b2 ∧ b2 < 2147483629 := by
    rw [← hb3]
    exact ⟨Int.emod_nonneg _ (by decide), Int.emod_lt_of_pos _ (by decide)⟩
  have ey : y = V.int b2 := ry2'
  subst ey
  dsimp only
  refine st_ret (M := M0) (ev_int1 (ea_one (ev_op (ev_op (ev_op (ev_var (d := .int b2) rfl iv) ev_int (rd_mulC (.inr ⟨by decide, by decide⟩))) (ev_op (ev_var (d := .int b2) rfl iv) ev_int (rd_fdiv (wide_div (b := 11) (by decide) (by decide) (by decide) (by decide)))) rd_addI) ev_int (rd_mod (by decide))))) fun y H9 e9 ry => ?_
  rw [show y = V.int _ from ry]
  exact q _ H9 (eA.trans (e6.trans (e7.trans (e8.trans e9)))) (Int.emod_nonneg _ (by decide))
/-! ### take, pick -/
def preTake : List D -> Prop := fun ds => exists n : Int, ds = [.int n] ∧ 0 < n
def RTake : List D -> D -> Prop := fun ds d => exists n r : Int, ds = [.int n] ∧ 0 ≤ r ∧ r < n ∧ d = .int r
abbrev SpTake (K : PySem.W.Frag) : Sp := SpDr K preTake RTake
theorem ok__law_take (T : Tx K mg) : FnOk P w K mg base (L2.CX P w) 2 T.f__law_take T.d__law_take ["draw", "many"] (SpTake K) := by
  refine T.F__law_take.ok sc__law_take (fun _ _ _ _ h => SpDr.len (n := 1) (fun ds ⟨n, e, _⟩ => by rw [e] <;> rfl) h) (fun cdv A outer s H vs Q E hr h => ⟨_, (pss_cons (ps_augS (pv 0) pe_int pget_list pe_int ip_add set_list)
      (pss_one (ps_ret (pe_op op_mod (pe_callTy call_int1 rfl T.n_int (by decide +kernel) (by exact (pa_cons (pe_call (ok__law_number T) (hr.mono (by decide)) rfl T.g__law_number T.F__law_number.kp (T.B__law_number) .nil passL (pa_cons (pe_ix ix_seq (pv 0) pe_int (fun _ _ => rfl)) (pa_cons (pe_callTy call_int1 rfl T.n_int (by decide +kernel) (by exact (pa_cons (pe_ix ix_seq (pv 0) pe_int (fun _ _ => rfl)) pa_nil))) pa_nil))) pa_nil))) (pv 1))))), ?_⟩)
  obtain ⟨M, p, a, ns, ds, ws, m, hp, rfl, rs, ⟨k, hk, hd⟩, hs, hn, ⟨n, rfl, h0⟩, q⟩ := h
  obtain ⟨v, rfl, r⟩ := rs.one_of
  have ev : v = V.int n := r
  subst ev
  have d0 : Drw p a H := ⟨k, hk, hd⟩
  refine st_seq ⟨.ref p, rfl, p, _, 1, .int k, rfl, rfl, SqL.of hd, by decide, rfl, k, 1, rfl, rfl, p, _, 1, 1, rfl, rfl, hd, rfl, ?_⟩
  dsimp only
  have hd2 : upd H p (.lst [V.ref a, V.int (k + 1)]) p = some (.lst [V.ref a, V.int (k + 1)]) := upd_same
  have d2 : Drw p a (upd H p (.lst [V.ref a, V.int (k + 1)])) := ⟨k + 1, by omega, hd2⟩
  have x2 : SameX p H (upd H p (.lst [V.ref a, V.int (k + 1)])) := (SameX.refl H).upd
  show tRet _ _ _ (upd H p (.lst [V.ref a, V.int (k + 1)]))
  generalize upd H p (.lst [V.ref a, V.int (k + 1)]) = H2 at hd2 d2 x2
  let M0 : MK := fun _ => False
  have rp : forall H', Same H2 H' -> Rep (msk M0 H') (.lst [.oth (.ref a), .int (k + 1)]) (V.ref p) := fun H' e => ⟨p, _, rfl, by rw [msk_at (fun z => z)]; exact e _ _ hd2, _, _, rfl, rfl, _, _, rfl, rfl, rfl⟩
  have args : EvDs M0 (tCons (tOp (rIx K) (tVar 0) (tC (.int 0))) (tCons (tCB (fun xs H Q => (exists i, xs = [V.int i] ∧ Q (.int i) H) ∨ exists k, xs = [V.bl k] ∧ Q (.int (if k then 1 else 0)) H) (tCons (tOp (rIx K) (tVar 0) (tC (.int 1))) tNil)) tNil)) (L2.start ["draw", "many"] [.ref p, .int n]) H2 [.oth (.ref a), .int (k + 1)] :=
    ea_cons (ev_op (ev_var rfl (rp _ (Same.refl _))) ev_int (rd_ixL (z := .oth (.ref a)) rfl)) (ea_one (ev_int1 (ea_one (ev_op (ev_var rfl (rp _ (Same.refl _))) ev_int (rd_ixL (z := .int (k + 1)) rfl)))))
  refine (tcall_ev (sp := SpN K) (EX := E0) args fun vs H3 e3 rvs => ?_ : tCall (SpN K) [] E0 _ _ H2 _)
  obtain ⟨v1, v2, rfl, rv1, rv2⟩ := rvs.two_of
  have g1 : v1 = V.ref a := rv1
  have g2 : v2 = V.int (k + 1) := rv2
  subst g1 g2
  refine ⟨a, ns, k + 1, rfl, (sql_x hs x2 d0).same e3, hn, by omega, fun r H4 e4 h4 => ?_⟩
  refine .inl ⟨r, rfl, _, rfl, r, n, rfl, rfl, h0, ?_⟩
  exact q (.int (r % n)) _ H4 ⟨n, r % n, rfl, Int.emod_nonneg _ (by omega), Int.emod_lt_of_pos _ h0, rfl⟩ (x2.trans (SameX.of (e3.trans e4))) (d2.up (e3.trans e4)) rfl
def prePick : List D -> Prop := fun ds => exists es : List D, ds = [.lst es] ∧ es ≠ [] ∧ es.length ≤ 1000
def RPick : List D -> D -> Prop := fun ds d => exists es : List D, ds = [.lst es] ∧ d ∈ es
abbrev SpPick (K : PySem.W.Frag) : Sp := SpDr K prePick RPick
theorem ok__law_pick (T : Tx K mg) : FnOk P w K mg base (L2.CX P w) 3 T.f__law_pick T.d__law_pick ["draw", "items"] (SpPick K) := by
  refine T.F__law_pick.ok sc__law_pick (fun _ _ _ _ h => SpDr.len (n := 1) (fun ds ⟨n, e, _⟩ => by rw [e] <;> rfl) h) (fun cdv A outer s H vs Q E hr h => ⟨_, (pss_one (ps_ret (pe_ix ix_seq (pv 1) (pe_call (ok__law_take T) (hr.mono (by decide)) rfl T.g__law_take T.F__law_take.kp (T.B__law_take) .nil passL (pa_cons (pv 0) (pa_cons (pe_callB call_lenU rfl T.n_len PySem.boot_len (by exact (pa_cons (pv 1) pa_nil))) pa_nil))) (fun _ _ => rfl)))), ?_⟩)
  obtain ⟨M, p, a, ns, ds, ws, m, hp, rfl, rs, d0, hs, hn, ⟨es, rfl, hne, hl⟩, q⟩ := h
  obtain ⟨v, rfl, r⟩ := rs.one_of
  have pos : 0 < es.length := List.length_pos_iff.mpr hne
  have rX : forall H1, SameX p H H1 -> Rep (msk M H1) (.lst es) v := fun H1 e => r.up (e.msk hp)
  refine (ec_op (C := fun d => d ∈ es) hp (ec_pure fun H1 e1 d1 => ev_var (d := .lst es) rfl (rX H1 e1)) (ec_call m hp hs d0 hn rfl (ecs_cons hp (ec_pure fun H1 e1 d1 => ev_len (ea_one (ev_var (d := .lst es) rfl (rX H1 e1))) rfl (fun _ e => nomatch e) fun _ e => nomatch e) ecs_nil) ?_) ?_) H (SameX.refl H) d0 _ fun d v' H' hd e' d' r' => q d v' H' ⟨es, rfl, hd⟩ e' d' r'
  · rintro ds ⟨d, e, rfl, rfl, rfl⟩
    exact ⟨_, rfl, by omega⟩
  · rintro d e rfl ⟨ds, ⟨d, e', rfl, rfl, rfl⟩, n, r, hds, h0, h1, rfl⟩
    cases hds
    have hlt : r.toNat < es.length := by omega
    refine ⟨es[r.toNat], List.getElem_mem hlt, fun H1 => rd_ixL ?_⟩
    have h := atI_nat (List.getElem?_eq_getElem hlt)
    rw [show ((r.toNat : Nat) : Int) = r by omega] at h
    exact h
end

end K01
namespace K01
open PySem PySem.Spec PyProof.Rows L2 Ak
/-! ### one graph against another one; the drawn graph -/
def dA : Dat Arrow := d3 dInt dStr dInt
section
variable {P : Program} {w : World} {K : PySem.W.Frag} {mg : Str -> Option Value} {base : Heap}
def R_eq (T : Tx K mg) : List D -> D -> Prop := fun ds z => exists cs as cs2 as2, ds = [graphD T cs as, graphD T cs2 as2] ∧ z = .bl (decide ((cs, as) = (cs2, as2)))
theorem ok_Graph_eq (T : Tx K mg) : FnOk P w K mg base (L2.CX P w) 1 T.f_Graph_eq T.d_Graph_eq ["self", "other"] (SpR (R_eq T)) := by
  refine T.F_Graph_eq.ok sc_Graph_eq (fun _ _ _ _ h => SpR.len (n := 2) (fun ds z ⟨cs, as, cs2, as2, e, _⟩ => by rw [e] <;> rfl) h) (fun cdv A outer s H vs Q E hr h => ⟨_, (pss_one (ps_ret (pe_and (pe_callB call_isi rfl T.n_isinstance PyProof.Rows.boot_isinstance (pa_cons (pv 1) (pa_cons (pe_glob (v := .ref T.C_Graph) rfl T.g_Graph rfl) pa_nil))) (pe_one (pe_cmpR (op_eqU hr.units) (pe_tup (pa_cons (pe_fld (pv 0) rfl) (pa_cons (pe_fld (pv 0) rfl) pa_nil))) (pe_tup (pa_cons (pe_fld (pv 1) rfl) (pa_cons (pe_fld (pv 1) rfl) pa_nil))) (nomark _)))))), ?_⟩)
  obtain ⟨M, ds, z, m, rs, ⟨cs, as, cs2, as2, rfl, rfl⟩, q⟩ := h
  obtain ⟨v, v2, rfl, r, r2⟩ := rs.two_of
  refine st_ret (M := M) (ev_andV (a := true) (z := .bl (decide ((cs, as) = (cs2, as2)))) (ev_isiC (C := T.C_Graph) (fs := fieldsD cs2 as2) T.cls_Graph T.is_Graph (ea_cons (ev_var rfl r2) (ea_one (ev_c fun _ => rfl)))) (fun _ => ?_) fun h => by cases h) fun y H3 e3 ry => q y H3 e3 ry
  exact ev_eqD (dP (dT dStr) (dT dA)) (x := (cs, as)) (y := (cs2, as2)) rfl rfl (ev_tup m (ea_cons (ev_fld (ev_var rfl r) T.cls_Graph T.na_Graph_colours rfl) (ea_one (ev_fld (ev_var rfl r) T.cls_Graph T.na_Graph_arrows rfl))) (by simp)) (ev_tup m (ea_cons (ev_fld (ev_var rfl r2) T.cls_Graph T.na_Graph_colours rfl) (ea_one (ev_fld (ev_var rfl r2) T.cls_Graph T.na_Graph_arrows rfl))) (by simp))
end

end K01
namespace K01
open PySem PySem.Spec PyProof.Rows L2 Ak
/-! ### the drawn graph -/
theorem aD_toks {a b : Arrow} (h : toks (aD a) = toks (aD b)) : aD a = aD b := by
  obtain ⟨i, l, j⟩ := a
  obtain ⟨i2, l2, j2⟩ := b
  have h1 : ([.inl 1, .inl i, .inl 1, .inr l.cps.toList, .inl 1, .inl j, .inl 0] : List (Int ⊕ List Nat)) = [.inl 1, .inl i2, .inl 1, .inr l2.cps.toList, .inl 1, .inl j2, .inl 0] := h
  simp only [List.cons.injEq, Sum.inl.injEq, Sum.inr.injEq, and_true, true_and] at h1
  obtain ⟨e1, e2, e3⟩ := h1
  have e4 : D.str l = D.str l2 := toks_str (by
    show ([.inr l.cps.toList] : List (Int ⊕ List Nat)) = [.inr l2.cps.toList]
    rw [e2])
  injection e4 with e4
  rw [e1, e4, e3]
/-- what is drawn -/
structure GOk (n : Int) (cs : List Str) (as : List Arrow) : Prop where
  pos : 0 < cs.length
  le : (cs.length : Int) ≤ n
  col : forall c, c ∈ cs -> c = "g" ∨ c = "r"
  few : as.length ≤ 3 * cs.length
  nd : as.Nodup
  ord : as.Pairwise fun a b => leA a b = true
  arr : forall a, a ∈ as -> 0 ≤ a.1 ∧ a.1 < cs.length ∧ (a.2.1 = "a" ∨ a.2.1 = "b") ∧ 0 ≤ a.2.2 ∧ a.2.2 < cs.length
def preG : List D -> Prop := fun ds => exists n : Int, ds = [.int n] ∧ 0 < n ∧ n ≤ 20
def RG : List D -> D -> Prop := fun ds d => exists (n : Int) (cs : List Str) (as : List Arrow), ds = [.int n] ∧ GOk n cs as ∧ d = .tup [.lst (cs.map .str), .lst (as.map aD)]
theorem eltC_name {N : MK} {p a : Addr} {te : TE} {s : L2.St} {H3 : Hp} {x : V} {i : Nat} {vs : List Nat} {C : D -> Prop} {Co : Option D -> Prop} (hw : wipe ((wipe s vs).set i (some x)) vs = wipe s vs) (d3 : Drw p a H3) (h : EvC N p a te ((wipe s vs).set i (some x)) H3 C) (hc : forall d, C d -> Co (some d)) :
    EltC N p a (gName i) tYes te vs s H3 x Co := fun P S k1 _ => ⟨hw, by
    show (if true = true then te ((wipe s vs).set i (some x)) H3 P else S H3)
    rw [if_pos rfl]
    exact h H3 (SameX.refl H3) d3 P fun d v H4 c e dd r => k1 d (hc d c) v H4 e dd r⟩
theorem yields_all {Ce : D -> Option D -> Prop} {C : D -> Prop} {ds es : List D} (hc : forall d o, Ce d o -> exists e, o = some e ∧ C e) (h : Yields Ce ds es) : es.length = ds.length ∧ forall e, e ∈ es -> C e := by
  induction h with
  | nil => exact ⟨rfl, by simp⟩
  | some h c ih =>
    obtain ⟨e, ee, ce⟩ := hc _ _ c
    injection ee with ee
    refine ⟨by rw [List.length_append, List.length_append, ih.1] <;> rfl, fun z m => ?_⟩
    rcases List.mem_append.mp m with m | m
    · exact ih.2 z m
    · rw [List.mem_singleton.mp m, ee]
      exact ce
  | none h c ih =>
    obtain ⟨e, ee, _⟩ := hc _ _ c
    cases ee
theorem all_of {α : Type} {f : α -> D} {C : α -> Prop} : forall {es : List D}, (forall e, e ∈ es -> exists x, e = f x ∧ C x) -> exists l : List α, es = l.map f ∧ forall x, x ∈ l -> C x
  | [], _ => ⟨[], rfl, by simp⟩
  | e :: es, h => by
    obtain ⟨x, ex, cx⟩ := h e List.mem_cons_self
    obtain ⟨l, el, cl⟩ := all_of fun d m => h d (List.mem_cons_of_mem _ m)
    refine ⟨x :: l, by rw [ex, el, List.map_cons], fun y m => ?_⟩
    rcases List.mem_cons.mp m with m | m
    · rw [m]
      exact cx
    · exact cl y m
theorem eci_rng {M : MK} {p a : Addr} {ta : TE} {s : L2.St} {H : Hp} {C : D -> Prop} (h : EvC M p a ta s H C) (hc : forall d, C d -> exists j : Int, d = .int j ∧ -(2 ^ 62) ≤ j ∧ j < 2 ^ 62) : EvCI M p a (iRng1 (tCons ta tNil)) s H (fun ds => exists j : Int, C (.int j) ∧ ds = rngD 0 j.toNat) := fun H1 e1 d1 R k =>
  h H1 e1 d1 _ fun d v H2 c e2 d2 r => by
    obtain ⟨j, ed, h1, h2⟩ := hc d c
    subst ed
    have ev : v = V.int j := r
    subst ev
    exact ⟨j, rfl, h1, h2, k _ _ H2 ⟨j, c, rfl⟩ e2 d2 itr_d⟩
section
variable {P : Program} {w : World} {K : PySem.W.Frag} {mg : Str -> Option Value} {base : Heap}
theorem ok__law_graph (T : Tx K mg) : FnOk P w K mg base (L2.CX P w) 4 T.f__law_graph T.d__law_graph ["draw", "most"] (SpDr K preG RG) := by
  refine T.F__law_graph.ok sc__law_graph (fun _ _ _ _ h => SpDr.len (n := 1) (fun ds ⟨n, e, _⟩ => by rw [e] <;> rfl) h) (fun cdv A outer s H vs Q E hr h => ⟨_, (pss_cons (ps_set (i := 2) sc__law_graph.nd rfl (.inr rfl) (pe_op op_addU pe_int (pe_call (ok__law_take T) (hr.mono (by decide)) rfl T.g__law_take T.F__law_take.kp (T.B__law_take) .nil passL (pa_cons (pv 0) (pa_cons (pv 1) pa_nil)))))
      (pss_cons (ps_setLc (i := 3) (own := [("turn", 4)]) (g := (gName 4)) (tt := tYes) (te := (tCall (SpPick K) [] E0 (tCons (tVar 0) (tCons (tLst (tCons (tC (.str "g")) (tCons (tC (.str "r")) tNil))) tNil)))) rfl sc__law_graph.nd rfl rfl (sw_true rfl rfl rfl (by decide +kernel)) (pi_range1 rfl T.n_range (pa_cons (pv 2) pa_nil)) (blkOk_by (own := [("turn", 4)]) (N := ["draw", "most", "many", "colours", "turn", "arrows"]) (sc := (defScope s__law_graph)) (by decide +kernel)) (fun _ _ _ _ _ => by exact (pg_name (i := 4) sc__law_graph.nd rfl (.inl rfl))) (fun _ _ _ _ _ => by exact pts_nil) (fun _ _ _ _ _ => by exact (pe_call (ok__law_pick T) (hr.mono (by decide)) rfl T.g__law_pick T.F__law_pick.kp (T.B__law_pick) .nil passL (pa_cons (pv 0) (pa_cons (pe_lst (pa_cons pe_str (pa_cons pe_str pa_nil))) pa_nil)))))
      (pss_cons (ps_setLc (i := 5) (own := [("turn", 4)]) (g := (gName 4)) (tt := tYes) (te := (tTup (tCons (tCall (SpTake K) [] E0 (tCons (tVar 0) (tCons (tVar 2) tNil))) (tCons (tCall (SpPick K) [] E0 (tCons (tVar 0) (tCons (tLst (tCons (tC (.str "a")) (tCons (tC (.str "b")) tNil))) tNil))) (tCons (tCall (SpTake K) [] E0 (tCons (tVar 0) (tCons (tVar 2) tNil))) tNil))))) rfl sc__law_graph.nd rfl rfl (sw_true rfl rfl rfl (by decide +kernel)) (pi_range1 rfl T.n_range (pa_cons (pe_call (ok__law_take T) (hr.mono (by decide)) rfl T.g__law_take T.F__law_take.kp (T.B__law_take) .nil passL (pa_cons (pv 0) (pa_cons (pe_op op_addU (pe_op op_mulX pe_int (pv 2)) pe_int) pa_nil))) pa_nil)) (blkOk_by (own := [("turn", 4)]) (N := ["draw", "most", "many", "colours", "turn", "arrows"]) (sc := (defScope s__law_graph)) (by decide +kernel)) (fun _ _ _ _ _ => by exact (pg_name (i := 4) sc__law_graph.nd rfl (.inl rfl))) (fun _ _ _ _ _ => by exact pts_nil) (fun _ _ _ _ _ => by exact (pe_tup (pa_cons (pe_call (ok__law_take T) (hr.mono (by decide)) rfl T.g__law_take T.F__law_take.kp (T.B__law_take) .nil passL (pa_cons (pv 0) (pa_cons (pv 2) pa_nil))) (pa_cons (pe_call (ok__law_pick T) (hr.mono (by decide)) rfl T.g__law_pick T.F__law_pick.kp (T.B__law_pick) .nil passL (pa_cons (pv 0) (pa_cons (pe_lst (pa_cons pe_str (pa_cons pe_str pa_nil))) pa_nil))) (pa_cons (pe_call (ok__law_take T) (hr.mono (by decide)) rfl T.g__law_take T.F__law_take.kp (T.B__law_take) .nil passL (pa_cons (pv 0) (pa_cons (pv 2) pa_nil))) pa_nil))))))
      (pss_one (ps_ret (pe_tup (pa_cons (pv 3) (pa_cons (pe_sortset rfl hr.units rfl T.n_sorted rfl T.n_set (pv 5)) pa_nil)))))))), ?_⟩)
  obtain ⟨M, p, a, ns, ds, ws, m, hp, rfl, rs, d0, hs, hn, ⟨n, rfl, n1, n2⟩, q⟩ := h
  obtain ⟨v, rfl, r⟩ := rs.one_of
  have ev : v = V.int n := r
  subst ev
  refine st_seq (st_setC (M := M) (C := fun d => exists k : Int, d = .int k ∧ 1 ≤ k ∧ k ≤ n) d0 (ec_op (C2 := fun d => exists k : Int, d = .int k ∧ 0 ≤ k ∧ k < n) hp (ec_pure fun H1 e1 d1 => ev_int) ((ec_call m hp hs d0 hn rfl (ecs_cons hp (ec_pure fun H1 e1 d1 => ev_var (d := .int n) rfl rfl) ecs_nil) ?_).imp ?_) ?_) ?_)
  · rintro ds ⟨d, e, rfl, rfl, rfl⟩
    exact ⟨n, rfl, n1⟩
  · rintro d ⟨ds, ⟨d', e, rfl, rfl, rfl⟩, n', k, ek, h1, h2, rfl⟩
    cases ek
    exact ⟨k, rfl, h1, h2⟩
  · rintro d e rfl ⟨k, rfl, h1, h2⟩
    exact ⟨.int (1 + k), ⟨1 + k, rfl, by omega, by omega⟩, fun H1 => rd_addI⟩
  rintro d v H2 ⟨k, rfl, k1, k2⟩ e2 d2 r2
  have ev : v = V.int k := r2
  subst ev
  dsimp only
  have m2 := e2.mok d2 m
  have hs2 := sql_x hs e2 d0
  -- the colours
  refine st_seq (st_setC (M := M) d2 (ec_lc (Ce := fun _ o => exists e, o = some e ∧ (exists x : Str, e = .str x ∧ (x = "g" ∨ x = "r"))) m2 hp d2 (eci_pure fun H1 e1 d1 => ei_rng1 (j := k) (ea_one (ev_var rfl rfl)) (by omega) (by omega)) (fun ds e => by rw [e, rngD_len]; omega) fun ds N H3 d x cs mN hN e3 d3 sm hd rx => eltC_name (C := fun e => exists x : Str, e = .str x ∧ (x = "g" ∨ x = "r")) rfl d3 ((ec_call mN hN (sql_x hs2 e3 d2) d3 hn rfl (ecs_cons hN (ec_pure fun H4 e4 d4 => ev_lst (e4.mok d4 mN) (ea_cons ev_str (ea_one ev_str))) ecs_nil) ?_).imp ?_) fun e c => ⟨e, rfl, c⟩) ?_)
  · rintro ds ⟨d, e, rfl, rfl, rfl⟩
    exact ⟨_, rfl, by simp, by simp⟩
  · rintro d ⟨ds, ⟨d', e, rfl, rfl, rfl⟩, es, ee, hm⟩
    cases ee
    rcases List.mem_cons.mp hm with z | hm
    · exact ⟨_, z, .inl rfl⟩
    · exact ⟨_, List.mem_singleton.mp hm, .inr rfl⟩
  rintro d v H3 ⟨ds, es, rfl, rfl, ys⟩ e3 d3 r3
  obtain ⟨yl, ya⟩ := yields_all (fun _ _ h => h) ys
  obtain ⟨cs, rfl, hc⟩ := all_of ya
  rw [List.length_map, rngD_len] at yl
  dsimp only
  have m3 := e3.mok d3 m2
  have hs3 := sql_x hs2 e3 d2
  have ck : (cs.length : Int) = k := by omega
  -- the arrows
  let CA : D -> Prop := fun e => exists x : Arrow, e = aD x ∧ (0 ≤ x.1 ∧ x.1 < k ∧ (x.2.1 = "a" ∨ x.2.1 = "b") ∧ 0 ≤ x.2.2 ∧ x.2.2 < k)
  have take : forall {s : L2.St} {N : MK} {H : Hp} {i : Nat}, Mok N H -> N p -> SqL K H a (ns.map V.int) -> Drw p a H -> s[0]? = some (some (.ref p)) -> s[2]? = some (some (.int k)) -> EvC N p a (tCall (SpTake K) [] E0 (tCons (tVar 0) (tCons (tVar 2) tNil))) s H fun d => exists j : Int, d = .int j ∧ 0 ≤ j ∧ j < k := by
    intro s N H i mN hN hs' d' z0 z2
    refine (ec_call mN hN hs' d' hn z0 (ecs_cons hN (ec_pure fun H1 e1 d1 => ev_var (d := .int k) z2 rfl) ecs_nil) ?_).imp ?_
    · rintro ds ⟨d, e, rfl, rfl, rfl⟩
      exact ⟨k, rfl, by omega⟩
    · rintro d ⟨ds, ⟨d', e, rfl, rfl, rfl⟩, n', j, ek, h1, h2, rfl⟩
      cases ek
      exact ⟨j, rfl, h1, h2⟩
  refine st_seq (st_setC (M := M) d3 (ec_lc (Ce := fun _ o => exists e, o = some e ∧ CA e) m3 hp d3 (eci_rng (C := fun d => exists j : Int, d = .int j ∧ 0 ≤ j ∧ j < 3 * k + 1) ((ec_call m3 hp hs3 d3 hn rfl (ecs_cons hp (ec_pure fun H1 e1 d1 => ev_op (ev_op ev_int (ev_var (d := .int k) rfl rfl) (rd_mulC (.inl ⟨by omega, by omega⟩))) ev_int rd_addI) ecs_nil) ?_).imp ?_) ?_) ?_ fun ds N H4 d x cs mN hN e4 d4 sm hd rx => eltC_name (C := CA) rfl d4 ((ec_tup mN (ecs_cons hN (take (i := 0) mN hN (sql_x hs3 e4 d3) d4 rfl rfl) (ecs_cons hN (ec_call mN hN (sql_x hs3 e4 d3) d4 hn rfl (ecs_cons hN (ec_pure fun H5 e5 d5 => ev_lst (e5.mok d5 mN) (ea_cons ev_str (ea_one ev_str))) ecs_nil) ?_) (ecs_cons hN (take (i := 0) mN hN (sql_x hs3 e4 d3) d4 rfl rfl) ecs_nil))) ?_).imp ?_) fun e c => ⟨e, rfl, c⟩) ?_)
  · rintro ds ⟨d, e, rfl, rfl, rfl⟩
    exact ⟨3 * k + 1, rfl, by omega⟩
  · rintro d ⟨ds, ⟨d', e, rfl, rfl, rfl⟩, n', j, ek, h1, h2, rfl⟩
    cases ek
    exact ⟨j, rfl, h1, h2⟩
  · rintro d ⟨j, rfl, h1, h2⟩
    exact ⟨j, rfl, by omega, by omega⟩
  · rintro ds ⟨j, ⟨j', ej, h1, h2⟩, rfl⟩
    cases ej
    rw [rngD_len]
    omega
  · rintro ds ⟨d, e, rfl, rfl, rfl⟩
    exact ⟨_, rfl, by simp, by simp⟩
  · rintro ds ⟨d, e, rfl, _, d', e', rfl, _, d2', e2', rfl, _, rfl⟩
    simp
  · rintro d ⟨ds, rfl, d1, e1, rfl, ⟨i, rfl, i1, i2⟩, d2', e2', rfl, ⟨ds2, ⟨z, zs, rfl, rfl, rfl⟩, es, ee, hm⟩, d3', e3', rfl, ⟨j, rfl, j1, j2⟩, rfl⟩
    cases ee
    rcases List.mem_cons.mp hm with z | hm
    · exact ⟨(i, "a", j), by rw [z] <;> rfl, i1, i2, .inl rfl, j1, j2⟩
    · exact ⟨(i, "b", j), by rw [List.mem_singleton.mp hm] <;> rfl, i1, i2, .inr rfl, j1, j2⟩
  rintro d v2 H4 ⟨ds, es, rfl, ⟨j, ⟨j', ej, h1, h2⟩, rfl⟩, ys⟩ e4 d4 r4
  cases ej
  obtain ⟨yl2, ya2⟩ := yields_all (fun _ _ h => h) ys
  obtain ⟨as, rfl, ha⟩ := all_of ya2
  rw [List.length_map, rngD_len] at yl2
  dsimp only
  have m4 := e4.mok d4 m3
  have af : forall x, x ∈ as -> (aD x).ok = true := fun x _ => arrow_ok x
  have inj : forall x y, x ∈ (uniq as).map aD -> y ∈ (uniq as).map aD -> toks x = toks y -> x = y := fun x y hx hy e => by
    obtain ⟨x, _, rfl⟩ := List.mem_map.mp hx
    obtain ⟨y, _, rfl⟩ := List.mem_map.mp hy
    exact aD_toks e
  refine st_ret (M := M) (ev_tup m4 (ea_cons (ev_var rfl (r3.up (e4.msk hp))) (ea_one (ev_sortset (es := (uniq as).map aD) m4 (ev_var rfl r4) (.inr ⟨as.map keyA, by rw [List.map_map] <;> rfl⟩) (canSort_arrows af) (by rw [List.length_map]; omega) (nodup_inj (fun x y => aD_inj) (uniq_nodup as)) (fun d => ?_) inj))) (by simp)) fun y H5 e5 ry => ?_
  · rw [List.mem_map, List.mem_map]
    exact ⟨fun ⟨x, hx, e⟩ => ⟨x, (uniq_mem as x).mp hx, e⟩, fun ⟨x, hx, e⟩ => ⟨x, (uniq_mem as x).mpr hx, e⟩⟩
  · rw [sortD_arrows] at ry
    refine q _ y H5 ⟨n, cs, sortA as, rfl, ⟨by omega, by omega, hc, ?_, ?_, ?_, ?_⟩, rfl⟩ (e2.trans (e3.trans (e4.trans (SameX.of e5)))) (d4.up e5) ry
    · have h := sortA_len as
      omega
    · exact (List.mergeSort_perm (uniq as) leA).symm.nodup (uniq_nodup as)
    · exact List.pairwise_mergeSort (le := leA) (fun x y z => leD_trans (aD x) (aD y) (aD z)) (fun x y => leD_total (aD x) (aD y)) (uniq as)
    · intro x hx
      have h := ha x ((uniq_mem as x).mp ((List.mergeSort_perm (uniq as) leA).mem_iff.mp hx))
      rw [ck]
      exact h
end

end K01
namespace K01
open PySem PySem.Spec PyProof.Rows L2 Ak
/-! ### what is reached, once more -/
def endIn (found : List Int) : D -> Option D
  | .tup [.int x, _, .int y] => if decide (x ∈ found) = true then some (.int y) else none
  | _ => none
def newEnds (as : List Arrow) (found : List Int) : List Int := (as.filter fun a => decide (a.1 ∈ found)).map fun a => a.2.2
theorem endIn_all (found : List Int) (as : List Arrow) : (as.map aD).filterMap (endIn found) = (newEnds as found).map .int := by
  induction as with
  | nil => rfl
  | cons a as ih =>
    have h1 : endIn found (aD a) = if decide (a.1 ∈ found) = true then some (.int a.2.2) else none := rfl
    unfold newEnds at ih ⊢
    rw [List.map_cons, List.filterMap_cons, List.filter_cons, h1]
    by_cases h : decide (a.1 ∈ found) = true
    · rw [if_pos h, if_pos h, ih] <;> rfl
    · rw [if_neg h, if_neg h, ih]
theorem newEnds_mem {as : List Arrow} {found : List Int} {x : Int} : x ∈ newEnds as found <-> exists a, a ∈ as ∧ a.1 ∈ found ∧ a.2.2 = x := by
  unfold newEnds
  rw [List.mem_map]
  constructor
  · rintro ⟨a, h, e⟩
    rw [List.mem_filter, decide_eq_true_eq] at h
    exact ⟨a, h.1, h.2, e⟩
  · rintro ⟨a, h1, h2, e⟩
    exact ⟨a, List.mem_filter.mpr ⟨h1, decide_eq_true h2⟩, e⟩
def widen (as : List Arrow) (found : List Int) : List Int := sortI (uniq (found ++ newEnds as found))
theorem widen_mem {as : List Arrow} {found : List Int} {x : Int} : x ∈ widen as found <-> x ∈ found ∨ exists a, a ∈ as ∧ a.1 ∈ found ∧ a.2.2 = x := by
  unfold widen
  rw [(sortI_perm _).mem_iff, uniq_mem, List.mem_append, newEnds_mem]
theorem widen_nodup (as : List Arrow) (found : List Int) : (widen as found).Nodup := (sortI_perm _).symm.nodup (uniq_nodup _)
/-- after i turns -/
structure Wide (as : List Arrow) (n : Int) (i : Nat) (S : List Int) : Prop where
  nd : S.Nodup
  st : n ∈ S
  re : forall x, x ∈ S -> Reach as n x
  more : (forall a, a ∈ as -> a.1 ∈ S -> a.2.2 ∈ S) ∨ i + 1 ≤ S.length
theorem Wide.zero (as : List Arrow) (n : Int) : Wide as n 0 [n] := ⟨by simp, by simp, fun x h => by rw [List.mem_singleton.mp h]; exact fun S h _ => h, .inr (Nat.le_refl _)⟩
theorem Wide.next {as : List Arrow} {n : Int} {i : Nat} {S : List Int} (h : Wide as n i S) : Wide as n (i + 1) (widen as S) := by
  refine ⟨widen_nodup as S, widen_mem.mpr (.inl h.st), fun x hx => ?_, ?_⟩
  · rcases widen_mem.mp hx with z | ⟨a, ha, h1, e⟩
    · exact h.re x z
    · rw [← e]
      exact fun T t0 ts => ts a ha (h.re _ h1 T t0 ts)
  · rcases Classical.em (forall a, a ∈ as -> a.1 ∈ S -> a.2.2 ∈ S) with c | c
    · refine .inl fun a ha h1 => widen_mem.mpr (.inl ?_)
      rcases widen_mem.mp h1 with z | ⟨b, hb, h2, e⟩
      · exact c a ha z
      · exact c a ha (by rw [← e]; exact c b hb h2)
    · have hm : exists a, a ∈ as ∧ a.1 ∈ S ∧ a.2.2 ∉ S := by
        rcases Classical.em (exists a, a ∈ as ∧ a.1 ∈ S ∧ a.2.2 ∉ S) with z | z
        · exact z
        · exact absurd (fun a ha h1 => (Classical.em (a.2.2 ∈ S)).elim id fun y => absurd ⟨a, ha, h1, y⟩ z) c
      obtain ⟨a, ha, h1, h2⟩ := hm
      have hl := h.more.resolve_left c
      have h3 := nodup_len (l := a.2.2 :: S) (m := widen as S) (List.nodup_cons.mpr ⟨h2, h.nd⟩) fun x hx => by
        rcases List.mem_cons.mp hx with e | hx
        · exact widen_mem.mpr (.inr ⟨a, ha, h1, e.symm⟩)
        · exact widen_mem.mpr (.inl hx)
      rw [List.length_cons] at h3
      exact .inr (by omega)
theorem Wide.in_ {as : List Arrow} {n k : Int} {i : Nat} {S : List Int} (h : Wide as n i S) (hn : 0 ≤ n ∧ n < k) (ha : forall a, a ∈ as -> 0 ≤ a.2.2 ∧ a.2.2 < k) : forall x, x ∈ S -> 0 ≤ x ∧ x < k := fun x hx => h.re x hx (fun y => 0 ≤ y ∧ y < k) hn fun a m _ => ha a m
theorem Wide.end_ {as : List Arrow} {n : Int} {i k : Nat} {S : List Int} (h : Wide as n i S) (hn : 0 ≤ n ∧ n < k) (ha : forall a, a ∈ as -> 0 ≤ a.2.2 ∧ a.2.2 < (k : Int)) (hk : k ≤ i) : isReach as n S := by
  have hl : S.length ≤ k := ints_le h.nd (h.in_ hn ha)
  have c := h.more.resolve_right (by omega)
  exact ⟨h.nd, fun x => ⟨h.re x, fun r => r (fun y => y ∈ S) h.st c⟩⟩
section
variable {P : Program} {w : World} {K : PySem.W.Frag} {mg : Str -> Option Value} {base : Heap}
def R_lreached : List D -> D -> Prop := fun ds z => exists (as : List Arrow) (n : Int) (k : Nat) (F : List Int), ds = [.lst (as.map aD), .int n] ∧ 0 ≤ n ∧ n < k ∧ k ≤ 20 ∧ as.length + k < 64 ∧ (forall a, a ∈ as -> 0 ≤ a.2.2 ∧ a.2.2 < (k : Int)) ∧ isReach as n F ∧ z = .lst ((sortI F).map .int)
abbrev S7 (a b c : V) (o3 o4 o5 o6 : Option V) : L2.St := [some a, some b, some c, o3, o4, o5, o6]
theorem ok__law_reached (T : Tx K mg) : FnOk P w K mg base (L2.CX P w) 1 T.f__law_reached T.d__law_reached ["arrows", "node"] (SpR R_lreached) := by
  refine T.F__law_reached.ok sc__law_reached (fun _ _ _ _ h => SpR.len (n := 2) (fun ds z ⟨as, n, k, F, e, _⟩ => by rw [e] <;> rfl) h) (fun cdv A outer s H vs Q E hr h => ⟨_, (pss_cons (ps_set (i := 2) sc__law_reached.nd rfl (.inr rfl) (pe_lst (pa_cons (pv 1) pa_nil)))
      (pss_cons (ps_for PassesOwn.leaving rfl (pi_range1 rfl T.n_range (pa_cons pe_int pa_nil)) (pg_name (i := 3) sc__law_reached.nd rfl (.inl rfl))
      (pss_one (ps_set (i := 2) sc__law_reached.nd rfl (.inr rfl) (pe_sortset rfl hr.units rfl T.n_sorted rfl T.n_set (pe_op op_addU (pv 2) (pe_lc (own := [("start", 4), ("label", 5), ("end", 6)]) (g := (gTup K 3 (gCons (gName 4) (gCons (gName 5) (gCons (gName 6) gNil))))) (tt := (tTest (tOp (rInU false) (tVar 4) (tVar 2)))) (te := (tVar 6)) rfl sc__law_reached.nd (pi_any (pv 0)) (blkOk_by (own := [("start", 4), ("label", 5), ("end", 6)]) (N := ["arrows", "node", "found", "turn", "start", "label", "end"]) (sc := (defScope s__law_reached)) (by decide +kernel)) (fun _ _ _ _ _ => by exact (pg_tup rfl (pgs_cons (pg_name (i := 4) sc__law_reached.nd rfl (.inl rfl)) (pgs_cons (pg_name (i := 5) sc__law_reached.nd rfl (.inl rfl)) (pgs_cons (pg_name (i := 6) sc__law_reached.nd rfl (.inl rfl)) pgs_nil))))) (fun _ _ _ _ _ => by exact (pts_one (pt_cmpR (op_inU hr.units) (pv 4) (pv 2) (by with_unfolding_all rfl)))) (fun _ _ _ _ _ => by exact (pv 6))))))))
      (pss_one (ps_ret (pe_callB (call_sortU rfl hr.units) rfl T.n_sorted PyProof.Rows.boot_sorted (by exact (pa_cons (pv 2) pa_nil))))))), ?_⟩)
  obtain ⟨M, ds, z, m, rs, ⟨as, n, k, F, rfl, n1, n2, k1, few, har, hF, rfl⟩, q⟩ := h
  obtain ⟨v, v2, rfl, r, r2⟩ := rs.two_of
  have ev : v2 = V.int n := r2
  subst ev
  refine st_seq (st_set (M := M) (P := fun y G => Rep G (.lst (([n] : List Int).map .int)) y) (ev_lst m (ea_one (ev_var (d := .int n) rfl rfl))) fun y H2 e2 ry => ?_)
  dsimp only
  have m2 := m.up e2
  have r2 := r.up (msk_mono (M := M) e2)
  refine st_seq (st_for (M := M) (ds := rngD 0 40) m2 (ei_rng1 (j := 40) (ea_one ev_int) (by decide) (by decide)) (fun H3 i s' H' => Same H3 H' ∧ exists y o3 o4 o5 o6 S, s' = S7 v (.int n) y o3 o4 o5 o6 ∧ Rep (msk M H') (.lst (S.map .int)) y ∧ Wide as n i S)
    (fun H3 e3 => ⟨Same.refl _, y, none, none, none, none, [n], rfl, ry.up (msk_mono e3), Wide.zero as n⟩) (fun H3 i s' H' h => Kp.of h.1) ?_ ?_)
  · rintro H3 i d x s' H' H'' e3 hi hd ⟨e4, y, o3, o4, o5, o6, S, rfl, ry, hw⟩ e5 rx
    have mm := m2.up (e3.trans (e4.trans e5))
    have rA := r2.up (msk_mono (M := M) (e3.trans (e4.trans e5)))
    have rS := ry.up (msk_mono (M := M) e5)
    have hin := hw.in_ ⟨n1, n2⟩ har
    have lS : S.length ≤ k := ints_le hw.nd hin
    have lN : (newEnds as S).length ≤ as.length := by
      unfold newEnds
      rw [List.length_map]
      exact List.length_filter_le _ _
    show tAsg _ _ _ (S7 v (.int n) y (some x) o4 o5 o6) H''
    refine st_set (M := M) (P := fun y G => Rep G (.lst ((widen as S).map .int)) y) (Ev.to (ev_sortset (ds := (S ++ newEnds as S).map .int) (es := (uniq (S ++ newEnds as S)).map .int) mm ?_ (.inl ⟨(S ++ newEnds as S).map .inl, by rw [List.map_map] <;> rfl⟩) (canSort_ints _) (by rw [List.length_map, List.length_append]; omega) (nodup_inj (fun a b h => by injection h) (uniq_nodup _)) (fun d => ?_) ?_) ?_) fun y2 H4 e6 ry2 => ?_
    · have key : EvD M (tOp (rAddU K) (tVar 2) (tLc (iAny K (tVar 0)) (gTup K 3 (gCons (gName 4) (gCons (gName 5) (gCons (gName 6) gNil)))) (tTest (tOp (rInU false) (tVar 4) (tVar 2))) (tVar 6) [4, 5, 6])) (S7 v (.int n) y (some x) o4 o5 o6) H'' (.lst (S.map .int ++ (newEnds as S).map .int)) := by
        refine ev_op (ev_var rfl rS) (Ev.to (ev_lc (ds := as.map aD) (endIn S) mm (ia_list (ev_var rfl rA)) (by rw [List.length_map]; omega) fun N H7 d y' mN eN hd rd => ?_) (by rw [endIn_all])) (rd_addL mm (by rw [List.length_map, List.length_map, sizeLine_eq]; omega))
        obtain ⟨a, _, rfl⟩ := List.mem_map.mp hd
        obtain ⟨t, xs, et, ht, rxs⟩ := rd
        obtain ⟨y1, y2, y3, exs, ry1, ry2, ry3⟩ := rxs.three_of
        subst exs et
        refine elt_of (b := decide (a.1 ∈ S)) (s2 := (((wipe (S7 v (.int n) y (some x) o4 o5 o6) [4, 5, 6]).set 4 (some y1)).set 5 (some y2)).set 6 (some y3)) (fun Q q => ⟨t, _, rfl, SqT.of (msk_same _ _ ht), rfl, _, _, rfl, _, _, rfl, _, [], rfl, rfl, q⟩) rfl
          (et_test (M := N) (ev_inD dInt (x := a.1) (l := S) rfl rfl (ev_var rfl ry1) (ev_var rfl (rS.up eN)))) (fun h => ⟨.int a.2.2, ?_, ev_var rfl ry3⟩) fun h => ?_
        · show (if decide (a.1 ∈ S) = true then some (D.int a.2.2) else none) = _
          rw [if_pos h]
        · show (if decide (a.1 ∈ S) = true then some (D.int a.2.2) else none) = _
          rw [if_neg (by rw [h]; exact Bool.false_ne_true)]
      rw [List.map_append]
      exact key
    · rw [List.mem_map, List.mem_map]
      exact ⟨fun ⟨x, hx, e⟩ => ⟨x, (uniq_mem _ x).mp hx, e⟩, fun ⟨x, hx, e⟩ => ⟨x, (uniq_mem _ x).mpr hx, e⟩⟩
    · intro a b ha hb e
      obtain ⟨a, _, rfl⟩ := List.mem_map.mp ha
      obtain ⟨b, _, rfl⟩ := List.mem_map.mp hb
      exact toks_int e
    · exact congrArg D.lst (sortD_ints _)
    · exact ⟨e4.trans (e5.trans e6), y2, some x, o4, o5, o6, widen as S, rfl, ry2, hw.next⟩
  rintro H3 s' H' e3 ⟨e4, y, o3, o4, o5, o6, S, rfl, ry, hw⟩
  have hS : isReach as n S := hw.end_ ⟨n1, n2⟩ har (by rw [rngD_len]; omega)
  have mm := m2.up (e3.trans e4)
  dsimp only
  refine st_ret (M := M) (Ev.to (ev_sort mm (ea_one (ev_var rfl ry)) rfl (canSort_ints S)) ?_) fun y2 H4 e5 ry2 => q y2 H4 (e2.trans (e3.trans (e4.trans e5))) ry2
  rw [sortD_ints, sortI_eq (isReach_perm hS hF)]
end

end K01
namespace K01
open PySem PySem.Spec PyProof.Rows L2 Ak
/-! ### what is refused -/
section
variable {P : Program} {w : World} {K : PySem.W.Frag} {mg : Str -> Option Value} {base : Heap}
def tIsS (T : Tx K mg) (cls : Value) (d : Option Addr) (a : Addr) : TT := tB (tCB (rIsX K cls d a) (tCons (tVar 1) (tCons (tC (.ref T.C_StoreError)) tNil)))
def faultS1 (T : Tx K mg) : SuiteT := fun a cls d => tRet (tIf (tIsS T cls d a) (tTup (tCons (tXf a cls d T.C_BadGraph "part" (tVar 1)) (tCons (tXf a cls d T.C_BadGraph "number" (tVar 1)) tNil))) (tC .non))
def faultS2 (T : Tx K mg) : SuiteT := fun a cls d => tRet (tIf (tIsS T cls d a) (tTup (tCons (tC (.str "name")) (tCons (tXf a cls d T.C_BadName "name" (tVar 1)) tNil))) (tC .non))
def faultS3 (T : Tx K mg) : SuiteT := fun a cls d => tRet (tIf (tIsS T cls d a) (tTup (tCons (tC (.str "large")) (tCons (tXf a cls d T.C_TooLarge "number" (tVar 1)) tNil))) (tC .non))
def faultL (T : Tx K mg) : List (Value × SuiteT) := [(.ref T.C_BadGraph, faultS1 T), (.ref T.C_BadName, faultS2 T), (.ref T.C_TooLarge, faultS3 T)]
/-- the promise of f in the frame Z, within its try -/
def FP (Z : Cx) (f : Addr) (σ : L2.St) (H : Hp) (Q : VK) (E : XK) : Prop := forall (pn : List (Addr × Obj)) (xe : Value -> Shared -> Prop), Prom (L2.CX Z.prog Z.w) (Z.tr pn xe) f [] σ H Q E
def faultT (Z : Cx) : WX -> TS := fun W D σ H => exists f F ex E, σ[0]? = some (some (.ref f)) ∧ H f = some (LamO f F ex) ∧ (forall cls d H', E cls d H' -> W cls d σ H') ∧ FP Z f σ H (fun _ H' => D.nx σ H') E
theorem faultB {Z : Cx} {W : WX} {pn : List (Addr × Obj)} {xe : Value -> Shared -> Prop} {p p2 p3 : Pos} (tk : Takes (Z.tr pn xe) W) (hN : Z.N[0]? = some ("deed" : Str)) (hv : Vis Z.env.scope ("deed" : Str)) (hs : swapsWith (.Call (.Name "deed" p) [] [] p2) none p3.line Z.env = pure false) : PSs (Z.tr pn xe) [.Expr (.Call (.Name "deed" p) [] [] p2) p3] (faultT Z W) := by
  refine ⟨fun pins s σ H D I h => ?_⟩
  obtain ⟨f, F, ex, E, hs0, hf, hW, fp⟩ := h
  exact (pss_one (ps_expr (pe_act0 (X := Z.tr pn xe) (CX := L2.CX Z.prog Z.w) hN hv) hs)).run pins s σ H D I ⟨f, F, ex, hs0, hf, hf, E, passes_at tk hW, fp pn xe⟩
/-- what the caller wishes of the exceptions -/
def FaultQ (T : Tx K mg) (Q : VK) : XK := fun cls d H => exists dd fs, d = some dd ∧ H dd = some (.xd fs) ∧
  ((cls = .ref T.C_BadGraph ∧ exists x y, fs.lookup ("part" : Str) = some x ∧ fs.lookup ("number" : Str) = some y ∧ forall p, H p = none -> Q (.ref p) (upd H p (.tup [x, y]))) ∨
   (cls = .ref T.C_BadName ∧ exists x, fs.lookup ("name" : Str) = some x ∧ forall p, H p = none -> Q (.ref p) (upd H p (.tup [.str "name", x]))) ∨
   (cls = .ref T.C_TooLarge ∧ exists x, fs.lookup ("number" : Str) = some x ∧ forall p, H p = none -> Q (.ref p) (upd H p (.tup [.str "large", x]))))
theorem faultW (T : Tx K mg) {Q : VK} {D : Ends} {v : V} {cls : Value} {d : Option Addr} {H : Hp} (hD : D.rt = Q) (h : FaultQ T Q cls d H) : wAll K (fun _ _ _ _ => False) D 1 (faultL T) cls d [some v, none] H := by
  obtain ⟨dd, fs, ed, ea, h⟩ := h
  subst ed hD
  have isS : forall {a C : Addr} {Q : Bool -> Hp -> Prop}, ExcC K C -> PySem.W.kitOne K (.ref C) (.ref T.C_StoreError) = some true -> Q true H -> tIsS T (.ref C) (some dd) a [some v, some (V.ref a)] H Q := fun {a C Q} ec hk q =>
    ⟨_, rfl, C, .ref T.C_StoreError, .ref T.C_StoreError, true, dd, fs, ec, rfl, rfl, ea, rfl, fun u e => e, hk, true, rfl, q⟩
  rcases h with ⟨e, x, y, l1, l2, q⟩ | ⟨e, x, l1, q⟩ | ⟨e, x, l1, q⟩
  · subst e
    exact ⟨true, T.exm_BadGraph_BadGraph, fun _ a na => isS T.ec_BadGraph T.kit_BadGraph_StoreError (iteT ⟨_, rfl, rfl, rfl, dd, fs, x, rfl, ea, l1, _, rfl, rfl, rfl, dd, fs, y, rfl, ea, l2, by rw [sizeLine_eq]; simp, fun p hp => q p hp⟩), fun z => nomatch z⟩
  · subst e
    exact ⟨false, T.exm_BadName_BadGraph, (fun z => nomatch z), fun _ => ⟨true, T.exm_BadName_BadName, fun _ a na => isS T.ec_BadName T.kit_BadName_StoreError (iteT ⟨_, rfl, rfl, rfl, dd, fs, x, rfl, ea, l1, by rw [sizeLine_eq]; simp, fun p hp => q p hp⟩), fun z => nomatch z⟩⟩
  · subst e
    exact ⟨false, T.exm_TooLarge_BadGraph, (fun z => nomatch z), fun _ => ⟨false, T.exm_TooLarge_BadName, (fun z => nomatch z), fun _ => ⟨true, T.exm_TooLarge_TooLarge, fun _ a na => isS T.ec_TooLarge T.kit_TooLarge_StoreError (iteT ⟨_, rfl, rfl, rfl, dd, fs, x, rfl, ea, l1, by rw [sizeLine_eq]; simp, fun p hp => q p hp⟩), fun z => nomatch z⟩⟩⟩
/-- THE BODY, told of the very state -/
theorem fault_ok (T : Tx K mg) {A : Around} {outer : List Env} {s : Shared} {H : Hp} {cdv : Value} {f : Addr} {F : NdefX.NF} {ex : Expr} {Q : VK} (hf : H f = some (LamO f F ex))
    (h : FP (cxOf (L2.CX P w) P w K mg base ["deed", "fault"] "_law_fault" (defScope s__law_fault) T.f__law_fault cdv A outer s H E0) f (L2.start ["deed", "fault"] [.ref f]) H (fun _ H' => Q (.str "none") H') (FaultQ T Q)) :
    exists t, PSs (cxOf (L2.CX P w) P w K mg base ["deed", "fault"] "_law_fault" (defScope s__law_fault) T.f__law_fault cdv A outer s H E0) (defBody s__law_fault) t ∧ t { nx := fun _ H' => Q .non H', rt := Q } (L2.start ["deed", "fault"] [.ref f]) H := by
  refine ⟨_, (pss_cons (ps_try_all (i := 1) (l := faultL T) (tb := faultT (cxOf (L2.CX P w) P w K mg base ["deed", "fault"] "_law_fault" (defScope s__law_fault) T.f__law_fault cdv A outer s H E0)) rfl rfl sc__law_fault.nd rfl rfl LamX.takes0 (fun W pn xe tk _ => faultB tk rfl (.inl rfl) rfl)
        (Clauses.cons ⟨rfl, rfl, .inl T.g_BadGraph⟩ (fun _ _ _ _ _ hz hf => by exact (pss_one (ps_ret (pe_ifExp (pt_val (pe_callB (call_isX hz hf) rfl T.n_isinstance PyProof.Rows.boot_isinstance (pa_cons (pv 1) (pa_cons (pe_glob (v := .ref T.C_StoreError) rfl T.g_StoreError rfl) pa_nil)))) (pe_tup (pa_cons (pe_xf T.xf_BadGraph T.na_BadGraph_part hz hf (pv 1)) (pa_cons (pe_xf T.xf_BadGraph T.na_BadGraph_number hz hf (pv 1)) pa_nil))) pe_non))))
        (Clauses.cons ⟨rfl, rfl, .inl T.g_BadName⟩ (fun _ _ _ _ _ hz hf => by exact (pss_one (ps_ret (pe_ifExp (pt_val (pe_callB (call_isX hz hf) rfl T.n_isinstance PyProof.Rows.boot_isinstance (pa_cons (pv 1) (pa_cons (pe_glob (v := .ref T.C_StoreError) rfl T.g_StoreError rfl) pa_nil)))) (pe_tup (pa_cons pe_str (pa_cons (pe_xf T.xf_BadName T.na_BadName_name hz hf (pv 1)) pa_nil))) pe_non))))
        (Clauses.cons ⟨rfl, rfl, .inl T.g_TooLarge⟩ (fun _ _ _ _ _ hz hf => by exact (pss_one (ps_ret (pe_ifExp (pt_val (pe_callB (call_isX hz hf) rfl T.n_isinstance PyProof.Rows.boot_isinstance (pa_cons (pv 1) (pa_cons (pe_glob (v := .ref T.C_StoreError) rfl T.g_StoreError rfl) pa_nil)))) (pe_tup (pa_cons pe_str (pa_cons (pe_xf T.xf_TooLarge T.na_TooLarge_number hz hf (pv 1)) pa_nil))) pe_non))))
        Clauses.nil))))
      (pss_one (ps_ret pe_str))), ?_⟩
  exact ⟨f, F, ex, FaultQ T Q, rfl, hf, fun cls d H' q => faultW T rfl q, h⟩
end

end K01
namespace K01
open PySem PySem.Spec PyProof.Rows L2 Ak
/-! ### a lambda without parameters is handed to _law_fault -/
open NdefX (NF envF ncx NScope CellsAt Caps startF slotAt nscope_by cells_of)
open LamX (CodeO TabS Tabs ExtN TabB)
abbrev N22 : List Str := ["script", "draw", "colours", "arrows", "twice", "graph", "many", "node", "label", "start", "one", "end", "other", "both", "moved", "kept", "part", "bad", "at", "odd", "wrong", "deed"]
section
variable {P : Program} {w : World} {K : PySem.W.Frag} {mg : Str -> Option Value} {base : Heap}
abbrev LC (P : Program) (w : World) (base : Heap) (T : Tx K mg) (cdv : Value) (A : Around) (outer : List Env) (s : Shared) (H : Hp) (E : XK) : Cx := cxOf (L2.CX P w) P w K mg base N22 "law" (defScope s_law) T.f_law cdv A outer s H E
/-- what the call wishes of the lambda: te, its body's reading; js, where its captured names stand -/
def toldW (T : Tx K mg) (X : Cx) (params : Arguments) (scope : Scope) (ex : Expr) (N : List Str) (js : List Nat) (te : XK -> TE) : L2.St -> V -> Hp -> VK -> Prop := fun σ v H Q => exists f c, v = .ref f ∧ H f = some (LamO f (mkL X params scope c) ex) ∧ H c = some (CodeO c (X.env.qual ++ "<lambda>")) ∧
  te (FaultQ T Q) (startF N [] (js.map (slotAt σ))) H fun _ H' => Q (.str "none") H'
theorem fault_told (T : Tx K mg) {X : Cx} {params : Arguments} {ex : Expr} {scope : Scope} {N fr : List Str} {js : List Nat} {te : XK -> TE} (hP : X.prog = P) (hw : X.w = w) (hK : X.K = K) (hg : X.mg = mg) (hb0 : X.base = base) (S : NScope N [] fr scope)
    (hb : forall (q : Str) (cl : List (Str × Addr)) (pm cv ctv : Value), bindArgs (PySem.W.kla_fn "<lambda>" q params ex scope cl pm cv ctv) ⟨[], []⟩ = pure []) (cp : X.Ok -> Caps X (cloFrom X.env.cells scope.names []) fr js)
    (body : forall (c f : Addr) (A : Around) (outer : List Env) (s : Shared) (H : Hp) (E : XK), Room 7 (A.deeper (envF (mkL X params scope c) f s.heap.objs.size)) -> PE (ncx (L2.CX P w) P w K mg base N (mkL X params scope c) f A outer s H E) ex (te E))
    (pins : List (Addr × Obj)) (σ : L2.St) (s : Shared) (H : Hp) (v : V) (Q : VK) (cdv : Value) (I : Inv X pins σ H s) (h : toldW T X params scope ex N js te σ v H Q) (hr : Room 8 (X.A.deeper (envOfC "_law_fault" (defScope s__law_fault) s.heap.objs.size T.f__law_fault cdv))) :
    exists t, PSs (cxOf (L2.CX P w) X.prog X.w X.K X.mg X.base ["deed", "fault"] "_law_fault" (defScope s__law_fault) T.f__law_fault cdv X.A X.stack s H E0) (defBody s__law_fault) t ∧ t { nx := fun _ H' => Q .non H', rt := Q } (L2.start ["deed", "fault"] [v]) H := by
  subst hP hw hK hg hb0
  obtain ⟨f, c, rfl, hf, hc, wish⟩ := h
  refine fault_ok T hf fun pn xe pins' s' us I' r => ?_
  cases r
  refine lam_run (k := 7) (F := mkL X params scope c) (ps := []) S (fun pm ctv us hl => ?_) hr I'.env0 hf hc (cells_on (cells_of I (cp I.ok)) rfl I') .nil rfl fun hr2 => ⟨te (FaultQ T Q), body c f _ _ _ _ _ hr2, wish⟩
  have e : us = [] := List.eq_nil_of_length_eq_zero hl
  subst e
  exact hb _ _ _ _ _
end

end K01
namespace K01
open PySem PySem.Spec PyProof.Rows L2 Ak
/-! ### a lambda that calls a kept lambda is handed to _law_fault -/
open NdefX (NF envF ncx NScope CellsAt Caps startF slotAt slotAt_of nscope_by cells_of)
open LamX (CodeO TabS Tabs ExtN TabB)
section
variable {P : Program} {w : World} {K : PySem.W.Frag} {mg : Str -> Option Value} {base : Heap}
/-- what is known of a lambda that the frame X makes -/
structure LamOk (P : Program) (w : World) (K : PySem.W.Frag) (mg : Str -> Option Value) (base : Heap) (X : Cx) (k : Nat) (params : Arguments) (scope : Scope) (ex : Expr) (N ps fr : List Str) (js : List Nat) (te : XK -> TE) : Prop where
  sc : NScope N ps fr scope
  bind : forall (q : Str) (cl : List (Str × Addr)) (pm cv ctv : Value) (us : List Value), us.length = ps.length -> bindArgs (PySem.W.kla_fn "<lambda>" q params ex scope cl pm cv ctv) ⟨us, []⟩ = pure (ps.zip us)
  caps : X.Ok -> Caps X (cloFrom X.env.cells scope.names []) fr js
  body : forall (c f : Addr) (A : Around) (outer : List Env) (s : Shared) (H : Hp) (E : XK), Room k (A.deeper (envF (mkL X params scope c) f s.heap.objs.size)) -> PE (ncx (L2.CX P w) P w K mg base N (mkL X params scope c) f A outer s H E) ex (te E)
def toldD (P : Program) (w : World) (K : PySem.W.Frag) (mg : Str -> Option Value) (base : Heap) (T : Tx K mg) (X : Cx) (params : Arguments) (scope : Scope) (ex : Expr) (i j : Nat) : L2.St -> V -> Hp -> VK -> Prop := fun σ v H Q => exists f c f1 c1 vw params1 scope1 ex1 N1 x1 fr1 js1 te1,
  v = .ref f ∧ H f = some (LamO f (mkL X params scope c) ex) ∧ H c = some (CodeO c (X.env.qual ++ "<lambda>")) ∧ slotAt σ i = some (V.ref f1) ∧ slotAt σ j = some vw ∧
  H f1 = some (LamO f1 (mkL X params1 scope1 c1) ex1) ∧ H c1 = some (CodeO c1 (X.env.qual ++ "<lambda>")) ∧ LamOk P w K mg base X 6 params1 scope1 ex1 N1 [x1] fr1 js1 te1 ∧
  te1 (FaultQ T Q) (startF N1 [vw] (js1.map (slotAt σ))) H fun _ H' => Q (.str "none") H'
theorem fault_toldD (T : Tx K mg) {X : Cx} {params : Arguments} {scope : Scope} {i j : Nat} {p1 p2 p3 : Pos} (hP : X.prog = P) (hw : X.w = w) (hK : X.K = K) (hg : X.mg = mg) (hb0 : X.base = base) (S : NScope ["deed", "wrong"] [] ["deed", "wrong"] scope)
    (hb : forall (q : Str) (cl : List (Str × Addr)) (pm cv ctv : Value), bindArgs (PySem.W.kla_fn "<lambda>" q params (.Call (.Name "deed" p1) [.Name "wrong" p2] [] p3) scope cl pm cv ctv) ⟨[], []⟩ = pure []) (cp : X.Ok -> Caps X (cloFrom X.env.cells scope.names []) ["deed", "wrong"] [i, j])
    (pins : List (Addr × Obj)) (σ : L2.St) (s : Shared) (H : Hp) (v : V) (Q : VK) (cdv : Value) (I : Inv X pins σ H s) (h : toldD P w K mg base T X params scope (.Call (.Name "deed" p1) [.Name "wrong" p2] [] p3) i j σ v H Q) (hr : Room 8 (X.A.deeper (envOfC "_law_fault" (defScope s__law_fault) s.heap.objs.size T.f__law_fault cdv))) :
    exists t, PSs (cxOf (L2.CX P w) X.prog X.w X.K X.mg X.base ["deed", "fault"] "_law_fault" (defScope s__law_fault) T.f__law_fault cdv X.A X.stack s H E0) (defBody s__law_fault) t ∧ t { nx := fun _ H' => Q .non H', rt := Q } (L2.start ["deed", "fault"] [v]) H := by
  subst hP hw hK hg hb0
  obtain ⟨f, c, f1, c1, vw, params1, scope1, ex1, N1, x1, fr1, js1, te1, rfl, hf, hc, si, sj, hf1, hc1, L, wish⟩ := h
  refine fault_ok T hf fun pn xe pins' s' us I' r => ?_
  cases r
  have C1 := cells_on (cells_of I (L.caps I.ok)) rfl I'
  refine lam_run (k := 7) (F := mkL X params scope c) (ps := []) S (fun pm ctv us hl => ?_) hr I'.env0 hf hc (cells_on (cells_of I (cp I.ok)) rfl I') .nil rfl fun hr2 => ?_
  · have e : us = [] := List.eq_nil_of_length_eq_zero hl
    subst e
    exact hb _ _ _ _ _
  · have v0 : Vis scope ("deed" : Str) := .inr (.inr (S.frk _ (by simp)))
    have v1 : Vis scope ("wrong" : Str) := .inr (.inr (S.frk _ (by simp)))
    refine ⟨_, pe_actN (CX := L2.CX X.prog X.w) (i := 0) rfl v0 (pa_cons (pe_var (i := 1) rfl v1 (by decide) (by decide)) pa_nil), ?_⟩
    have s0 : startF ["deed", "wrong"] [] ([i, j].map (slotAt σ)) = [some (V.ref f1), some vw] := by
      show ([] : List (Option V)) ++ ([slotAt σ i, slotAt σ j] ++ List.replicate _ none) = _
      rw [si, sj] <;> rfl
    rw [s0]
    refine ⟨f1, _, _, rfl, hf1, vw, rfl, hf1, FaultQ T Q, passes_at (takes_of rfl rfl rfl rfl) (fun _ _ _ h => h), fun pins2 s2 us2 I2 r2 => ?_⟩
    exact lam_run (k := 6) (F := mkL X params1 scope1 c1) (ps := [x1]) L.sc (fun pm ctv us hl => L.bind _ _ _ _ _ us hl) hr2 I2.env0 hf1 hc1 (cells_on (X := ncx (L2.CX X.prog X.w) X.prog X.w X.K X.mg X.base ["deed", "wrong"] (mkL X params scope c) f _ _ s' H (FaultQ T Q)) C1 rfl I2) r2 rfl fun hr3 => ⟨te1 (FaultQ T Q), L.body c1 f1 _ _ _ _ _ hr3, wish⟩
end

end K01
namespace K01
open PySem PySem.Spec PyProof.Rows L2 Ak
/-! ### the law's frame: what its steps keep -/
open NdefX (NF envF ncx NScope CellsAt Caps startF slotAt slotAt_of nscope_by cells_of)
open LamX (CodeO TabS Tabs ExtN TabB)
abbrev lawQ : Str := (("law" : Str) ++ (".<locals>." : Str)) ++ ("<lambda>" : Str)
section
variable {K : PySem.W.Frag} {mg : Str -> Option Value} {p a P0 : Addr} {ns : List Int} {s : L2.St} {H : Hp} {ta tb te : TE} {d e : D}
/-- a value that is made while lambdas are made too -/
def EvL (K : PySem.W.Frag) (p a P0 : Addr) (ns : List Int) (te : TE) (s : L2.St) (H : Hp) (d : D) : Prop :=
  forall H1, SameX P0 H H1 -> Lw K p a P0 lawQ ns H1 -> forall Q : VK, (forall v H2, SameX P0 H1 H2 -> Lw K p a P0 lawQ ns H2 -> Rep (msk (LM p P0) H2) d v -> Q v H2) -> te s H1 Q
def tFault (P0 : Addr) (mk : Addr -> NF) (ex : Expr) (told : L2.St -> V -> Hp -> VK -> Prop) : TE := fun σ H Q => tCons (tLamV P0 [(P0, lawQ)] mk ex) tNil σ H fun vs H1 => exists v, vs = [v] ∧ told σ v H1 Q
theorem el_told {mk : Addr -> NF} {ex : Expr} {told : L2.St -> V -> Hp -> VK -> Prop}
    (h : forall H1, SameX P0 H H1 -> Lw K p a P0 lawQ ns H1 -> forall (f c : Addr) (Q : VK), H1 f = some (LamO f (mk c) ex) -> H1 c = some (CodeO c (mk c).qual) -> (forall v H2, Same H1 H2 -> Rep (msk (LM p P0) H2) d v -> Q v H2) -> told s (.ref f) H1 Q) :
    EvL K p a P0 ns (tFault P0 mk ex told) s H d := fun H1 e1 l1 Q q => ⟨l1.tabs, fun f c H2 e2 t2 _ hf hc => ⟨.ref f, rfl, h H2 (e1.trans e2) (l1.ext e2 t2) f c Q hf hc fun v H3 e3 r => q v H3 (e2.trans (SameX.of e3)) ((l1.ext e2 t2).up e3) r⟩⟩
theorem el_if {neg b : Bool} {ts us : TS} {E : Ends} (l : Lw K p a P0 lawQ ns H) (h : EvL K p a P0 ns ta s H d) (hb : forall H1, SameX P0 H H1 -> Lw K p a P0 lawQ ns H1 -> EvD (LM p P0) tb s H1 e) (hr : forall H1, RD (LM p P0) (rEqU neg) H1 d e (.bl b))
    (k1 : b = true -> forall H2, SameX P0 H H2 -> Lw K p a P0 lawQ ns H2 -> ts E s H2) (k2 : b = false -> forall H2, SameX P0 H H2 -> Lw K p a P0 lawQ ns H2 -> us E s H2) : tIfS (tTest (tOp (rEqU neg) ta tb)) ts us E s H :=
  h H (fun _ _ _ z => z) l _ fun x H1 e1 l1 rx => hb H1 e1 l1 H1 (Same.refl H1) _ fun y H2 e2 ry => hr H2 x y H2 (Same.refl H2) (rx.up (msk_mono e2)) ry _ fun v H3 e3 rv => ⟨b, rv, by
    have e4 : SameX P0 H H3 := e1.trans ((SameX.of e2).trans (SameX.of e3))
    have l4 := (l1.up e2).up e3
    cases b with
    | true => exact iteT (k1 rfl H3 e4 l4)
    | false => exact iteF (k2 rfl H3 e4 l4)⟩
theorem el_ret {neg b : Bool} {E : Ends} (l : Lw K p a P0 lawQ ns H) (h : EvL K p a P0 ns ta s H d) (hb : forall H1, SameX P0 H H1 -> Lw K p a P0 lawQ ns H1 -> EvD (LM p P0) tb s H1 e) (hr : forall H1, RD (LM p P0) (rEqU neg) H1 d e (.bl b))
    (k : forall H2, E.rt (.bl b) H2) : tRet (tOp (rEqU neg) ta tb) E s H :=
  h H (fun _ _ _ z => z) l _ fun x H1 e1 l1 rx => hb H1 e1 l1 H1 (Same.refl H1) _ fun y H2 e2 ry => hr H2 x y H2 (Same.refl H2) (rx.up (msk_mono e2)) ry _ fun v H3 e3 rv => by
    have ev : v = V.bl b := rv
    rw [ev]
    exact k H3
theorem rd_self {M : MK} {neg : Bool} {d : D} (h : d.ok = true) (H1 : Hp) : RD M (rEqU neg) H1 d d (.bl (!neg)) := by
  have z := rd_eqU (neg := neg) (M := M) (H := H1) h h
  rw [eqv_self d (D.ok_pl h)] at z
  cases neg <;> exact z
end
section
variable {P : Program} {w : World} {K : PySem.W.Frag} {mg : Str -> Option Value} {base : Heap}
theorem pe_faultW (T : Tx K mg) {A : Around} {outer : List Env} {s : Shared} {H : Hp} {E : XK} {tp : Addr} (TB : TabB base mg T.c_law tp) (hr : Room 9 (A.deeper (envOfC "law" (defScope s_law) s.heap.objs.size T.f_law (.ref T.c_law)))) {params : Arguments} {ex : Expr} {scope : Scope} {lpos p pos : Pos} {N fr : List Str} {js : List Nat} {te : XK -> TE}
    (S : NScope N [] fr scope) (hb : forall (q : Str) (cl : List (Str × Addr)) (pm cv ctv : Value), bindArgs (PySem.W.kla_fn "<lambda>" q params ex scope cl pm cv ctv) ⟨[], []⟩ = pure []) (hn : NdefX.ndefB (defScope s_law) scope fr = true) (hj : js.map (fun j => N22[j]?) = fr.map some)
    (hdef : defaultsOf params (LC P w base T (.ref T.c_law) A outer s H E).env = ([], []))
    (body : forall (c f : Addr) (A' : Around) (outer' : List Env) (s' : Shared) (H' : Hp) (E' : XK), Room 7 (A'.deeper (envF (mkL (LC P w base T (.ref T.c_law) A outer s H E) params scope c) f s'.heap.objs.size)) -> PE (ncx (L2.CX P w) P w K mg base N (mkL (LC P w base T (.ref T.c_law) A outer s H E) params scope c) f A' outer' s' H' E') ex (te E'))
    (he : starEach [Expr.Lambda params ex scope lpos] (LC P w base T (.ref T.c_law) A outer s H E).env = (false, eval (.Lambda params ex scope lpos) (LC P w base T (.ref T.c_law) A outer s H E).env) :: starEach [] (LC P w base T (.ref T.c_law) A outer s H E).env := by rfl) :
    PE (LC P w base T (.ref T.c_law) A outer s H E) (.Call (.Name "_law_fault" p) [.Lambda params ex scope lpos] [] pos) (tFault tp (mkL (LC P w base T (.ref T.c_law) A outer s H E) params scope) ex (toldW T (LC P w base T (.ref T.c_law) A outer s H E) params scope ex N js te)) :=
  pe_told (k := 8) T.F__law_fault rfl T.g__law_fault T.B__law_fault sc__law_fault hr passL (pa_cons (pe_lam (T := [(tp, lawQ)]) TB rfl List.mem_cons_self (fun x hx _ => by rw [List.mem_singleton.mp hx] <;> rfl) (NdefX.ndef_free (sc := defScope s_law) (fr := fr) hn) hdef) pa_nil)
    (fun pins σ s1 H1 v Q cdv I h hr => fault_told T rfl rfl rfl rfl rfl S hb (fun ok => NdefX.Caps.made ok (NdefX.ndef_free (sc := defScope s_law) hn) (NdefX.ndef_fr (sc := defScope s_law) hn) hj) body pins σ s1 H1 v Q cdv I h hr) (by decide) he rfl
theorem pe_faultD (T : Tx K mg) {A : Around} {outer : List Env} {s : Shared} {H : Hp} {E : XK} {tp : Addr} (TB : TabB base mg T.c_law tp) (hr : Room 9 (A.deeper (envOfC "law" (defScope s_law) s.heap.objs.size T.f_law (.ref T.c_law)))) {params : Arguments} {scope : Scope} {lpos p pos p1 p2 p3 : Pos}
    (S : NScope ["deed", "wrong"] [] ["deed", "wrong"] scope) (hb : forall (q : Str) (cl : List (Str × Addr)) (pm cv ctv : Value), bindArgs (PySem.W.kla_fn "<lambda>" q params (.Call (.Name "deed" p1) [.Name "wrong" p2] [] p3) scope cl pm cv ctv) ⟨[], []⟩ = pure []) (hn : NdefX.ndefB (defScope s_law) scope ["deed", "wrong"] = true)
    (hdef : defaultsOf params (LC P w base T (.ref T.c_law) A outer s H E).env = ([], []))
    (he : starEach [Expr.Lambda params (.Call (.Name "deed" p1) [.Name "wrong" p2] [] p3) scope lpos] (LC P w base T (.ref T.c_law) A outer s H E).env = (false, eval (.Lambda params (.Call (.Name "deed" p1) [.Name "wrong" p2] [] p3) scope lpos) (LC P w base T (.ref T.c_law) A outer s H E).env) :: starEach [] (LC P w base T (.ref T.c_law) A outer s H E).env := by rfl) :
    PE (LC P w base T (.ref T.c_law) A outer s H E) (.Call (.Name "_law_fault" p) [.Lambda params (.Call (.Name "deed" p1) [.Name "wrong" p2] [] p3) scope lpos] [] pos) (tFault tp (mkL (LC P w base T (.ref T.c_law) A outer s H E) params scope) (.Call (.Name "deed" p1) [.Name "wrong" p2] [] p3) (toldD P w K mg base T (LC P w base T (.ref T.c_law) A outer s H E) params scope (.Call (.Name "deed" p1) [.Name "wrong" p2] [] p3) 21 20)) :=
  pe_told (k := 8) T.F__law_fault rfl T.g__law_fault T.B__law_fault sc__law_fault hr passL (pa_cons (pe_lam (T := [(tp, lawQ)]) TB rfl List.mem_cons_self (fun x hx _ => by rw [List.mem_singleton.mp hx] <;> rfl) (NdefX.ndef_free (sc := defScope s_law) (fr := ["deed", "wrong"]) hn) hdef) pa_nil)
    (fun pins σ s1 H1 v Q cdv I h hr => fault_toldD T rfl rfl rfl rfl rfl S hb (fun ok => NdefX.Caps.made ok (NdefX.ndef_free (sc := defScope s_law) hn) (NdefX.ndef_fr (sc := defScope s_law) hn) rfl) pins σ s1 H1 v Q cdv I h hr) (by decide) he rfl
end

end K01
namespace K01
open PySem PySem.Spec PyProof.Rows L2 Ak
/-! ### the law's last part: what is refused -/
open NdefX (NF envF ncx NScope CellsAt Caps startF slotAt slotAt_of nscope_by cells_of)
open LamX (CodeO TabS Tabs ExtN TabB)
section
variable {K : PySem.W.Frag} {mg : Str -> Option Value} {M : MK} {H H' : Hp} {Q : VK} {dy : Addr} {ys : List (Str × V)}
theorem fq_bad (T : Tx K mg) {part : Str} {n : D} (m : Mok M H') (hd : H' dy = some (.xd ys)) (r : RepF (msk M H') [("number", n), ("part", .str part)] ys) (q : forall v H2, Same H' H2 -> Rep (msk M H2) (.tup [.str part, n]) v -> Q v H2) : FaultQ T Q (.ref T.C_BadGraph) (some dy) H' := by
  obtain ⟨x, xs, rfl, rx, y, zs, rfl, ry, rfl⟩ := r
  exact ⟨dy, _, rfl, hd, .inl ⟨rfl, y, x, rfl, rfl, fun p hp => q _ _ (same_new hp) ⟨p, [y, x], rfl, msk_new m hp, y, [x], rfl, ry.up (msk_mono (same_new hp)), x, [], rfl, rx.up (msk_mono (same_new hp)), rfl⟩⟩⟩
theorem fq_name (T : Tx K mg) {n : D} (m : Mok M H') (hd : H' dy = some (.xd ys)) (r : RepF (msk M H') [("name", n)] ys) (q : forall v H2, Same H' H2 -> Rep (msk M H2) (.tup [.str "name", n]) v -> Q v H2) : FaultQ T Q (.ref T.C_BadName) (some dy) H' := by
  obtain ⟨x, xs, rfl, rx, rfl⟩ := r
  exact ⟨dy, _, rfl, hd, .inr (.inl ⟨rfl, x, rfl, fun p hp => q _ _ (same_new hp) ⟨p, [.str "name", x], rfl, msk_new m hp, .str "name", [x], rfl, rfl, x, [], rfl, rx.up (msk_mono (same_new hp)), rfl⟩⟩)⟩
theorem fq_large (T : Tx K mg) {n : Int} (m : Mok M H') (hd : H' dy = some (.xd ys)) (r : RepF (msk M H') [("number", .int n)] ys) (q : forall v H2, Same H' H2 -> Rep (msk M H2) (.tup [.str "large", .int n]) v -> Q v H2) : FaultQ T Q (.ref T.C_TooLarge) (some dy) H' := by
  obtain ⟨x, xs, rfl, rx, rfl⟩ := r
  exact ⟨dy, _, rfl, hd, .inr (.inr ⟨rfl, x, rfl, fun p hp => q _ _ (same_new hp) ⟨p, [.str "large", x], rfl, msk_new m hp, .str "large", [x], rfl, rfl, x, [], rfl, rx.up (msk_mono (same_new hp)), rfl⟩⟩)⟩
def faultD : GFault -> D
  | .bad p n => .tup [.str p, n]
  | .large n => .tup [.str "large", .int n]
/-- Graph(..) within the lambda, refused -/
theorem wish_graph (T : Tx K mg) {tr : TA} {σ0 : L2.St} {c a : D} {f : GFault} {Q' : VK} (m : Mok M H) (h : EvDs M tr σ0 H [c, a]) (hc : c.fi = true) (ha : a.fi = true) (hf : gFault c a = some f) (q : forall v H2, Same H H2 -> Rep (msk M H2) (faultD f) v -> Q v H2) :
    tMake T.C_Graph (SpI T.C_Graph R_init (X_init T)) [] (FaultQ T Q) tr σ0 H Q' := h H (Same.refl H) _ fun vs H2 e2 rs x dx hx hdx hne => by
  rw [List.append_nil]
  cases f with
  | bad p n =>
    refine make_err (m.up e2) rs (C' := T.C_BadGraph) (fs := [("number", n), ("part", .str p)]) ⟨c, a, _, rfl, hc, ha, hf, rfl, rfl⟩ (fun dy ys H' e3 _ h3 r => ?_) hx hdx hne
    exact fq_bad T ((m.up e2).up e3) h3 r fun v H4 e4 r4 => q v H4 (e2.trans (e3.trans e4)) r4
  | large n =>
    refine make_err (m.up e2) rs (C' := T.C_TooLarge) (fs := [("number", .int n)]) ⟨c, a, _, rfl, hc, ha, hf, rfl, rfl⟩ (fun dy ys H' e3 _ h3 r => ?_) hx hdx hne
    exact fq_large T ((m.up e2).up e3) h3 r fun v H4 e4 r4 => q v H4 (e2.trans (e3.trans e4)) r4
end

end K01
namespace K01
open PySem PySem.Spec PyProof.Rows L2 Ak
/-! ### the two kept lambdas -/
open NdefX (NF envF ncx NScope CellsAt Caps startF slotAt slotAt_of nscope_by cells_of)
open LamX (CodeO TabS Tabs ExtN TabB)
def forIter : Stmt -> List Expr
  | .For _ (.Tuple es _ _) _ _ _ => es
  | _ => []
def lamP : Expr -> Arguments
  | .Lambda q _ _ _ => q
  | _ => ⟨[], [], none, [], [], none, []⟩
def lamB : Expr -> Expr
  | .Lambda _ b _ _ => b
  | e => e
def lamS : Expr -> Scope
  | .Lambda _ _ c _ => c
  | _ => defScope s_law
def kept (i : Nat) : Expr := (forIter ((defBody s_law).getD 22 (.Pass ⟨0, 0, 0, 0⟩))).getD i (.Constant .none 0 ⟨0, 0, 0, 0⟩)
section
variable {P : Program} {w : World} {K : PySem.W.Frag} {mg : Str -> Option Value} {base : Heap}
def te1 (T : Tx K mg) : XK -> TE := fun E => (tMeth T.C_Graph "reached" (SpE (R_reached T) (X_reached T)) [] E (tVar 1) (tCons (tVar 0) tNil))
def te2 (T : Tx K mg) : XK -> TE := fun E => (tMeth T.C_Graph "only" (SpE (R_only T) (X_only T)) [] E (tVar 1) (tCons (tLst (tCons (tVar 0) tNil)) tNil))
theorem lam1_ok (T : Tx K mg) {A : Around} {outer : List Env} {s : Shared} {H : Hp} {E : XK} : LamOk P w K mg base (LC P w base T (.ref T.c_law) A outer s H E) 6 (lamP (kept 0)) (lamS (kept 0)) (lamB (kept 0)) ["one", "graph"] ["one"] ["graph"] [5] (te1 T) where
  sc := nscope_by (by decide +kernel)
  bind := fun _ _ _ _ _ us hl => match us, hl with | [_], _ => rfl
  caps := fun ok => NdefX.Caps.made ok (NdefX.ndef_free (sc := defScope s_law) (fr := ["graph"]) (by decide +kernel)) (NdefX.ndef_fr (sc := defScope s_law) (by decide +kernel)) rfl
  body := fun c f A outer s H E hr => (pe_meth (pv 1) T.cls_Graph T.m_Graph_reached (ok_Graph_reached T) (hr.mono (by decide)) T.B_Graph_reached .nil (passes_call (takes_of rfl rfl rfl rfl) (fun _ _ _ _ h => h)) (pa_cons (pv 0) pa_nil))
theorem lam2_ok (T : Tx K mg) {A : Around} {outer : List Env} {s : Shared} {H : Hp} {E : XK} : LamOk P w K mg base (LC P w base T (.ref T.c_law) A outer s H E) 6 (lamP (kept 1)) (lamS (kept 1)) (lamB (kept 1)) ["two", "graph"] ["two"] ["graph"] [5] (te2 T) where
  sc := nscope_by (by decide +kernel)
  bind := fun _ _ _ _ _ us hl => match us, hl with | [_], _ => rfl
  caps := fun ok => NdefX.Caps.made ok (NdefX.ndef_free (sc := defScope s_law) (fr := ["graph"]) (by decide +kernel)) (NdefX.ndef_fr (sc := defScope s_law) (by decide +kernel)) rfl
  body := fun c f A outer s H E hr => (pe_meth (pv 1) T.cls_Graph T.m_Graph_only (ok_Graph_only T) (hr.mono (by decide)) T.B_Graph_only .nil (passes_call (takes_of rfl rfl rfl rfl) (fun _ _ _ _ h => h)) (pa_cons (pe_lst (pa_cons (pv 0) pa_nil)) pa_nil))
end
section
variable {K : PySem.W.Frag} {M : MK} {H : Hp} {E : XK} {σ0 : L2.St} {to : TE} {tr : TA} {ds : List D} {Q : VK}
theorem wish_meth {C C' : Addr} {nm : Str} {R : List D -> D -> Prop} {X : List D -> Addr -> List (Str × D) -> Prop} {fs fx : List (Str × D)} (m : Mok M H) (ho : EvD M to σ0 H (.ins C fs)) (hl : fs.lookup nm = none) (h : EvDs M tr σ0 H ds) (hX : X (.ins C fs :: ds) C' fx)
    (q : forall dx ws H', Same H H' -> H' dx = some (.xd ws) -> RepF (msk M H') fx ws -> E (.ref C') (some dx) H') : tMeth C nm (SpE R X) [] E to tr σ0 H Q := ho H (Same.refl H) _ fun v H2 e2 r => by
  obtain ⟨a, dx, vs, ev, ha, rf⟩ := id r
  refine ⟨a, dx, vs, ev, msk_same _ _ ha, rf.none hl, h H2 e2 _ fun ws H3 e3 rs => ?_⟩
  exact ⟨M, .ins C fs :: ds, (m.up e2).up e3, ⟨v, ws, by rw [List.append_nil], r.up (msk_mono e3), rs⟩, .inr ⟨C', fx, hX, fun dx ws H' e4 _ h4 r4 => q dx ws H' ((e2.trans e3).trans e4) h4 r4⟩⟩
theorem lw_kp {p a P0 : Addr} {ns : List Int} {H' : Hp} (l : Lw K p a P0 lawQ ns H) (e : SameX P0 H H') : Kp (LM p P0) H H' := ⟨Fx.of (lw_ext e), fun {b od u} h => e b _ (fun z => by
  obtain ⟨ps, g, _⟩ := l.tab
  rw [z, g] at h
  cases h) h⟩
end

end K01
namespace K01
open PySem PySem.Spec PyProof.Rows L2 Ak
/-! ### the law's end -/
open NdefX (NF envF ncx NScope CellsAt Caps startF slotAt slotAt_of nscope_by cells_of)
open LamX (CodeO TabS Tabs ExtN TabB)
abbrev S22 (o0 o1 o2 o3 o4 o5 o6 o7 o8 o9 o10 o11 o12 o13 o14 o15 o16 o17 o18 o19 o20 o21 : Option V) : L2.St := [o0, o1, o2, o3, o4, o5, o6, o7, o8, o9, o10, o11, o12, o13, o14, o15, o16, o17, o18, o19, o20, o21]
section
variable {P : Program} {w : World} {K : PySem.W.Frag} {mg : Str -> Option Value} {base : Heap}
def wrongs (k : Int) : List D := [.int (-1), .int k, .non, .str "0", .bl true]
theorem wrong_not {d : D} {k : Nat} (h : d ∈ wrongs k) : d.fi = true ∧ nodeIn d k = false := by
  unfold wrongs at h
  simp only [List.mem_cons, List.not_mem_nil, or_false] at h
  rcases h with h | h | h | h | h
  · subst h
    refine ⟨rfl, ?_⟩
    show (decide ((0 : Int) ≤ -1) && decide ((-1 : Int) < k)) = false
    rw [decide_eq_false (by decide)] <;> rfl
  · subst h
    refine ⟨rfl, ?_⟩
    show (decide ((0 : Int) ≤ k) && decide ((k : Int) < k)) = false
    rw [decide_eq_false (p := (k : Int) < k) (by omega), Bool.and_false]
  · subst h
    exact ⟨rfl, rfl⟩
  · subst h
    exact ⟨rfl, rfl⟩
  · subst h
    exact ⟨rfl, rfl⟩
theorem wrong_ok {d : D} {k : Nat} (h : d ∈ wrongs k) : (D.tup [.str "name", d]).ok = true := by
  unfold wrongs at h
  simp only [List.mem_cons, List.not_mem_nil, or_false] at h
  rcases h with h | h | h | h | h
  · subst h
    exact (dP dStr dInt).ok (by decide) ("name", -1)
  · subst h
    exact (dP dStr dInt).ok (by decide) ("name", (k : Int))
  · subst h
    decide
  · subst h
    exact (dP dStr dStr).ok (by decide) ("name", "0")
  · subst h
    decide
theorem wish1 (T : Tx K mg) {p a P0 : Addr} {ns : List Int} {cs : List Str} {as : List Arrow} {d : D} {vw vg : V} {H : Hp} {Q Q' : VK} (l : Lw K p a P0 lawQ ns H) (rw_ : Rep (msk (LM p P0) H) d vw) (rg : Rep (msk (LM p P0) H) (graphD T cs as) vg) (fw : d.fi = true) (nw : nodeIn d cs.length = false)
    (q : forall v H2, Same H H2 -> Rep (msk (LM p P0) H2) (.tup [.str "name", d]) v -> Q v H2) : te1 T (FaultQ T Q) [some vw, some vg] H Q' :=
  wish_meth (fs := fieldsD cs as) (ds := [d]) l.mok (ev_var rfl rg) rfl (ea_one (ev_var rfl rw_)) ⟨cs, as, d, rfl, fw, nw, rfl, rfl⟩ fun dx ws H' e h r => fq_name T (l.mok.up e) h r fun v H2 e2 r2 => q v H2 (e.trans e2) r2
theorem wish2 (T : Tx K mg) {p a P0 : Addr} {ns : List Int} {cs : List Str} {as : List Arrow} {d : D} {vw vg : V} {H : Hp} {Q Q' : VK} (l : Lw K p a P0 lawQ ns H) (rw_ : Rep (msk (LM p P0) H) d vw) (rg : Rep (msk (LM p P0) H) (graphD T cs as) vg) (fw : d.fi = true) (nw : nodeIn d cs.length = false)
    (q : forall v H2, Same H H2 -> Rep (msk (LM p P0) H2) (.tup [.str "name", d]) v -> Q v H2) : te2 T (FaultQ T Q) [some vw, some vg] H Q' :=
  wish_meth (fs := fieldsD cs as) (ds := [.lst [d]]) l.mok (ev_var rfl rg) rfl (ea_one (ev_lst l.mok (ea_one (ev_var rfl rw_)))) ⟨cs, as, .lst [d], [d], 0, d, rfl, (by show (decide (([d] : List D).length ≤ 100000) && (d.fi && true)) = true; rw [fw] <;> rfl), rfl, rfl, nw, (fun j e h => absurd h (Nat.not_lt_zero _)), rfl, rfl⟩ fun dx ws H' e h r => fq_name T (l.mok.up e) h r fun v H2 e2 r2 => q v H2 (e.trans e2) r2
/-- n times the same -/
theorem rep_one (n : Nat) (d : D) : (List.replicate n [d]).flatten = List.replicate n d := by
  induction n with
  | zero => rfl
  | succ n ih => rw [List.replicate_succ, List.flatten_cons, ih, List.replicate_succ] <;> rfl
theorem rep_fi {n : Nat} {d : D} (hn : n ≤ 100000) (hd : d.fi = true) : (D.lst (List.replicate n d)).fi = true := by
  show (decide ((List.replicate n d).length ≤ 100000) && D.fis (List.replicate n d)) = true
  rw [decide_eq_true (by rw [List.length_replicate]; exact hn), fis_all.mpr fun e he => by rw [List.eq_of_mem_replicate he]; exact hd] <;> rfl
theorem rep_find {n : Nat} {d : D} {p : D -> Bool} (h : p d = false) : (List.replicate n d).findIdx? p = none := List.findIdx?_eq_none_iff.mpr fun e he => by rw [List.eq_of_mem_replicate he, h]
theorem large_nodes {n : Nat} (h : 1000 < n) : gFault (.lst (List.replicate n (.str "r"))) (.lst []) = some (.large n) := by
  have e1 : (List.replicate n (D.str "r")).findIdx? (fun d => !isNm d) = none := rep_find (by decide)
  unfold gFault
  show (match (List.replicate n (D.str "r")).findIdx? (fun d => !isNm d) with | some i => _ | none => _) = _
  rw [e1]
  show (if 1000 < (List.replicate n (D.str "r")).length then some (GFault.large (List.replicate n (D.str "r")).length) else _) = _
  rw [List.length_replicate, if_pos h]
theorem large_arrows {m n : Nat} (h0 : 0 < m) (h1 : m ≤ 1000) (h : 10000 < n) : gFault (.lst (List.replicate m (.str "r"))) (.lst (List.replicate n (.tup [.int 0, .str "a", .int 0]))) = some (.large n) := by
  have e1 : (List.replicate m (D.str "r")).findIdx? (fun d => !isNm d) = none := rep_find (by decide)
  have e2 : (List.replicate n (D.tup [.int 0, .str "a", .int 0])).findIdx? (fun d => !isArr d (m : Int)) = none := rep_find (by
    show (!(isNm (.str "a") && (nodeIn (.int 0) m && nodeIn (.int 0) m))) = false
    have z : nodeIn (.int 0) (m : Int) = true := by
      show (decide ((0 : Int) ≤ 0) && decide ((0 : Int) < m)) = true
      rw [decide_eq_true (by decide : (0 : Int) ≤ 0), decide_eq_true (by omega : (0 : Int) < m)] <;> rfl
    rw [z]
    decide)
  unfold gFault
  show (match (List.replicate m (D.str "r")).findIdx? (fun d => !isNm d) with | some i => _ | none => _) = _
  rw [e1]
  show (match (List.replicate n (D.tup [.int 0, .str "a", .int 0])).findIdx? (fun d => !isArr d ((List.replicate m (D.str "r")).length : Int)) with | some i => _ | none => _) = _
  rw [List.length_replicate, e2]
  show (if 1000 < m then _ else if 10000 < (List.replicate n (D.tup [.int 0, .str "a", .int 0])).length then some (GFault.large (List.replicate n (D.tup [.int 0, .str "a", .int 0])).length) else none) = _
  rw [if_neg (by omega), List.length_replicate, if_pos h]
theorem lam_off {p a P0 f : Addr} {ns : List Int} {H H' : Hp} {F : NF} {ex : Expr} (l : Lw K p a P0 lawQ ns H) (h : H f = some (LamO f F ex)) (e : SameX P0 H H') : H' f = some (LamO f F ex) := e _ _ (fun z => by
  obtain ⟨ps, g, _⟩ := l.tab
  rw [z, g] at h
  exact lamO_ne ps (Option.some.inj h).symm) h
theorem code_off {p a P0 c : Addr} {ns : List Int} {H H' : Hp} {q : Str} (l : Lw K p a P0 lawQ ns H) (h : H c = some (CodeO c q)) (e : SameX P0 H H') : H' c = some (CodeO c q) := e _ _ (fun z => by
  obtain ⟨ps, g, _⟩ := l.tab
  rw [z, g] at h
  exact LamX.codeO_ne ps (Option.some.inj h).symm) h
theorem for_val {te : TE} {g : TG} {tb : TS} {E : Ends} {s : L2.St} {H : Hp} (h : te s H fun v H1 => tFor (iAny K fun _ H Q => Q v H) g tb E s H1) : tFor (iAny K te) g tb E s H := h
theorem law6 (T : Tx K mg) {A : Around} {outer : List Env} {s : Shared} {H : Hp} {E : XK} {tp : Addr} (TB : TabB base mg T.c_law tp) (hr : Room 11 (A.deeper (envOfC "law" (defScope s_law) s.heap.objs.size T.f_law (.ref T.c_law)))) {Q : VK} (hQ : forall H2, Q (.bl true) H2) :
    exists t, PSs (LC P w base T (.ref T.c_law) A outer s H E) (List.drop 21 (defBody s_law)) t ∧ forall (p a : Addr) (ns : List Int) (cs : List Str) (as : List Arrow) (v0 vc va vg : V) (o4 o7 o8 o9 o10 o11 o12 o13 o14 o15 o16 o17 o18 o19 o20 o21 : Option V) (H1 : Hp),
      Lw K p a tp lawQ ns H1 -> ns.length ≤ 1000 -> okG cs as -> 0 < cs.length -> Rep (msk (LM p tp) H1) (graphD T cs as) vg ->
      t { nx := fun _ H' => Q .non H', rt := Q } (S22 (some v0) (some (.ref p)) (some vc) (some va) o4 (some vg) (some (.int cs.length)) o7 o8 o9 o10 o11 o12 o13 o14 o15 o16 o17 o18 o19 o20 o21) H1 := by
  refine ⟨_, (pss_cons (ps_set (i := 20) sc_law.nd rfl (.inr rfl) (pe_call (ok__law_pick T) (hr.mono (by decide)) rfl T.g__law_pick T.F__law_pick.kp (T.B__law_pick) .nil passL (pa_cons (pv 1) (pa_cons (pe_lst (pa_cons (pe_un un_neg pe_int) (pa_cons (pv 6) (pa_cons pe_non (pa_cons pe_str (pa_cons pe_bl pa_nil)))))) pa_nil))))
      (pss_cons (ps_for PassesOwn.leaving rfl (pi_any (pe_tup (pa_cons (pe_lam (T := [(tp, lawQ)]) TB rfl (by exact List.mem_cons_self) (fun p hp _ => by rw [List.mem_singleton.mp hp] <;> rfl) (NdefX.ndef_free (sc := defScope s_law) (fr := ["graph"]) (by decide +kernel)) rfl) (pa_cons (pe_lam (T := [(tp, lawQ)]) TB rfl (by exact List.mem_cons_self) (fun p hp _ => by rw [List.mem_singleton.mp hp] <;> rfl) (NdefX.ndef_free (sc := defScope s_law) (fr := ["graph"]) (by decide +kernel)) rfl) pa_nil)))) (pg_name (i := 21) sc_law.nd rfl (.inr rfl))
      (pss_one (ps_if (pt_cmpR (op_neU hr.units) (pe_faultD T TB (hr.mono (by decide)) (NdefX.nscope_by (by decide +kernel)) (fun _ _ _ _ _ => rfl) (by decide +kernel) rfl) (pe_tup (pa_cons pe_str (pa_cons (pv 20) pa_nil))) (nomark _)) (pss_one (ps_ret pe_bl)) pss_nil)))
      (pss_cons (ps_if (pt_cmpR op_gt (pe_call (ok__law_take T) (hr.mono (by decide)) rfl T.g__law_take T.F__law_take.kp (T.B__law_take) .nil passL (pa_cons (pv 1) (pa_cons pe_int pa_nil))) pe_int (nomark _)) (pss_one (ps_ret pe_bl)) pss_nil)
      (pss_cons (ps_if (pt_cmpR (op_neU hr.units) (pe_faultW T TB (hr.mono (by decide)) (N := []) (fr := []) (js := []) (te := fun E => (tMake T.C_Graph (SpI T.C_Graph R_init (X_init T)) [] E (tCons (tOp (rMulX) (tLst (tCons (tC (.str "r")) tNil)) (tC (.int 1001))) (tCons (tLst tNil) tNil)))) (NdefX.nscope_by (by decide +kernel)) (fun _ _ _ _ _ => rfl) (by decide +kernel) rfl rfl (fun c f A outer s H E hr => by exact (pe_make T.mk_Graph (ok_Graph_init T) (hr.mono (by decide)) rfl T.g_Graph T.B_Graph_init .nil (passes_call (takes_of rfl rfl rfl rfl) (fun _ _ _ _ h => h)) (pa_cons (pe_op op_mulX (pe_lst (pa_cons pe_str pa_nil)) pe_int) (pa_cons (pe_lst pa_nil) pa_nil))))) (pe_tup (pa_cons pe_str (pa_cons pe_int pa_nil))) (nomark _)) (pss_one (ps_ret pe_bl)) pss_nil)
      (pss_one (ps_ret (pe_cmpR (op_eqU hr.units) (pe_faultW T TB (hr.mono (by decide)) (N := []) (fr := []) (js := []) (te := fun E => (tMake T.C_Graph (SpI T.C_Graph R_init (X_init T)) [] E (tCons (tOp (rMulX) (tLst (tCons (tC (.str "r")) tNil)) (tC (.int 1000))) (tCons (tOp (rMulX) (tLst (tCons (tTup (tCons (tC (.int 0)) (tCons (tC (.str "a")) (tCons (tC (.int 0)) tNil)))) tNil)) (tC (.int 10001))) tNil)))) (NdefX.nscope_by (by decide +kernel)) (fun _ _ _ _ _ => rfl) (by decide +kernel) rfl rfl (fun c f A outer s H E hr => by exact (pe_make T.mk_Graph (ok_Graph_init T) (hr.mono (by decide)) rfl T.g_Graph T.B_Graph_init .nil (passes_call (takes_of rfl rfl rfl rfl) (fun _ _ _ _ h => h)) (pa_cons (pe_op op_mulX (pe_lst (pa_cons pe_str pa_nil)) pe_int) (pa_cons (pe_op op_mulX (pe_lst (pa_cons (pe_tup (pa_cons pe_int (pa_cons pe_str (pa_cons pe_int pa_nil)))) pa_nil)) pe_int) pa_nil))))) (pe_tup (pa_cons pe_str (pa_cons pe_int pa_nil))) (nomark _)))))))), ?_⟩
  intro p a ns cs as v0 vc va vg o4 o7 o8 o9 o10 o11 o12 o13 o14 o15 o16 o17 o18 o19 o20 o21 H1 l hn ok pos rg
  refine st_seq (st_setC (M := LM p tp) (C := fun d => d ∈ wrongs cs.length) l.drw ((ec_call l.mok lm_p l.scr l.drw hn rfl (ecs_cons lm_p (ec_pure fun H2 e2 d2 => ev_lst (e2.mok d2 l.mok) (ea_cons (ev_neg ev_int) (ea_cons (ev_var (d := .int cs.length) rfl rfl) (ea_cons ev_non (ea_cons ev_str (ea_one ev_bl)))))) ecs_nil) ?_).imp ?_) ?_)
  · rintro ds ⟨d, e, rfl, rfl, rfl⟩
    exact ⟨_, rfl, by simp, by simp⟩
  · rintro d ⟨ds, ⟨d', e, rfl, rfl, rfl⟩, es, ee, hm⟩
    cases ee
    exact hm
  rintro dw vw H2 hw e2 d2 rw_
  obtain ⟨fw, nw⟩ := wrong_not hw
  have l2 := l.upx e2 d2
  have rg2 := rg.up (e2.msk lm_p)
  dsimp only
  -- the two kept lambdas
  refine st_seq (for_val ⟨l2.tabs, fun f1 c1 H3 e3 t3 n3 hf1 hc1 => ⟨t3, fun f2 c2 H4 e4 t4 n4 hf2 hc2 => ?_⟩⟩)
  have l3 := l2.ext e3 t3
  have l4 := l3.ext e4 t4
  refine ⟨by rw [sizeLine_eq]; simp, fun tt ht => ?_⟩
  have e5 := same_new (o := .tup [.ref f1, .ref f2]) ht
  have l5 := l4.up e5
  have rt : Rep (msk (LM p tp) (upd H4 tt (.tup [.ref f1, .ref f2]))) (.tup [.oth (.ref f1), .oth (.ref f2)]) (.ref tt) := ⟨tt, _, rfl, msk_new l4.mok ht, .ref f1, [.ref f2], rfl, rfl, .ref f2, [], rfl, rfl, rfl⟩
  have hf1 := lam_off l3 hf1 (e4.trans (SameX.of e5))
  have hc1 := code_off l3 hc1 (e4.trans (SameX.of e5))
  have hf2 := e5 _ _ hf2
  have hc2 := e5 _ _ hc2
  have e25 := e3.trans (e4.trans (SameX.of e5))
  generalize upd H4 tt (.tup [.ref f1, .ref f2]) = H5 at e5 l5 rt hf1 hc1 hf2 hc2 e25
  have rg5 := rg2.up (lw_ext e25)
  have rw5 := rw_.up (lw_ext e25)
  refine st_for (M := LM p tp) (ds := [.oth (.ref f1), .oth (.ref f2)]) l5.mok (ia_tup fun H6 e6 Q q => q _ H6 (Same.refl H6) (rt.up (msk_mono e6))) (fun H6 i s' H' => Lw K p a tp lawQ ns H6 ∧ SameX tp H6 H' ∧ Lw K p a tp lawQ ns H' ∧ exists o, s' = S22 (some v0) (some (.ref p)) (some vc) (some va) o4 (some vg) (some (.int cs.length)) o7 o8 o9 o10 o11 o12 o13 o14 o15 o16 o17 o18 o19 (some vw) o)
    (fun H6 e6 => ⟨l5.up e6, fun _ _ _ h => h, l5.up e6, o21, rfl⟩) (fun H6 i s' H' h => lw_kp h.1 h.2.1) ?_ ?_
  · rintro H6 i d x s' H' H'' e6 hi hd ⟨l6, e7, l7, o, rfl⟩ e8 rx
    have l8 := l7.up e8
    have e58 : SameX tp H5 H'' := (SameX.of e6).trans (e7.trans (SameX.of e8))
    have rx := rx (LM p tp) l7.mok (fun _ z => .inl z)
    have rg8 := rg5.up (lw_ext e58)
    have rw8 := rw5.up (lw_ext e58)
    have key : exists f0 c0 params0 scope0 ex0 N0 x0 fr0 js0 te0, x = V.ref f0 ∧ H'' f0 = some (LamO f0 (mkL (LC P w base T (.ref T.c_law) A outer s H E) params0 scope0 c0) ex0) ∧ H'' c0 = some (CodeO c0 ((LC P w base T (.ref T.c_law) A outer s H E).env.qual ++ "<lambda>")) ∧ LamOk P w K mg base (LC P w base T (.ref T.c_law) A outer s H E) 6 params0 scope0 ex0 N0 [x0] fr0 js0 te0 ∧
        forall H9, SameX tp H'' H9 -> Lw K p a tp lawQ ns H9 -> forall (Q Q' : VK), (forall v H2, Same H9 H2 -> Rep (msk (LM p tp) H2) (.tup [.str "name", dw]) v -> Q v H2) ->
          te0 (FaultQ T Q) (startF N0 [vw] (js0.map (slotAt (S22 (some v0) (some (.ref p)) (some vc) (some va) o4 (some vg) (some (.int cs.length)) o7 o8 o9 o10 o11 o12 o13 o14 o15 o16 o17 o18 o19 (some vw) (some x))))) H9 Q' := by
      match i, hi with
      | 0, _ =>
        cases hd
        exact ⟨f1, c1, _, _, _, _, _, _, _, te1 T, rx, lam_off l5 hf1 e58, code_off l5 hc1 e58, lam1_ok T, fun H9 e9 l9 Q Q' q => wish1 T l9 (rw8.up (lw_ext e9)) (rg8.up (lw_ext e9)) fw nw q⟩
      | 1, _ =>
        cases hd
        exact ⟨f2, c2, _, _, _, _, _, _, _, te2 T, rx, lam_off l5 hf2 e58, code_off l5 hc2 e58, lam2_ok T, fun H9 e9 l9 Q Q' q => wish2 T l9 (rw8.up (lw_ext e9)) (rg8.up (lw_ext e9)) fw nw q⟩
    obtain ⟨f0, c0, params0, scope0, ex0, N0, x0, fr0, js0, te0, rfl, hf0, hc0, L0, hw0⟩ := key
    refine el_if (d := .tup [.str "name", dw]) (e := .tup [.str "name", dw]) (b := false) l8 (el_told fun H9 e9 l9 f c Q hf hc q => ⟨f, c, f0, c0, vw, params0, scope0, ex0, N0, x0, fr0, js0, te0, rfl, hf, hc, rfl, rfl, lam_off l8 hf0 e9, code_off l8 hc0 e9, L0, hw0 H9 e9 l9 Q _ q⟩)
      (fun H9 e9 l9 => ev_tup l9.mok (ea_cons ev_str (ea_one (ev_var rfl (rw8.up (lw_ext e9)))))) (rd_self (neg := true) ?_) (fun z => nomatch z) fun _ H9 e9 l9 => ?_
    · exact wrong_ok hw
    · exact ⟨l6, e7.trans ((SameX.of e8).trans e9), l9, some (.ref f0), rfl⟩
  rintro H6 s' H' e6 ⟨l6, e7, l7, o, rfl⟩
  dsimp only
  have M1 := l7.mok
  refine st_seq (st_ifC (p := p) (a := a) True (etC (M := LM p tp) (C := fun d => exists b, d = .bl b) l7.drw (ec_op (C1 := fun d => exists k : Int, d = .int k) lm_p ((ec_call l7.mok lm_p l7.scr l7.drw hn rfl (ecs_cons lm_p (ec_pure fun H2 e2 d2 => ev_int (i := 20)) ecs_nil) ?_).imp ?_) (ec_pure fun H2 e2 d2 => ev_int (i := 0)) ?_) fun d h => h) (fun H9 e9 d9 => st_ret (M := LM p tp) ev_bl fun y H10 e10 ry => ?_) fun H9 e9 d9 => ?_)
  · rintro ds ⟨d, e, rfl, rfl, rfl⟩
    exact ⟨20, rfl, by decide⟩
  · rintro d ⟨ds, ⟨d', e, rfl, rfl, rfl⟩, n', k, ek, h1, h2, rfl⟩
    exact ⟨k, rfl⟩
  · rintro d e ⟨k, rfl⟩ rfl
    exact ⟨_, ⟨_, rfl⟩, fun H1 => rd_gt⟩
  · rw [show y = V.bl true from ry]
    exact hQ _
  have l9 := l7.upx e9 d9
  dsimp only
  have many : forall {σ0 : L2.St} {H : Hp} {n : Nat} {d : D} {te : TE}, Mok (LM p tp) H -> (n : Int) < 2 ^ 63 -> n ≤ 100000 -> EvD (LM p tp) te σ0 H d -> EvD (LM p tp) (tOp rMulX (tLst (tCons te tNil)) (tC (.int n))) σ0 H (.lst (List.replicate n d)) := fun {σ0 H n d te} m h1 h2 h => by
    have z := ev_op (r := rMulX) (ev_lst m (ea_one h)) (ev_int (i := n)) (rd_mulN (k := (n : Int)) m (by omega) h1 (by rw [sizeLine_eq]; simp; omega))
    rw [show ((n : Int)).toNat = n by omega, rep_one] at z
    exact z
  refine st_seq (el_if (d := .tup [.str "large", .int 1001]) (e := .tup [.str "large", .int 1001]) (b := false) l9 (el_told fun H10 e10 l10 f c Q hf hc q => ⟨f, c, rfl, hf, hc, wish_graph T (f := .large 1001) l10.mok (ea_cons (many (n := 1001) l10.mok (by decide) (by decide) ev_str) (ea_one (ev_lst l10.mok ea_nil))) (rep_fi (by decide) rfl) rfl (large_nodes (by decide)) q⟩)
    (fun H10 e10 l10 => ev_tup l10.mok (ea_cons ev_str (ea_one ev_int))) (rd_self (neg := true) ((dP dStr dInt).ok (by decide) ("large", 1001))) (fun z => nomatch z) fun _ H10 e10 l10 => ?_)
  exact el_ret (d := .tup [.str "large", .int 10001]) (e := .tup [.str "large", .int 10001]) (b := true) l10 (el_told fun H11 e11 l11 f c Q hf hc q => ⟨f, c, rfl, hf, hc, wish_graph T (f := .large 10001) l11.mok (ea_cons (many (n := 1000) l11.mok (by decide) (by decide) ev_str) (ea_one (many (n := 10001) l11.mok (by decide) (by decide) (ev_tup l11.mok (ea_cons ev_int (ea_cons ev_str (ea_one ev_int))))))) (rep_fi (by decide) rfl) (rep_fi (by decide) (by decide)) (large_arrows (by decide) (by decide) (by decide)) q⟩)
    (fun H11 e11 l11 => ev_tup l11.mok (ea_cons ev_str (ea_one ev_int))) (rd_self (neg := false) ((dP dStr dInt).ok (by decide) ("large", 10001))) hQ
end

end K01
namespace K01
open PySem PySem.Spec PyProof.Rows L2 Ak
/-! ### the law: plain facts -/
theorem yields_sub {ds es : List D} (h : Yields (fun d o => o = none ∨ o = some d) ds es) : es.Sublist ds := by
  induction h with
  | nil => exact List.Sublist.refl _
  | some h c ih =>
    rcases c with c | c
    · cases c
    · injection c with c
      subst c
      exact ih.append (List.Sublist.refl _)
  | none h c ih => exact ih.trans (List.sublist_append_left _ _)
theorem kept_of {es : List D} {k : Nat} (h : es.Sublist (rngD 0 k)) : exists kept : List Int, es = kept.map .int ∧ kept.Pairwise (· < ·) ∧ forall i, i ∈ kept -> 0 ≤ i ∧ i < k := by
  unfold rngD at h
  obtain ⟨l, hl, rfl⟩ := List.sublist_map_iff.mp h
  refine ⟨l.map fun (i : Nat) => (i : Int), ?_, ?_, ?_⟩
  · rw [List.map_map]
    exact List.map_congr_left fun i _ => by
      show D.int (0 + (i : Int)) = .int i
      rw [Int.zero_add]
  · exact List.Pairwise.map _ (fun a b (h : a < b) => Int.ofNat_lt.mpr h) (List.Pairwise.sublist hl List.pairwise_lt_range)
  · intro i hi
    obtain ⟨j, hj, rfl⟩ := List.mem_map.mp hi
    have := List.mem_range.mp (hl.subset hj)
    omega
theorem uniq_self {α : Type} [DecidableEq α] {l : List α} (h : l.Nodup) : uniq l = l := by
  have go : forall (l acc : List α), (acc ++ l).Nodup -> l.foldl (fun acc x => if x ∈ acc then acc else acc ++ [x]) acc = acc ++ l := by
    intro l
    induction l with
    | nil => intro acc _; simp
    | cons x l ih =>
      intro acc h
      have hx : x ∉ acc := fun z => (List.nodup_append.mp h).2.2 x z x List.mem_cons_self rfl
      rw [List.foldl_cons, if_neg hx, ih _ (by rw [List.append_assoc]; exact h), List.append_assoc] <;> rfl
  exact go l [] h
theorem nodup_lt {l : List Int} (h : l.Pairwise (· < ·)) : l.Nodup := h.imp fun hab => by omega
theorem sortI_self {l : List Int} (h : l.Pairwise (· < ·)) : sortI l = l := List.mergeSort_of_pairwise (h.imp fun hab => decide_eq_true (by omega))
theorem keptF_rev {l : List Int} (h : l.Pairwise (· < ·)) : keptF (l.reverse ++ l) = l := by
  have p : (uniq (l.reverse ++ l)).Perm l := nodup_perm (uniq_nodup _) (nodup_lt h) fun x => by
    rw [uniq_mem, List.mem_append, List.mem_reverse, or_self]
  unfold keptF
  rw [sortI_eq p, sortI_self h]
theorem leA_anti {a b : Arrow} (h1 : leA a b = true) (h2 : leA b a = true) : a = b := aD_inj (aD_toks (leD_anti h1 h2))
theorem sortA_of {l as : List Arrow} (nd : as.Nodup) (pw : as.Pairwise fun a b => leA a b = true) (hm : forall x, x ∈ l <-> x ∈ as) : sortA l = as := by
  have p : (sortA l).Perm as := (List.mergeSort_perm _ _).trans (nodup_perm (uniq_nodup l) nd fun x => (uniq_mem l x).trans (hm x))
  refine List.Perm.eq_of_pairwise (le := fun a b => leA a b = true) (fun a b _ _ h1 h2 => leA_anti h1 h2) ?_ pw p
  exact List.pairwise_mergeSort (le := leA) (fun x y z => leD_trans (aD x) (aD y) (aD z)) (fun x y => leD_total (aD x) (aD y)) (uniq l)
theorem toksA (a : Arrow) : toks (aD a) = [.inl 1, .inl a.1, .inl 1, .inr a.2.1.cps.toList, .inl 1, .inl a.2.2, .inl 0] := rfl
/-- the order of arrows -/
theorem leA_iff {a b : Arrow} : leA a b = !(decide (b.1 < a.1) || (!decide (a.1 < b.1) && (PyProof.Rows.itemLt (.inr b.2.1.cps.toList) (.inr a.2.1.cps.toList) || (!PyProof.Rows.itemLt (.inr a.2.1.cps.toList) (.inr b.2.1.cps.toList) && decide (b.2.2 < a.2.2))))) := by
  have h1 : forall i j : Int, PyProof.Rows.itemLt (.inl i) (.inl j) = decide (i < j) := fun _ _ => rfl
  unfold leA
  rw [leD_eq, toksA, toksA]
  simp only [PyProof.Rows.lex_cons (O := PyProof.Rows.itemOrd), h1]
  have h3 : PyProof.Rows.lexLt PyProof.Rows.itemOrd [] [] = false := PyProof.Rows.lex_irrefl _
  simp only [h3, decide_eq_false (show ¬ ((1 : Int) < 1) by decide), decide_eq_false (show ¬ ((0 : Int) < 0) by decide), Bool.not_false, Bool.true_and, Bool.false_or, Bool.and_false, Bool.or_false]
theorem leA_mono {a b : Arrow} {f : Int -> Int} (h1 : f a.1 < f b.1 <-> a.1 < b.1) (h2 : f b.1 < f a.1 <-> b.1 < a.1) (h3 : f b.2.2 < f a.2.2 <-> b.2.2 < a.2.2) : leA (f a.1, a.2.1, f a.2.2) (f b.1, b.2.1, f b.2.2) = leA a b := by
  rw [leA_iff, leA_iff]
  simp only [h1, h2, h3]
theorem idx_mono : forall {kept : List Int} {x y : Int}, kept.Pairwise (· < ·) -> x ∈ kept -> y ∈ kept -> (idxF kept x < idxF kept y <-> x < y)
  | [], _, _, _, h, _ => nomatch h
  | k :: kept, x, y, h, hx, hy => by
    rw [List.pairwise_cons] at h
    have e0 : idxF (k :: kept) k = 0 := by
      unfold idxF
      rw [List.idxOf_cons_self] <;> rfl
    have e1 : forall z, z ∈ kept -> idxF (k :: kept) z = idxF kept z + 1 := fun z hz => by
      have hk := h.1 z hz
      unfold idxF
      rw [List.idxOf_cons, show (k == z) = false from beq_eq_false_iff_ne.mpr (by omega)]
      show ((kept.idxOf z + 1 : Nat) : Int) = _
      omega
    have nn : forall z, 0 ≤ idxF kept z := fun z => by
      unfold idxF
      omega
    rcases List.mem_cons.mp hx with ex | hx
    · rcases List.mem_cons.mp hy with ey | hy
      · rw [ex, ey]
        omega
      · have := h.1 y hy
        have := nn y
        rw [ex, e0, e1 y hy]
        omega
    · rcases List.mem_cons.mp hy with ey | hy
      · have := h.1 x hx
        have := nn x
        rw [ey, e0, e1 x hx]
        omega
      · have := idx_mono h.2 hx hy
        rw [e1 x hx, e1 y hy]
        omega
theorem part_sorted {as : List Arrow} {kept : List Int} (nd : as.Nodup) (pw : as.Pairwise fun a b => leA a b = true) (h : kept.Pairwise (· < ·)) : sortA (partA as kept) = partA as kept := by
  have hm : forall a, a ∈ as.filter (fun a => decide (a.1 ∈ kept) && decide (a.2.2 ∈ kept)) -> a.1 ∈ kept ∧ a.2.2 ∈ kept := fun a ha => by
    have z := (List.mem_filter.mp ha).2
    rw [Bool.and_eq_true, decide_eq_true_eq, decide_eq_true_eq] at z
    exact z
  have pw2 : (partA as kept).Pairwise fun a b => leA a b = true := by
    unfold partA
    rw [List.pairwise_map]
    refine List.Pairwise.imp_of_mem (fun {a b} ha hb hab => ?_) (pw.filter fun a => decide (a.1 ∈ kept) && decide (a.2.2 ∈ kept))
    obtain ⟨a1, a2⟩ := hm a ha
    obtain ⟨b1, b2⟩ := hm b hb
    rw [leA_mono (f := idxF kept) (idx_mono h a1 b1) (idx_mono h b1 a1) (idx_mono h b2 a2)]
    exact hab
  refine sortA_of ?_ pw2 fun x => Iff.rfl
  unfold partA
  unfold List.Nodup
  rw [List.pairwise_map]
  refine List.Pairwise.imp_of_mem (fun {a b} ha hb hab e => hab ?_) (nd.filter fun a => decide (a.1 ∈ kept) && decide (a.2.2 ∈ kept))
  obtain ⟨a1, a2⟩ := hm a ha
  obtain ⟨b1, b2⟩ := hm b hb
  simp only [Prod.mk.injEq] at e
  obtain ⟨e1, e2, e3⟩ := e
  have m1 := idx_mono h a1 b1
  have m2 := idx_mono h b1 a1
  have m3 := idx_mono h a2 b2
  have m4 := idx_mono h b2 a2
  obtain ⟨i, l, j⟩ := a
  obtain ⟨i2, l2, j2⟩ := b
  dsimp only at *
  rw [e2, show i = i2 by omega, show j = j2 by omega]
theorem GOk.okG {n : Int} {cs : List Str} {as : List Arrow} (h : GOk n cs as) (hn : n ≤ 20) : okG cs as := by
  have h1 := h.le
  have h2 := h.few
  refine ⟨fun c hc => ?_, fun a ha => ?_, by omega, by omega⟩
  · rcases h.col c hc with e | e <;> rw [e] <;> decide
  · obtain ⟨a1, a2, al, a3, a4⟩ := h.arr a ha
    exact arr_of (by rcases al with e | e <;> rw [e] <;> decide) a1 a2 a3 a4
def partIn (kept : List Int) : D -> Option D
  | .tup [.int x, .str l, .int y] => if (decide (x ∈ kept) && decide (y ∈ kept)) = true then some (.tup [.int (idxF kept x), .str l, .int (idxF kept y)]) else none
  | _ => none
theorem partIn_all (kept : List Int) (as : List Arrow) : (as.map aD).filterMap (partIn kept) = (partA as kept).map aD := by
  induction as with
  | nil => rfl
  | cons a as ih =>
    have h1 : partIn kept (aD a) = if (decide (a.1 ∈ kept) && decide (a.2.2 ∈ kept)) = true then some (aD (idxF kept a.1, a.2.1, idxF kept a.2.2)) else none := rfl
    unfold partA at ih ⊢
    rw [List.map_cons, List.filterMap_cons, List.filter_cons, h1]
    by_cases h : (decide (a.1 ∈ kept) && decide (a.2.2 ∈ kept)) = true
    · rw [if_pos h, if_pos h, ih] <;> rfl
    · rw [if_neg h, if_neg h, ih]
/-! ends -/
theorem any_ends {kvs : OutL} {n : Int} {l : Str} (h : kvs.any (fun p => decide (p.1 = (n, l))) = false) : kvs.find? (fun p => decide (p.1 = (n, l))) = none := by
  rw [List.find?_eq_none]
  intro p hp z
  rw [List.any_eq_false] at h
  exact h p hp z
theorem ends_step (kvs : OutL) (a : Arrow) (n : Int) (l : Str) : endsO (stepO kvs a) n l = if (a.1, a.2.1) = (n, l) then endsO kvs n l ++ [a.2.2] else endsO kvs n l := by
  unfold stepO
  cases h : kvs.any (fun p => decide (p.1 = (a.1, a.2.1))) with
  | true =>
    rw [if_pos rfl]
    unfold endsO
    have key : ((kvs.map fun p => if p.1 = (a.1, a.2.1) then (p.1, p.2 ++ [a.2.2]) else p).find? fun p => decide (p.1 = (n, l))) = (kvs.find? fun p => decide (p.1 = (n, l))).map fun p => if p.1 = (a.1, a.2.1) then (p.1, p.2 ++ [a.2.2]) else p := by
      rw [List.find?_map]
      congr 2
      funext p
      show decide ((if p.1 = (a.1, a.2.1) then (p.1, p.2 ++ [a.2.2]) else p).1 = (n, l)) = decide (p.1 = (n, l))
      by_cases z : p.1 = (a.1, a.2.1)
      · rw [if_pos z]
      · rw [if_neg z]
    rw [key]
    by_cases e : (a.1, a.2.1) = (n, l)
    · rw [if_pos e]
      rw [e] at h ⊢
      obtain ⟨p, hp, hd⟩ := List.any_eq_true.mp h
      cases g : kvs.find? fun p => decide (p.1 = (n, l)) with
      | none => exact absurd hd (List.find?_eq_none.mp g p hp)
      | some q =>
        have hq : q.1 = (n, l) := of_decide_eq_true (List.find?_some (p := fun p : (Int × Str) × List Int => decide (p.1 = (n, l))) g)
        simp [hq]
    · rw [if_neg e]
      cases g : kvs.find? fun p => decide (p.1 = (n, l)) with
      | none => rfl
      | some q =>
        have hq : q.1 = (n, l) := of_decide_eq_true (List.find?_some (p := fun p : (Int × Str) × List Int => decide (p.1 = (n, l))) g)
        have z : ¬ q.1 = (a.1, a.2.1) := fun y => e (y.symm.trans hq)
        simp [z]
  | false =>
    rw [if_neg Bool.false_ne_true]
    unfold endsO
    rw [List.find?_append]
    by_cases e : (a.1, a.2.1) = (n, l)
    · rw [if_pos e]
      rw [e] at h ⊢
      rw [any_ends h]
      simp
    · rw [if_neg e]
      have z : List.find? (fun p : (Int × Str) × List Int => decide (p.1 = (n, l))) [((a.1, a.2.1), [a.2.2])] = none := by
        rw [List.find?_eq_none]
        intro p hp
        rw [List.mem_singleton.mp hp, decide_eq_true_eq]
        exact e
      rw [z, Option.or_none]
def endsA (as : List Arrow) (n : Int) (l : Str) : List Int := (as.filter fun a => decide ((a.1, a.2.1) = (n, l))).map fun a => a.2.2
theorem ends_foldl (n : Int) (l : Str) : forall (as : List Arrow) (kvs : OutL), endsO (as.foldl stepO kvs) n l = endsO kvs n l ++ endsA as n l
  | [], kvs => by
    show _ = endsO kvs n l ++ []
    rw [List.append_nil] <;> rfl
  | a :: as, kvs => by
    rw [List.foldl_cons, ends_foldl n l as, ends_step]
    unfold endsA
    rw [List.filter_cons]
    by_cases e : (a.1, a.2.1) = (n, l)
    · rw [if_pos e, if_pos (decide_eq_true e), List.map_cons, List.append_assoc] <;> rfl
    · rw [if_neg e, if_neg (by rw [decide_eq_true_eq]; exact e)]
theorem ends_out (as : List Arrow) (n : Int) (l : Str) : endsO (outF as) n l = endsA as n l := by
  have h := ends_foldl n l as []
  exact h
def isEnd (n : Int) (l : Str) : D -> Option D
  | .tup [.int x, .str y, z] => if decide ((x, y) = (n, l)) = true then some z else none
  | _ => none
theorem isEnd_all (n : Int) (l : Str) (as : List Arrow) : (as.map aD).filterMap (isEnd n l) = (endsA as n l).map .int := by
  induction as with
  | nil => rfl
  | cons a as ih =>
    have h1 : isEnd n l (aD a) = if decide ((a.1, a.2.1) = (n, l)) = true then some (.int a.2.2) else none := rfl
    unfold endsA at ih ⊢
    rw [List.map_cons, List.filterMap_cons, List.filter_cons, h1]
    by_cases h : decide ((a.1, a.2.1) = (n, l)) = true
    · rw [if_pos h, if_pos h, ih] <;> rfl
    · rw [if_neg h, if_neg h, ih]
/-! labels -/
theorem keys_step (kvs : OutL) (a : Arrow) : ((stepO kvs a).map (·.1)) = if (a.1, a.2.1) ∈ kvs.map (·.1) then kvs.map (·.1) else kvs.map (·.1) ++ [(a.1, a.2.1)] := by
  unfold stepO
  by_cases h : (a.1, a.2.1) ∈ kvs.map (·.1)
  · have h2 : kvs.any (fun p => decide (p.1 = (a.1, a.2.1))) = true := by
      obtain ⟨p, hp, e⟩ := List.mem_map.mp h
      exact List.any_eq_true.mpr ⟨p, hp, decide_eq_true e⟩
    rw [if_pos h, if_pos h2, List.map_map]
    refine List.map_congr_left fun p _ => ?_
    show (if p.1 = (a.1, a.2.1) then (p.1, p.2 ++ [a.2.2]) else p).1 = p.1
    by_cases z : p.1 = (a.1, a.2.1)
    · rw [if_pos z]
    · rw [if_neg z]
  · have h2 : ¬ kvs.any (fun p => decide (p.1 = (a.1, a.2.1))) = true := fun z => h (by
      obtain ⟨p, hp, e⟩ := List.any_eq_true.mp z
      exact List.mem_map.mpr ⟨p, hp, of_decide_eq_true e⟩)
    rw [if_neg h, if_neg h2, List.map_append] <;> rfl
theorem keys_out (as : List Arrow) : ((outF as).map (·.1)).Nodup ∧ forall k, k ∈ (outF as).map (·.1) <-> exists a, a ∈ as ∧ (a.1, a.2.1) = k := by
  have go : forall (as : List Arrow) (kvs : OutL), (kvs.map (·.1)).Nodup -> ((as.foldl stepO kvs).map (·.1)).Nodup ∧ forall k, k ∈ (as.foldl stepO kvs).map (·.1) <-> k ∈ kvs.map (·.1) ∨ exists a, a ∈ as ∧ (a.1, a.2.1) = k := by
    intro as
    induction as with
    | nil => intro kvs h; exact ⟨h, fun k => by simp⟩
    | cons a as ih =>
      intro kvs h
      have e := keys_step kvs a
      have hn : ((stepO kvs a).map (·.1)).Nodup := by
        rw [e]
        by_cases z : (a.1, a.2.1) ∈ kvs.map (·.1)
        · rw [if_pos z]
          exact h
        · rw [if_neg z]
          exact nd_snoc h z
      obtain ⟨i1, i2⟩ := ih (stepO kvs a) hn
      refine ⟨i1, fun k => (i2 k).trans ?_⟩
      rw [e]
      by_cases z : (a.1, a.2.1) ∈ kvs.map (·.1)
      · rw [if_pos z]
        constructor
        · rintro (y | ⟨b, hb, y⟩)
          · exact .inl y
          · exact .inr ⟨b, List.mem_cons_of_mem _ hb, y⟩
        · rintro (y | ⟨b, hb, y⟩)
          · exact .inl y
          · rcases List.mem_cons.mp hb with x | hb
            · rw [← y, x]
              exact .inl z
            · exact .inr ⟨b, hb, y⟩
      · rw [if_neg z, List.mem_append, List.mem_singleton]
        constructor
        · rintro ((y | y) | ⟨b, hb, y⟩)
          · exact .inl y
          · exact .inr ⟨a, List.mem_cons_self, y.symm⟩
          · exact .inr ⟨b, List.mem_cons_of_mem _ hb, y⟩
        · rintro (y | ⟨b, hb, y⟩)
          · exact .inl (.inl y)
          · rcases List.mem_cons.mp hb with x | hb
            · rw [← y, x]
              exact .inl (.inr rfl)
            · exact .inr ⟨b, hb, y⟩
  obtain ⟨h1, h2⟩ := go as [] List.nodup_nil
  exact ⟨h1, fun k => (h2 k).trans (by simp)⟩
theorem out_len (as : List Arrow) : (outF as).length ≤ as.length := by
  have go : forall (as : List Arrow) (kvs : OutL), (as.foldl stepO kvs).length ≤ kvs.length + as.length := by
    intro as
    induction as with
    | nil => intro kvs; exact Nat.le_refl _
    | cons a as ih =>
      intro kvs
      have h := ih (stepO kvs a)
      have h2 : (stepO kvs a).length ≤ kvs.length + 1 := by
        unfold stepO
        split
        · rw [List.length_map]
          omega
        · rw [List.length_append] <;> exact Nat.le_refl _
      rw [List.foldl_cons, List.length_cons]
      omega
  have h := go as []
  rw [List.length_nil, Nat.zero_add] at h
  exact h
def labsA (as : List Arrow) (n : Int) : List Str := (as.filter fun a => decide (a.1 = n)).map fun a => a.2.1
theorem labs_perm (as : List Arrow) (n : Int) : (labsO (outF as) n).Perm (uniq (labsA as n)) := by
  obtain ⟨k1, k2⟩ := keys_out as
  have e : labsO (outF as) n = ((outF as).map (·.1)).filterMap fun p => if p.1 = n then some p.2 else none := by
    unfold labsO
    rw [List.filterMap_map] <;> rfl
  refine nodup_perm ?_ (uniq_nodup _) fun x => ?_
  · rw [e]
    refine List.Pairwise.filterMap _ (fun p q hpq b hb b' hb' hbb => hpq ?_) k1
    by_cases h1 : p.1 = n
    · by_cases h2 : q.1 = n
      · rw [if_pos h1] at hb
        rw [if_pos h2] at hb'
        injection hb with hb
        injection hb' with hb'
        exact Prod.ext (h1.trans h2.symm) (hb.trans (hbb.trans hb'.symm))
      · rw [if_neg h2] at hb'
        cases hb'
    · rw [if_neg h1] at hb
      cases hb
  · rw [e, uniq_mem, List.mem_filterMap]
    constructor
    · rintro ⟨p, hp, h⟩
      obtain ⟨a, ha, ea⟩ := (k2 p).mp hp
      by_cases h1 : p.1 = n
      · rw [if_pos h1] at h
        injection h with h
        refine List.mem_map.mpr ⟨a, List.mem_filter.mpr ⟨ha, decide_eq_true ?_⟩, ?_⟩
        · rw [← h1, ← ea]
        · rw [← h, ← ea]
      · rw [if_neg h1] at h
        cases h
    · intro h
      obtain ⟨a, ha, ea⟩ := List.mem_map.mp h
      obtain ⟨h1, h2⟩ := List.mem_filter.mp ha
      refine ⟨(a.1, a.2.1), (k2 _).mpr ⟨a, h1, rfl⟩, ?_⟩
      rw [if_pos (of_decide_eq_true h2), ea]
def labIn (n : Int) : D -> Option D
  | .tup [.int x, y, _] => if decide (x = n) = true then some y else none
  | _ => none
theorem labIn_all (n : Int) (as : List Arrow) : (as.map aD).filterMap (labIn n) = (labsA as n).map .str := by
  induction as with
  | nil => rfl
  | cons a as ih =>
    have h1 : labIn n (aD a) = if decide (a.1 = n) = true then some (.str a.2.1) else none := rfl
    unfold labsA at ih ⊢
    rw [List.map_cons, List.filterMap_cons, List.filter_cons, h1]
    by_cases h : decide (a.1 = n) = true
    · rw [if_pos h, if_pos h, ih] <;> rfl
    · rw [if_neg h, if_neg h, ih]
/-! what is reached -/
theorem reach_some (as : List Arrow) (n : Int) : exists F, isReach as n F := by
  classical
  refine ⟨(uniq (couldBe as n)).filter fun x => decide (Reach as n x), (uniq_nodup _).filter _, fun x => ?_⟩
  rw [List.mem_filter, uniq_mem, decide_eq_true_eq]
  exact ⟨fun h => h.2, fun h => ⟨reach_could h, h⟩⟩

end K01
namespace K01
open PySem PySem.Spec PyProof.Rows L2 Ak
/-! ### the law: what is refused -/
open NdefX (NF envF ncx NScope CellsAt Caps startF slotAt slotAt_of nscope_by cells_of)
open LamX (CodeO TabS Tabs ExtN TabB)
section
variable {P : Program} {w : World} {K : PySem.W.Frag} {mg : Str -> Option Value} {base : Heap}
def bads : List D := [.non, .str "", .str "A", .str "1a", .str "abcdefghi", .int 5, .str "a_"]
def odds (k : Int) : List D := [.non, .tup [.int 0, .str "a"], .tup [.int 0, .str "a", .int k], .tup [.int (-1), .str "a", .int 0], .tup [.int 0, .str "A", .int 0], .tup [.bl true, .str "a", .int 0], .lst [.int 0, .str "a", .int 0]]
theorem bad_not {d : D} (h : d ∈ bads) : d.fi = true ∧ isNm d = false := by
  have z : bads.all (fun d => d.fi && !isNm d) = true := by decide
  have z2 := List.all_eq_true.mp z d h
  rw [Bool.and_eq_true, Bool.not_eq_true'] at z2
  exact z2
theorem odd_not {d : D} {k : Nat} (h : d ∈ odds k) : d.fi = true ∧ isArr d k = false := by
  unfold odds at h
  simp only [List.mem_cons, List.not_mem_nil, or_false] at h
  have lt0 : decide ((k : Int) < k) = false := decide_eq_false (by omega)
  rcases h with h | h | h | h | h | h | h
  · subst h
    exact ⟨rfl, rfl⟩
  · subst h
    exact ⟨by decide, rfl⟩
  · subst h
    refine ⟨rfl, ?_⟩
    show (isNm (.str "a") && (nodeIn (.int 0) k && (decide ((0 : Int) ≤ k) && decide ((k : Int) < k)))) = false
    rw [lt0, Bool.and_false, Bool.and_false, Bool.and_false]
  · subst h
    refine ⟨by decide, ?_⟩
    show (isNm (.str "a") && ((decide ((0 : Int) ≤ -1) && decide ((-1 : Int) < k)) && nodeIn (.int 0) k)) = false
    rw [decide_eq_false (p := (0 : Int) ≤ -1) (by decide), Bool.false_and, Bool.false_and, Bool.and_false]
  · subst h
    refine ⟨by decide, ?_⟩
    show (isNm (.str "A") && (nodeIn (.int 0) k && nodeIn (.int 0) k)) = false
    rw [show isNm (.str "A") = false by decide, Bool.false_and]
  · subst h
    refine ⟨by decide, ?_⟩
    show (isNm (.str "a") && (false && nodeIn (.int 0) k)) = false
    rw [Bool.false_and, Bool.and_false]
  · subst h
    exact ⟨by decide, rfl⟩
theorem find_none {α : Type} {f : α -> D} {p : D -> Bool} {l : List α} (h : forall x, x ∈ l -> p (f x) = false) : (l.map f).findIdx? p = none := List.findIdx?_eq_none_iff.mpr fun d hd => by
  obtain ⟨x, hx, rfl⟩ := List.mem_map.mp hd
  exact h x hx
theorem find_at {p : D -> Bool} {l r : List D} {d : D} (h1 : forall x, x ∈ l -> p x = false) (h2 : p d = true) : (l ++ d :: r).findIdx? p = some l.length := by
  refine findIdx_first (i := l.length) (x := d) (by rw [List.getElem?_append_right (Nat.le_refl _), Nat.sub_self] <;> rfl) h2 fun j y hj hy => ?_
  rw [List.getElem?_append_left hj] at hy
  exact h1 y (List.mem_of_getElem? hy)
theorem fault_node {cs : List Str} {i : Nat} {d : D} {a : D} {r : List D} (hc : forall c, c ∈ cs -> nameS c = true) (hi : i ≤ cs.length) (hd : isNm d = false) : gFault (.lst ((cs.take i).map .str ++ d :: r)) a = some (.bad "nodes" (.int (i : Nat))) := by
  have e1 : ((cs.take i).map D.str ++ d :: r).findIdx? (fun d => !isNm d) = some i := by
    have z := find_at (p := fun d => !isNm d) (l := (cs.take i).map D.str) (r := r) (d := d) (fun x hx => by
      obtain ⟨c, m, rfl⟩ := List.mem_map.mp hx
      show (!nameS c) = false
      rw [hc c (List.mem_of_mem_take m)] <;> rfl) (by rw [hd] <;> rfl)
    rw [z, List.length_map, List.length_take, Nat.min_eq_left hi]
  unfold gFault
  show (match ((cs.take i).map D.str ++ d :: r).findIdx? (fun d => !isNm d) with | some i => _ | none => _) = _
  rw [e1]
theorem fault_arrow {cs : List Str} {as : List Arrow} {d : D} {r : List D} (h : okG cs as) (hd : isArr d cs.length = false) : gFault (.lst (cs.map .str)) (.lst (as.map aD ++ d :: r)) = some (.bad "arrows" (.int (as.length : Nat))) := by
  have e1 : (cs.map D.str).findIdx? (fun d => !isNm d) = none := find_none fun c m => by
    show (!nameS c) = false
    rw [h.1 c m] <;> rfl
  have e2 : (as.map aD ++ d :: r).findIdx? (fun d => !isArr d cs.length) = some as.length := by
    have z := find_at (p := fun d => !isArr d cs.length) (l := as.map aD) (r := r) (d := d) (fun x hx => by
      obtain ⟨a, m, rfl⟩ := List.mem_map.mp hx
      show (!isArr (aD a) cs.length) = false
      rw [h.2.1 a m] <;> rfl) (by rw [hd] <;> rfl)
    rw [z, List.length_map]
  unfold gFault
  show (match (cs.map D.str).findIdx? (fun d => !isNm d) with | some i => _ | none => _) = _
  rw [e1]
  show (match (as.map aD ++ d :: r).findIdx? (fun d => !isArr d ((cs.map D.str).length : Int)) with | some i => _ | none => _) = _
  rw [List.length_map, e2]
theorem fault_row {cs : List Str} (h : forall c, c ∈ cs -> nameS c = true) : gFault (.lst (cs.map .str)) .non = some (.bad "arrows" .non) := by
  have e1 : (cs.map D.str).findIdx? (fun d => !isNm d) = none := find_none fun c m => by
    show (!nameS c) = false
    rw [h c m] <;> rfl
  unfold gFault
  show (match (cs.map D.str).findIdx? (fun d => !isNm d) with | some i => _ | none => _) = _
  rw [e1] <;> rfl
theorem fis_app {l r : List D} : D.fis (l ++ r) = (D.fis l && D.fis r) := by
  induction l with
  | nil => rfl
  | cons d l ih =>
    show (d.fi && D.fis (l ++ r)) = (d.fi && D.fis l && D.fis r)
    rw [ih, Bool.and_assoc]
end

end K01
namespace K01
open PySem PySem.Spec PyProof.Rows L2 Ak
/-! ### the law, statements 14 to 20 -/
open NdefX (NF envF ncx NScope CellsAt Caps startF slotAt slotAt_of nscope_by cells_of)
open LamX (CodeO TabS Tabs ExtN TabB)
section
variable {P : Program} {w : World} {K : PySem.W.Frag} {mg : Str -> Option Value} {base : Heap}
theorem cut_to {ds : List D} {i : Int} {n : Nat} (h0 : 0 ≤ i) (h1 : i ≤ ds.length) (hn : n = i.toNat) : cutD ds none (some i) = ds.take n := by
  subst hn
  have e : HT.sIx ds.length ds.length (some i) = i.toNat := by
    have z := HT.sIx_nat ds.length ds.length i.toNat
    rw [show ((i.toNat : Nat) : Int) = i by omega] at z
    rw [z]
    omega
  show (ds.drop 0).take (HT.sIx ds.length ds.length (some i) - 0) = _
  rw [e] <;> rfl
theorem wish_graphW (T : Tx K mg) {tr : TA} {σ0 : L2.St} {c a : D} {f : GFault} {Q Q' : VK} {M : MK} {H : Hp} (m : Mok M H) (h : EvDs M tr σ0 H [c, a]) (hc : c.fi = true) (ha : a.fi = true) (hf : gFault c a = some f) (q : forall v H2, Same H H2 -> Rep (msk M H2) (faultD f) v -> Q v H2) :
    tMake T.C_Graph (SpI T.C_Graph R_init (X_init T)) [] (FaultQ T Q) tr σ0 H Q' := wish_graph T m h hc ha hf q
theorem law5 (T : Tx K mg) {A : Around} {outer : List Env} {s : Shared} {H : Hp} {E : XK} {tp : Addr} (TB : TabB base mg T.c_law tp) (hr : Room 11 (A.deeper (envOfC "law" (defScope s_law) s.heap.objs.size T.f_law (.ref T.c_law)))) {Q : VK} (hQ : forall H2, Q (.bl true) H2) :
    exists t, PSs (LC P w base T (.ref T.c_law) A outer s H E) (List.drop 14 (defBody s_law)) t ∧ forall (p a : Addr) (ns : List Int) (cs : List Str) (as : List Arrow) (v0 vc va vg : V) (o4 o7 o8 o9 o10 o11 o12 o13 o14 o15 o16 o17 o18 o19 o20 o21 : Option V) (H1 : Hp),
      Lw K p a tp lawQ ns H1 -> ns.length ≤ 1000 -> okG cs as -> 0 < cs.length -> Rep (msk (LM p tp) H1) (graphD T cs as) vg -> Rep (msk (LM p tp) H1) (.lst (cs.map .str)) vc -> Rep (msk (LM p tp) H1) (.lst (as.map aD)) va ->
      t { nx := fun _ H' => Q .non H', rt := Q } (S22 (some v0) (some (.ref p)) (some vc) (some va) o4 (some vg) (some (.int cs.length)) o7 o8 o9 o10 o11 o12 o13 o14 o15 o16 o17 o18 o19 o20 o21) H1 := by
  obtain ⟨t6, h6, k6⟩ := law6 (P := P) (w := w) (base := base) (outer := outer) (H := H) (E := E) T TB hr hQ
  refine ⟨_, (pss_cons (ps_set (i := 17) sc_law.nd rfl (.inr rfl) (pe_call (ok__law_pick T) (hr.mono (by decide)) rfl T.g__law_pick T.F__law_pick.kp (T.B__law_pick) .nil passL (pa_cons (pv 1) (pa_cons (pe_lst (pa_cons pe_non (pa_cons pe_str (pa_cons pe_str (pa_cons pe_str (pa_cons pe_str (pa_cons pe_int (pa_cons pe_str pa_nil)))))))) pa_nil))))
      (pss_cons (ps_set (i := 18) sc_law.nd rfl (.inr rfl) (pe_call (ok__law_take T) (hr.mono (by decide)) rfl T.g__law_take T.F__law_take.kp (T.B__law_take) .nil passL (pa_cons (pv 1) (pa_cons (pv 6) pa_nil))))
      (pss_cons (ps_if (pt_cmpR (op_neU hr.units) (pe_faultW T TB (hr.mono (by decide)) (N := ["colours", "at", "bad"]) (fr := ["colours", "at", "bad"]) (js := [2, 18, 17]) (te := fun E => (tMake T.C_Graph (SpI T.C_Graph R_init (X_init T)) [] E (tCons (tOp (rAddU K) (tOp (rAddU K) (tSl (rSlL K) (tVar 0) tNoPart (tPart (tVar 1))) (tLst (tCons (tVar 2) tNil))) (tLst (tCons (tC .non) tNil))) (tCons (tC .non) tNil)))) (NdefX.nscope_by (by decide +kernel)) (fun _ _ _ _ _ => rfl) (by decide +kernel) rfl rfl (fun c f A outer s H E hr => by exact (pe_make T.mk_Graph (ok_Graph_init T) (hr.mono (by decide)) rfl T.g_Graph T.B_Graph_init .nil (passes_call (takes_of rfl rfl rfl rfl) (fun _ _ _ _ h => h)) (pa_cons (pe_op op_addU (pe_op op_addU (pe_slice sl_list (pv 0) po_none (po_some (pv 1))) (pe_lst (pa_cons (pv 2) pa_nil))) (pe_lst (pa_cons pe_non pa_nil))) (pa_cons pe_non pa_nil))))) (pe_tup (pa_cons pe_str (pa_cons (pv 18) pa_nil))) (nomark _)) (pss_one (ps_ret pe_bl)) pss_nil)
      (pss_cons (ps_set (i := 19) sc_law.nd rfl (.inr rfl) (pe_call (ok__law_pick T) (hr.mono (by decide)) rfl T.g__law_pick T.F__law_pick.kp (T.B__law_pick) .nil passL (pa_cons (pv 1) (pa_cons (pe_lst (pa_cons pe_non (pa_cons (pe_tup (pa_cons pe_int (pa_cons pe_str pa_nil))) (pa_cons (pe_tup (pa_cons pe_int (pa_cons pe_str (pa_cons (pv 6) pa_nil)))) (pa_cons (pe_tup (pa_cons (pe_un un_neg pe_int) (pa_cons pe_str (pa_cons pe_int pa_nil)))) (pa_cons (pe_tup (pa_cons pe_int (pa_cons pe_str (pa_cons pe_int pa_nil)))) (pa_cons (pe_tup (pa_cons pe_bl (pa_cons pe_str (pa_cons pe_int pa_nil)))) (pa_cons (pe_lst (pa_cons pe_int (pa_cons pe_str (pa_cons pe_int pa_nil)))) pa_nil)))))))) pa_nil))))
      (pss_cons (ps_if (pt_cmpR (op_neU hr.units) (pe_faultW T TB (hr.mono (by decide)) (N := ["colours", "arrows", "odd"]) (fr := ["colours", "arrows", "odd"]) (js := [2, 3, 19]) (te := fun E => (tMake T.C_Graph (SpI T.C_Graph R_init (X_init T)) [] E (tCons (tVar 0) (tCons (tOp (rAddU K) (tVar 1) (tLst (tCons (tVar 2) (tCons (tC .non) tNil)))) tNil)))) (NdefX.nscope_by (by decide +kernel)) (fun _ _ _ _ _ => rfl) (by decide +kernel) rfl rfl (fun c f A outer s H E hr => by exact (pe_make T.mk_Graph (ok_Graph_init T) (hr.mono (by decide)) rfl T.g_Graph T.B_Graph_init .nil (passes_call (takes_of rfl rfl rfl rfl) (fun _ _ _ _ h => h)) (pa_cons (pv 0) (pa_cons (pe_op op_addU (pv 1) (pe_lst (pa_cons (pv 2) (pa_cons pe_non pa_nil)))) pa_nil))))) (pe_tup (pa_cons pe_str (pa_cons (pe_callB call_lenU rfl T.n_len PySem.boot_len (by exact (pa_cons (pv 3) pa_nil))) pa_nil))) (nomark _)) (pss_one (ps_ret pe_bl)) pss_nil)
      (pss_cons (ps_if (pt_cmpR (op_neU hr.units) (pe_faultW T TB (hr.mono (by decide)) (N := []) (fr := []) (js := []) (te := fun E => (tMake T.C_Graph (SpI T.C_Graph R_init (X_init T)) [] E (tCons (tC (.str "ab")) (tCons (tLst tNil) tNil)))) (NdefX.nscope_by (by decide +kernel)) (fun _ _ _ _ _ => rfl) (by decide +kernel) rfl rfl (fun c f A outer s H E hr => by exact (pe_make T.mk_Graph (ok_Graph_init T) (hr.mono (by decide)) rfl T.g_Graph T.B_Graph_init .nil (passes_call (takes_of rfl rfl rfl rfl) (fun _ _ _ _ h => h)) (pa_cons pe_str (pa_cons (pe_lst pa_nil) pa_nil))))) (pe_tup (pa_cons pe_str (pa_cons pe_non pa_nil))) (nomark _)) (pss_one (ps_ret pe_bl)) pss_nil)
      (pss_cons (ps_if (pt_cmpR (op_neU hr.units) (pe_faultW T TB (hr.mono (by decide)) (N := ["colours"]) (fr := ["colours"]) (js := [2]) (te := fun E => (tMake T.C_Graph (SpI T.C_Graph R_init (X_init T)) [] E (tCons (tVar 0) (tCons (tC .non) tNil)))) (NdefX.nscope_by (by decide +kernel)) (fun _ _ _ _ _ => rfl) (by decide +kernel) rfl rfl (fun c f A outer s H E hr => by exact (pe_make T.mk_Graph (ok_Graph_init T) (hr.mono (by decide)) rfl T.g_Graph T.B_Graph_init .nil (passes_call (takes_of rfl rfl rfl rfl) (fun _ _ _ _ h => h)) (pa_cons (pv 0) (pa_cons pe_non pa_nil))))) (pe_tup (pa_cons pe_str (pa_cons pe_non pa_nil))) (nomark _)) (pss_one (ps_ret pe_bl)) pss_nil)
      h6))))))), ?_⟩
  intro p a ns cs as v0 vc va vg o4 o7 o8 o9 o10 o11 o12 o13 o14 o15 o16 o17 o18 o19 o20 o21 H1 l hn ok pos rg rc ra
  obtain ⟨g1, g2, g3, g4⟩ := ok
  have ok : okG cs as := ⟨g1, g2, g3, g4⟩
  -- bad
  refine st_seq (st_setC (M := LM p tp) (C := fun d => d ∈ bads) l.drw ((ec_call l.mok lm_p l.scr l.drw hn rfl (ecs_cons lm_p (ec_pure fun H2 e2 d2 => ev_lst (e2.mok d2 l.mok) (ea_cons ev_non (ea_cons ev_str (ea_cons ev_str (ea_cons ev_str (ea_cons ev_str (ea_cons ev_int (ea_one ev_str)))))))) ecs_nil) ?_).imp ?_) ?_)
  · rintro ds ⟨d, e, rfl, rfl, rfl⟩
    exact ⟨_, rfl, by simp, by simp⟩
  · rintro d ⟨ds, ⟨d', e, rfl, rfl, rfl⟩, es, ee, hm⟩
    cases ee
    exact hm
  rintro db vb H2 hb e2 d2 rb
  obtain ⟨fb, nb⟩ := bad_not hb
  have l2 := l.upx e2 d2
  have rg2 := rg.up (e2.msk lm_p)
  have rc2 := rc.up (e2.msk lm_p)
  have ra2 := ra.up (e2.msk lm_p)
  dsimp only
  -- at
  refine st_seq (st_setC (M := LM p tp) (C := fun d => exists i : Int, d = .int i ∧ 0 ≤ i ∧ i < cs.length) l2.drw ((ec_call l2.mok lm_p l2.scr l2.drw hn rfl (ecs_cons lm_p (ec_pure fun H2 e2 d2 => ev_var (d := .int cs.length) rfl rfl) ecs_nil) ?_).imp ?_) ?_)
  · rintro ds ⟨d, e, rfl, rfl, rfl⟩
    exact ⟨_, rfl, by omega⟩
  · rintro d ⟨ds, ⟨d', e, rfl, rfl, rfl⟩, n', k, ek, h1, h2, rfl⟩
    cases ek
    exact ⟨k, rfl, h1, h2⟩
  rintro d vi H3 ⟨i, rfl, i0, i1⟩ e3 d3 ri
  have ev : vi = V.int i := ri
  subst ev
  have l3 := l2.upx e3 d3
  have rg3 := rg2.up (e3.msk lm_p)
  have rc3 := rc2.up (e3.msk lm_p)
  have ra3 := ra2.up (e3.msk lm_p)
  have rb3 := rb.up (e3.msk lm_p)
  dsimp only
  have ci : i = ((i.toNat : Nat) : Int) := by omega
  have fcs : D.fis (cs.map .str) = true := (fi_lst (okG_fi ok).2.1).2
  have fas : D.fis (as.map aD) = true := (fi_lst (okG_fi ok).2.2.2).2
  have ftk : D.fis ((cs.take i.toNat).map .str) = true := fis_all.mpr fun d hd => by
    obtain ⟨c, m, rfl⟩ := List.mem_map.mp hd
    exact fis_all.mp fcs _ (List.mem_map.mpr ⟨c, List.mem_of_mem_take m, rfl⟩)
  -- the nodes
  refine st_seq (el_if (d := .tup [.str "nodes", .int i]) (e := .tup [.str "nodes", .int i]) (b := false) l3 (el_told fun H4 e4 l4 f c Q hf hc q => ⟨f, c, rfl, hf, hc, wish_graphW T (c := .lst ((cs.take i.toNat).map .str ++ db :: [.non])) (a := .non) (f := .bad "nodes" (.int i)) l4.mok (ea_cons ?_ (ea_one ev_non)) ?_ rfl ?_ q⟩)
    (fun H4 e4 l4 => ev_tup l4.mok (ea_cons ev_str (ea_one (ev_var (d := .int i) rfl rfl)))) (rd_self (neg := true) ((dP dStr dInt).ok (by decide) ("nodes", i))) (fun z => nomatch z) fun _ H4 e4 l4 => ?_)
  · have hl : (cs.map D.str).length = cs.length := List.length_map _
    have z := ev_op (ev_op (ev_sl (K := K) (lo := none) (hi := some i) l4.mok (ev_var (i := 0) (s := [some vc, some (V.int i), some vb]) rfl (rc3.up (lw_ext e4))) eo_none (eo_some (M := LM p tp) (ev_var (i := 1) (d := .int i) rfl rfl))) (ev_lst l4.mok (ea_one (ev_var (i := 2) rfl (rb3.up (lw_ext e4))))) (rd_addL (K := K) l4.mok (by rw [cut_to i0 (by omega) rfl, sizeLine_eq, List.length_take]; simp; omega))) (ev_lst l4.mok (ea_one ev_non)) (rd_addL (K := K) l4.mok (by rw [cut_to i0 (by omega) rfl, sizeLine_eq, List.length_append, List.length_take]; simp; omega))
    rw [cut_to i0 (by omega) rfl, ← List.map_take, List.append_assoc] at z
    exact z
  · show (decide (((cs.take i.toNat).map D.str ++ db :: [.non]).length ≤ 100000) && D.fis ((cs.take i.toNat).map D.str ++ db :: [.non])) = true
    rw [fis_app, ftk, decide_eq_true (by rw [List.length_append, List.length_map, List.length_take]; simp; omega)]
    show (true && (true && (db.fi && true))) = true
    rw [fb] <;> rfl
  · have z := fault_node (cs := cs) (i := i.toNat) (d := db) (a := .non) (r := [.non]) g1 (by omega) nb
    rw [← ci] at z
    exact z
  have rg4 := rg3.up (lw_ext e4)
  have rc4 := rc3.up (lw_ext e4)
  have ra4 := ra3.up (lw_ext e4)
  -- odd
  refine st_seq (st_setC (M := LM p tp) (C := fun d => d ∈ odds cs.length) l4.drw ((ec_call l4.mok lm_p l4.scr l4.drw hn rfl (ecs_cons lm_p (ec_pure (z := .lst (odds cs.length)) fun H2 e2 d2 => ?_) ecs_nil) ?_).imp ?_) ?_)
  · have mm := e2.mok d2 l4.mok
    exact ev_lst mm (ea_cons ev_non (ea_cons (ev_tup mm (ea_cons ev_int (ea_one ev_str))) (ea_cons (ev_tup mm (ea_cons ev_int (ea_cons ev_str (ea_one (ev_var (d := .int cs.length) rfl rfl))))) (ea_cons (ev_tup mm (ea_cons (ev_neg ev_int) (ea_cons ev_str (ea_one ev_int)))) (ea_cons (ev_tup mm (ea_cons ev_int (ea_cons ev_str (ea_one ev_int)))) (ea_cons (ev_tup mm (ea_cons ev_bl (ea_cons ev_str (ea_one ev_int)))) (ea_one (ev_lst mm (ea_cons ev_int (ea_cons ev_str (ea_one ev_int))))))))))) (by simp [odds])
  · rintro ds ⟨d, e, rfl, rfl, rfl⟩
    exact ⟨_, rfl, by simp [odds], by simp [odds]⟩
  · rintro d ⟨ds, ⟨d', e, rfl, rfl, rfl⟩, es, ee, hm⟩
    cases ee
    exact hm
  rintro dd vd H5 hd e5 d5 rd5
  obtain ⟨fd, nd⟩ := odd_not hd
  have l5 := l4.upx e5 d5
  have rg5 := rg4.up (e5.msk lm_p)
  have rc5 := rc4.up (e5.msk lm_p)
  have ra5 := ra4.up (e5.msk lm_p)
  dsimp only
  -- the arrows
  refine st_seq (el_if (d := .tup [.str "arrows", .int as.length]) (e := .tup [.str "arrows", .int as.length]) (b := false) l5 (el_told fun H6 e6 l6 f c Q hf hc q => ⟨f, c, rfl, hf, hc, wish_graphW T (c := .lst (cs.map .str)) (a := .lst (as.map aD ++ dd :: [.non])) (f := .bad "arrows" (.int as.length)) l6.mok (ea_cons (ev_var (i := 0) (s := [some vc, some va, some vd]) rfl (rc5.up (lw_ext e6))) (ea_one (ev_op (ev_var (i := 1) (s := [some vc, some va, some vd]) rfl (ra5.up (lw_ext e6))) (ev_lst l6.mok (ea_cons (ev_var (i := 2) rfl (rd5.up (lw_ext e6))) (ea_one ev_non))) (rd_addL l6.mok (by rw [List.length_map, sizeLine_eq]; simp; omega))))) (okG_fi ok).2.1 ?_ (fault_arrow ok nd) q⟩)
    (fun H6 e6 l6 => ev_tup l6.mok (ea_cons ev_str (ea_one (Ev.to (ev_len (ea_one (ev_var (d := .lst (as.map aD)) rfl (ra5.up (lw_ext e6)))) rfl (fun _ e => nomatch e) fun _ e => nomatch e) (by rw [List.length_map])))) ) (rd_self (neg := true) ((dP dStr dInt).ok (by decide) ("arrows", (as.length : Int)))) (fun z => nomatch z) fun _ H6 e6 l6 => ?_)
  · show (decide ((as.map aD ++ dd :: [.non]).length ≤ 100000) && D.fis (as.map aD ++ dd :: [.non])) = true
    rw [fis_app, fas, decide_eq_true (by rw [List.length_append, List.length_map]; simp; omega)]
    show (true && (true && (dd.fi && true))) = true
    rw [fd] <;> rfl
  have rg6 := rg5.up (lw_ext e6)
  have rc6 := rc5.up (lw_ext e6)
  -- no row of nodes
  refine st_seq (el_if (d := .tup [.str "nodes", .non]) (e := .tup [.str "nodes", .non]) (b := false) l6 (el_told fun H7 e7 l7 f c Q hf hc q => ⟨f, c, rfl, hf, hc, wish_graphW T (c := .str "ab") (a := .lst []) (f := .bad "nodes" .non) l7.mok (ea_cons ev_str (ea_one (ev_lst l7.mok ea_nil))) (by decide) rfl rfl q⟩)
    (fun H7 e7 l7 => ev_tup l7.mok (ea_cons ev_str (ea_one ev_non))) (rd_self (neg := true) (by decide)) (fun z => nomatch z) fun _ H7 e7 l7 => ?_)
  have rg7 := rg6.up (lw_ext e7)
  have rc7 := rc6.up (lw_ext e7)
  -- no row of arrows
  refine st_seq (el_if (d := .tup [.str "arrows", .non]) (e := .tup [.str "arrows", .non]) (b := false) l7 (el_told fun H8 e8 l8 f c Q hf hc q => ⟨f, c, rfl, hf, hc, wish_graphW T (c := .lst (cs.map .str)) (a := .non) (f := .bad "arrows" .non) l8.mok (ea_cons (ev_var (i := 0) (s := [some vc]) rfl (rc7.up (lw_ext e8))) (ea_one ev_non)) (okG_fi ok).2.1 rfl (fault_row g1) q⟩)
    (fun H8 e8 l8 => ev_tup l8.mok (ea_cons ev_str (ea_one ev_non))) (rd_self (neg := true) (by decide)) (fun z => nomatch z) fun _ H8 e8 l8 => ?_)
  exact k6 p a ns cs as v0 vc va vg o4 o7 o8 o9 o10 o11 o12 o13 o14 o15 o16 (some vb) (some (.int i)) (some vd) o20 o21 H8 l8 hn ok pos (rg7.up (lw_ext e8))
end

end K01
namespace K01
open PySem PySem.Spec PyProof.Rows L2 Ak
/-! ### the law, statements 10 to 13 -/
open NdefX (NF envF ncx NScope CellsAt Caps startF slotAt slotAt_of nscope_by cells_of)
open LamX (CodeO TabS Tabs ExtN TabB)
theorem eltC_test {N : MK} {p a : Addr} {i : Nat} {tt : TT} {te : TE} {s : L2.St} {vs : List Nat} {H3 : Hp} {x : V} {d : D} {Co : Option D -> Prop} (hw : wipe ((wipe s vs).set i (some x)) vs = wipe s vs)
    (ht : forall Q : Bool -> Hp -> Prop, (forall c H2, SameX p H3 H2 -> Drw p a H2 -> Q c H2) -> tt ((wipe s vs).set i (some x)) H3 Q) (he : forall H2, SameX p H3 H2 -> Drw p a H2 -> EvD N te ((wipe s vs).set i (some x)) H2 d) (c1 : Co (some d)) (c0 : Co none) : EltC N p a (gName i) tt te vs s H3 x Co := fun P S k1 k0 => ⟨hw, ht _ fun c H2 e2 d2 => by
    cases c with
    | true =>
      rw [if_pos rfl]
      exact he H2 e2 d2 H2 (Same.refl H2) P fun v H4 e4 r => k1 d c1 v H4 (e2.trans (SameX.of e4)) (d2.up e4) r
    | false =>
      rw [if_neg Bool.false_ne_true]
      exact k0 c0 H2 e2 d2⟩
theorem at_map {α : Type} {f : α -> D} {l : List α} {i : Int} {x : α} (h0 : 0 ≤ i) (h : l[i.toNat]? = some x) : atI (l.map f) i = some (f x) := by
  have h2 : (l.map f)[i.toNat]? = some (f x) := by rw [List.getElem?_map, h] <;> rfl
  have h3 := atI_nat h2
  rw [show ((i.toNat : Nat) : Int) = i by omega] at h3
  exact h3
theorem at_cs {cs : List Str} {i : Int} (h0 : 0 ≤ i) (h1 : i < cs.length) : atI (cs.map D.str) i = some (.str (cs.getD i.toNat ⟨#[]⟩)) := by
  refine at_map h0 ?_
  have hlt : i.toNat < cs.length := by omega
  rw [List.getD_eq_getElem?_getD, List.getElem?_eq_getElem hlt] <;> rfl
section
variable {P : Program} {w : World} {K : PySem.W.Frag} {mg : Str -> Option Value} {base : Heap}
theorem law4 (T : Tx K mg) {A : Around} {outer : List Env} {s : Shared} {H : Hp} {E : XK} {tp : Addr} (TB : TabB base mg T.c_law tp) (hr : Room 11 (A.deeper (envOfC "law" (defScope s_law) s.heap.objs.size T.f_law (.ref T.c_law)))) {Q : VK} (hQ : forall H2, Q (.bl true) H2) :
    exists t, PSs (LC P w base T (.ref T.c_law) A outer s H E) (List.drop 10 (defBody s_law)) t ∧ forall (p a : Addr) (ns : List Int) (cs : List Str) (as : List Arrow) (v0 vc va vg : V) (o4 o7 o8 o9 o10 o11 o12 o13 o14 o15 o16 o17 o18 o19 o20 o21 : Option V) (H1 : Hp),
      Lw K p a tp lawQ ns H1 -> ns.length ≤ 1000 -> GOk 9 cs as -> Rep (msk (LM p tp) H1) (graphD T cs as) vg -> Rep (msk (LM p tp) H1) (.lst (cs.map .str)) vc -> Rep (msk (LM p tp) H1) (.lst (as.map aD)) va ->
      t { nx := fun _ H' => Q .non H', rt := Q } (S22 (some v0) (some (.ref p)) (some vc) (some va) o4 (some vg) (some (.int cs.length)) o7 o8 o9 o10 o11 o12 o13 o14 o15 o16 o17 o18 o19 o20 o21) H1 := by
  obtain ⟨t5, h5, k5⟩ := law5 (P := P) (w := w) (base := base) (outer := outer) (H := H) (E := E) T TB hr hQ
  refine ⟨_, (pss_cons (ps_set (i := 15) sc_law.nd rfl (.inr rfl) (pe_lc (own := [("node", 7)]) (g := (gName 7)) (tt := (tTest (tOp (rEqU false) (tCall (SpTake K) [] E0 (tCons (tVar 1) (tCons (tC (.int 2)) tNil))) (tC (.int 0))))) (te := (tVar 7)) rfl sc_law.nd (pi_range1 rfl T.n_range (pa_cons (pv 6) pa_nil)) (blkOk_by (own := [("node", 7)]) (N := ["script", "draw", "colours", "arrows", "twice", "graph", "many", "node", "label", "start", "one", "end", "other", "both", "moved", "kept", "part", "bad", "at", "odd", "wrong", "deed"]) (sc := (defScope s_law)) (by decide +kernel)) (fun _ _ _ _ _ => by exact (pg_name (i := 7) sc_law.nd rfl (.inl rfl))) (fun _ _ _ _ _ => by exact (pts_one (pt_cmpR (op_eqU hr.units) (pe_call (ok__law_take T) (hr.mono (by decide)) rfl T.g__law_take T.F__law_take.kp (T.B__law_take) .nil passL (pa_cons (pv 1) (pa_cons pe_int pa_nil))) pe_int (nomark _)))) (fun _ _ _ _ _ => by exact (pv 7))))
      (pss_cons (ps_set (i := 16) sc_law.nd rfl (.inl rfl) (pe_meth (pv 5) T.cls_Graph T.m_Graph_only (ok_Graph_only T) (hr.mono (by decide)) T.B_Graph_only .nil passL (pa_cons (pe_op op_addU (pe_revL (pv 15)) (pv 15)) pa_nil)))
      (pss_cons (ps_if (pt_cmpR (op_neU hr.units) (pe_fld (pv 16) rfl) (pe_callTy call_tuple_of rfl T.n_tuple (by decide +kernel) (by exact (pa_cons (pe_lc (own := [("node", 7)]) (g := (gName 7)) (tt := tYes) (te := (tOp (rIx K) (tVar 2) (tVar 7))) rfl sc_law.nd (pi_any (pv 15)) (blkOk_by (own := [("node", 7)]) (N := ["script", "draw", "colours", "arrows", "twice", "graph", "many", "node", "label", "start", "one", "end", "other", "both", "moved", "kept", "part", "bad", "at", "odd", "wrong", "deed"]) (sc := (defScope s_law)) (by decide +kernel)) (fun _ _ _ _ _ => by exact (pg_name (i := 7) sc_law.nd rfl (.inl rfl))) (fun _ _ _ _ _ => by exact pts_nil) (fun _ _ _ _ _ => by exact (pe_ix ix_seq (pv 2) (pv 7) (fun _ _ => rfl)))) pa_nil))) (nomark _)) (pss_one (ps_ret pe_bl)) pss_nil)
      (pss_cons (ps_if (pt_cmpR (op_neU hr.units) (pe_fld (pv 16) rfl) (pe_callTy call_tuple_of rfl T.n_tuple (by decide +kernel) (by exact (pa_cons (pe_lc (own := [("start", 9), ("label", 8), ("end", 11)]) (g := (gTup K 3 (gCons (gName 9) (gCons (gName 8) (gCons (gName 11) gNil))))) (tt := (tAnd (tTest (tOp (rInU false) (tVar 9) (tVar 15))) (tTest (tOp (rInU false) (tVar 11) (tVar 15))))) (te := (tTup (tCons (tBM K "list" (rIndex K) (tVar 15) (tCons (tVar 9) tNil)) (tCons (tVar 8) (tCons (tBM K "list" (rIndex K) (tVar 15) (tCons (tVar 11) tNil)) tNil))))) rfl sc_law.nd (pi_any (pv 3)) (blkOk_by (own := [("start", 9), ("label", 8), ("end", 11)]) (N := ["script", "draw", "colours", "arrows", "twice", "graph", "many", "node", "label", "start", "one", "end", "other", "both", "moved", "kept", "part", "bad", "at", "odd", "wrong", "deed"]) (sc := (defScope s_law)) (by decide +kernel)) (fun _ _ _ _ _ => by exact (pg_tup rfl (pgs_cons (pg_name (i := 9) sc_law.nd rfl (.inl rfl)) (pgs_cons (pg_name (i := 8) sc_law.nd rfl (.inl rfl)) (pgs_cons (pg_name (i := 11) sc_law.nd rfl (.inl rfl)) pgs_nil))))) (fun _ _ _ _ _ => by exact (pts_one (PW.pt (pw_and (pt_cmpR (op_inU hr.units) (pv 9) (pv 15) (by with_unfolding_all rfl)) (pw_and1 (pt_cmpR (op_inU hr.units) (pv 11) (pv 15) (by with_unfolding_all rfl))))))) (fun _ _ _ _ _ => by exact (pe_tup (pa_cons (pe_bm PySem.F.plainAttrs_list PySem.F.slot_list_index PySem.F.type_list_index mt_index (pv 15) (pa_cons (pv 9) pa_nil)) (pa_cons (pv 8) (pa_cons (pe_bm PySem.F.plainAttrs_list PySem.F.slot_list_index PySem.F.type_list_index mt_index (pv 15) (pa_cons (pv 11) pa_nil)) pa_nil)))))) pa_nil))) (nomark _)) (pss_one (ps_ret pe_bl)) pss_nil)
      h5)))), ?_⟩
  intro p a ns cs as v0 vc va vg o4 o7 o8 o9 o10 o11 o12 o13 o14 o15 o16 o17 o18 o19 o20 o21 H1 l hn gok rg rc ra
  have ok := gok.okG (by decide)
  have len := gok.le
  have few := gok.few
  have wkp : forall kept : List Int, (forall i, i ∈ kept -> 0 ≤ i ∧ i < (cs.length : Int)) -> kept.Nodup -> kept.length ≤ cs.length := fun kept hk nd => ints_le nd hk
  -- kept
  refine st_seq (st_setC (M := LM p tp) l.drw (ec_lc (Ce := fun d o => o = none ∨ o = some d) l.mok lm_p l.drw (eci_pure fun H1 e1 d1 => ei_rng1 (j := cs.length) (ea_one (ev_var (d := .int cs.length) rfl rfl)) (by omega) (by omega)) (fun ds e => by rw [e, rngD_len]; omega) fun ds N H3 d x cs' mN hN e3 d3 sm hd rx => eltC_test (d := d) rfl
      (etC (M := N) (C := fun d => exists b, d = .bl b) d3 (ec_op (C1 := fun d => exists k : Int, d = .int k) hN ((ec_call mN hN (sql_x l.scr e3 l.drw) d3 hn rfl (ecs_cons hN (ec_pure fun H2 e2 d2 => ev_int (i := 2)) ecs_nil) ?_).imp ?_) (ec_pure fun H2 e2 d2 => ev_int (i := 0)) ?_) fun d h => h)
      (fun H2 e2 d2 => ev_var rfl (rx.up (e2.msk hN))) (.inr rfl) (.inl rfl)) ?_)
  · rintro ds ⟨d, e, rfl, rfl, rfl⟩
    exact ⟨2, rfl, by decide⟩
  · rintro d ⟨ds, ⟨d', e, rfl, rfl, rfl⟩, n', k, ek, h1, h2, rfl⟩
    exact ⟨k, rfl⟩
  · rintro d e ⟨k, rfl⟩ rfl
    exact ⟨_, ⟨_, rfl⟩, fun H1 => rd_eqU (dInt.ok (by decide) k) (dInt.ok (by decide) 0)⟩
  rintro d vk H2 ⟨ds, es, rfl, rfl, ys⟩ e2 d2 rk
  obtain ⟨kept, rfl, asc, hk⟩ := kept_of (yields_sub ys)
  have hk : forall i, i ∈ kept -> 0 ≤ i ∧ i < (cs.length : Int) := fun i hi => by
    have z := hk i hi
    omega
  have klen := wkp kept hk (nodup_lt asc)
  have l2 := l.upx e2 d2
  have m2 := l2.mok
  have rg2 := rg.up (e2.msk lm_p)
  have rc2 := rc.up (e2.msk lm_p)
  have ra2 := ra.up (e2.msk lm_p)
  dsimp only
  -- part
  have kf := keptF_rev asc
  have eL : (kept.map D.int).reverse ++ kept.map D.int = (kept.reverse ++ kept).map .int := by rw [List.map_append, List.map_reverse]
  refine st_seq (st_set (M := LM p tp) (P := fun y G => Rep G (graphD T (partC cs kept) (partA as kept)) y) (ev_methE (d := graphD T (partC cs kept) (partA as kept)) m2 (ev_var rfl rg2) rfl (ea_one (ev_op (ev_rev m2 (ev_var rfl rk)) (ev_var rfl rk) (rd_addL m2 (by rw [List.length_reverse, List.length_map, sizeLine_eq]; omega))))
    ⟨cs, as, _, kept.reverse ++ kept, rfl, ok, ?_, ?_, fun i hi => ?_, ?_⟩) fun vp H3 e3 rp => ?_)
  · show (decide (((kept.map D.int).reverse ++ kept.map D.int).length ≤ 100000) && D.fis ((kept.map D.int).reverse ++ kept.map D.int)) = true
    rw [decide_eq_true (by rw [List.length_append, List.length_reverse, List.length_map]; omega), eL, fis_all.mpr fun d hd => by
      obtain ⟨i, _, rfl⟩ := List.mem_map.mp hd
      rfl] <;> rfl
  · show some _ = some _
    rw [eL]
  · rcases List.mem_append.mp hi with z | z
    · exact hk i (List.mem_reverse.mp z)
    · exact hk i z
  · rw [kf, part_sorted gok.nd gok.ord asc]
  have l3 := l2.up e3
  have m3 := l3.mok
  have rg3 := rg2.up (msk_mono (M := LM p tp) e3)
  have rc3 := rc2.up (msk_mono (M := LM p tp) e3)
  have ra3 := ra2.up (msk_mono (M := LM p tp) e3)
  have rk3 := Rep.up rk (msk_mono (M := LM p tp) e3)
  dsimp only
  -- its colours
  refine st_seq (st_ifF (et_test (M := LM p tp) (Ev.to (ev_neD (dT dStr) (x := partC cs kept) (y := partC cs kept) rfl rfl (ev_fld (ev_var rfl rp) T.cls_Graph T.na_Graph_colours rfl) (ev_tof m3 (ea_one (ev_lcm (ds := kept.map .int) (colD cs) m3 (ia_list (ev_var rfl rk3)) (by rw [List.length_map]; omega) fun N H5 d y mN eN hd rd => ?_)) (.inl ?_))) (by rw [decide_eq_true rfl] <;> rfl))) fun H4 e4 => ?_)
  · obtain ⟨i, hm, rfl⟩ := List.mem_map.mp hd
    obtain ⟨b1, b2⟩ := hk i hm
    refine elt_all (s2 := (wipe (S22 (some v0) (some (.ref p)) (some vc) (some va) o4 (some vg) (some (.int cs.length)) o7 o8 o9 o10 o11 o12 o13 o14 (some vk) (some vp) o17 o18 o19 o20 o21) [7]).set 7 (some y)) (fun Q q => q) rfl ?_
    exact ev_op (ev_var rfl (Rep.up rc3 eN)) (ev_var rfl rd) (rd_ixL (at_cs b1 b2))
  · rw [List.map_map]
    unfold partC
    rw [List.map_map] <;> rfl
  have l4 := l3.up e4
  have m4 := l4.mok
  have rg4 := rg3.up (msk_mono (M := LM p tp) e4)
  have rc4 := rc3.up (msk_mono (M := LM p tp) e4)
  have ra4 := ra3.up (msk_mono (M := LM p tp) e4)
  have rk4 := rk3.up (msk_mono (M := LM p tp) e4)
  have rp4 := Rep.up rp (msk_mono (M := LM p tp) e4)
  dsimp only
  -- its arrows
  refine st_seq (st_ifF (et_test (M := LM p tp) (Ev.to (ev_neD (dT dA) (x := partA as kept) (y := partA as kept) rfl rfl (ev_fld (ev_var rfl rp4) T.cls_Graph T.na_Graph_arrows rfl) (ev_tof m4 (ea_one (ev_lc (ds := as.map aD) (partIn kept) m4 (ia_list (ev_var rfl ra4)) (by rw [List.length_map]; omega) fun N H5 d y mN eN hd rd => ?_)) (.inl ?_))) (by rw [decide_eq_true rfl] <;> rfl))) fun H5 e5 => ?_)
  · obtain ⟨a, _, rfl⟩ := List.mem_map.mp hd
    obtain ⟨t, xs, et, ht, rxs⟩ := rd
    obtain ⟨y1, y2, y3, exs, ry1, ry2, ry3⟩ := rxs.three_of
    subst exs et
    have rkN := Rep.up rk4 eN
    refine elt_of (b := decide (a.1 ∈ kept) && decide (a.2.2 ∈ kept)) (s2 := (((wipe (S22 (some v0) (some (.ref p)) (some vc) (some va) o4 (some vg) (some (.int cs.length)) o7 o8 o9 o10 o11 o12 o13 o14 (some vk) (some vp) o17 o18 o19 o20 o21) [9, 8, 11]).set 9 (some y1)).set 8 (some y2)).set 11 (some y3)) (fun Q q => ⟨t, _, rfl, SqT.of (msk_same _ _ ht), rfl, _, _, rfl, _, _, rfl, _, [], rfl, rfl, q⟩) rfl
      (et_and (et_test (M := N) (ev_inD dInt (x := a.1) (l := kept) rfl rfl (ev_var rfl ry1) (ev_var rfl rkN))) fun _ => et_test (M := N) (ev_inD dInt (x := a.2.2) (l := kept) rfl rfl (ev_var rfl ry3) (ev_var rfl rkN))) (fun h => ⟨.tup [.int (idxF kept a.1), .str a.2.1, .int (idxF kept a.2.2)], ?_, ?_⟩) fun h => ?_
    · show (if (decide (a.1 ∈ kept) && decide (a.2.2 ∈ kept)) = true then some (D.tup [.int (idxF kept a.1), .str a.2.1, .int (idxF kept a.2.2)]) else none) = _
      rw [if_pos h]
    · rw [Bool.and_eq_true, decide_eq_true_eq, decide_eq_true_eq] at h
      exact ev_tup mN (ea_cons (ev_indexI (ev_var rfl rkN) (ev_var rfl ry1) h.1) (ea_cons (ev_var rfl ry2) (ea_one (ev_indexI (ev_var rfl rkN) (ev_var rfl ry3) h.2))))
    · show (if (decide (a.1 ∈ kept) && decide (a.2.2 ∈ kept)) = true then some (D.tup [.int (idxF kept a.1), .str a.2.1, .int (idxF kept a.2.2)]) else none) = _
      rw [if_neg (by rw [h]; exact Bool.false_ne_true)]
  · rw [partIn_all] <;> rfl
  exact k5 p a ns cs as v0 vc va vg o4 o7 o8 o9 o10 o11 o12 o13 o14 (some vk) (some vp) o17 o18 o19 o20 o21 H5 (l4.up e5) hn ok gok.pos (rg4.up (msk_mono (M := LM p tp) e5)) (rc4.up (msk_mono (M := LM p tp) e5)) (ra4.up (msk_mono (M := LM p tp) e5))
end

end K01
namespace K01
open PySem PySem.Spec PyProof.Rows L2 Ak
/-! ### the law, statements 6 to 9 -/
open NdefX (NF envF ncx NScope CellsAt Caps startF slotAt slotAt_of nscope_by cells_of)
open LamX (CodeO TabS Tabs ExtN TabB)
theorem beside_ok {cs cs2 : List Str} {as as2 : List Arrow} (g1 : GOk 9 cs as) (g2 : GOk 4 cs2 as2) : okG (cs ++ cs2) (as ++ as2.map (moveA cs.length)) := by
  obtain ⟨c1, a1, _, _⟩ := g1.okG (by decide)
  obtain ⟨c2, a2, _, _⟩ := g2.okG (by decide)
  have n1 := g1.le
  have n2 := g2.le
  have f1 := g1.few
  have f2 := g2.few
  refine ⟨fun c hc => ?_, fun a ha => ?_, by rw [List.length_append]; omega, by rw [List.length_append, List.length_map]; omega⟩
  · rcases List.mem_append.mp hc with z | z
    · exact c1 c z
    · exact c2 c z
  · rw [List.length_append]
    rcases List.mem_append.mp ha with z | z
    · have h := arr_name (a1 a z)
      exact arr_of h.1 (by omega) (by omega) (by omega) (by omega)
    · obtain ⟨b, hb, rfl⟩ := List.mem_map.mp z
      have h := arr_name (a2 b hb)
      unfold moveA
      exact arr_of h.1 (by dsimp only; omega) (by dsimp only; omega) (by dsimp only; omega) (by dsimp only; omega)
section
variable {P : Program} {w : World} {K : PySem.W.Frag} {mg : Str -> Option Value} {base : Heap}
theorem law3 (T : Tx K mg) {A : Around} {outer : List Env} {s : Shared} {H : Hp} {E : XK} {tp : Addr} (TB : TabB base mg T.c_law tp) (hr : Room 11 (A.deeper (envOfC "law" (defScope s_law) s.heap.objs.size T.f_law (.ref T.c_law)))) {Q : VK} (hQ : forall H2, Q (.bl true) H2) :
    exists t, PSs (LC P w base T (.ref T.c_law) A outer s H E) (List.drop 6 (defBody s_law)) t ∧ forall (p a : Addr) (ns : List Int) (cs : List Str) (as : List Arrow) (v0 vc va vg : V) (o4 o7 o8 o9 o10 o11 o12 o13 o14 o15 o16 o17 o18 o19 o20 o21 : Option V) (H1 : Hp),
      Lw K p a tp lawQ ns H1 -> ns.length ≤ 1000 -> GOk 9 cs as -> Rep (msk (LM p tp) H1) (graphD T cs as) vg -> Rep (msk (LM p tp) H1) (.lst (cs.map .str)) vc -> Rep (msk (LM p tp) H1) (.lst (as.map aD)) va ->
      t { nx := fun _ H' => Q .non H', rt := Q } (S22 (some v0) (some (.ref p)) (some vc) (some va) o4 (some vg) (some (.int cs.length)) o7 o8 o9 o10 o11 o12 o13 o14 o15 o16 o17 o18 o19 o20 o21) H1 := by
  obtain ⟨t4, h4, k4⟩ := law4 (P := P) (w := w) (base := base) (outer := outer) (H := H) (E := E) T TB hr hQ
  refine ⟨_, (pss_cons (ps_set (i := 12) sc_law.nd rfl (.inl rfl) (pe_call (ok__law_graph T) (hr.mono (by decide)) rfl T.g__law_graph T.F__law_graph.kp (T.B__law_graph) .nil passL (pa_cons (pv 1) (pa_cons pe_int pa_nil))))
      (pss_cons (ps_set (i := 13) sc_law.nd rfl (.inl rfl) (pe_meth (pv 5) T.cls_Graph T.m_Graph_beside (ok_Graph_beside T) (hr.mono (by decide)) T.B_Graph_beside .nil passL (pa_cons (pe_make T.mk_Graph (ok_Graph_init T) (hr.mono (by decide)) rfl T.g_Graph T.B_Graph_init .nil passL (pa_cons (pe_ix ix_seq (pv 12) pe_int (fun _ _ => rfl)) (pa_cons (pe_ix ix_seq (pv 12) pe_int (fun _ _ => rfl)) pa_nil))) pa_nil)))
      (pss_cons (ps_setLc (i := 14) (own := [("start", 9), ("label", 8), ("end", 11)]) (g := (gTup K 3 (gCons (gName 9) (gCons (gName 8) (gCons (gName 11) gNil))))) (tt := tYes) (te := (tTup (tCons (tOp (rAddU K) (tVar 9) (tVar 6)) (tCons (tVar 8) (tCons (tOp (rAddU K) (tVar 11) (tVar 6)) tNil))))) rfl sc_law.nd rfl rfl (sw_true rfl rfl rfl (by decide +kernel)) (pi_any (pe_ix ix_seq (pv 12) pe_int (fun _ _ => rfl))) (blkOk_by (own := [("start", 9), ("label", 8), ("end", 11)]) (N := ["script", "draw", "colours", "arrows", "twice", "graph", "many", "node", "label", "start", "one", "end", "other", "both", "moved", "kept", "part", "bad", "at", "odd", "wrong", "deed"]) (sc := (defScope s_law)) (by decide +kernel)) (fun _ _ _ _ _ => by exact (pg_tup rfl (pgs_cons (pg_name (i := 9) sc_law.nd rfl (.inl rfl)) (pgs_cons (pg_name (i := 8) sc_law.nd rfl (.inl rfl)) (pgs_cons (pg_name (i := 11) sc_law.nd rfl (.inl rfl)) pgs_nil))))) (fun _ _ _ _ _ => by exact pts_nil) (fun _ _ _ _ _ => by exact (pe_tup (pa_cons (pe_op op_addU (pv 9) (pv 6)) (pa_cons (pv 8) (pa_cons (pe_op op_addU (pv 11) (pv 6)) pa_nil))))))
      (pss_cons (ps_if (pt_cmpR (op_neOwn T.eq_Graph (fnr_of (ok_Graph_eq T) T.B_Graph_eq) (hr.mono (by decide)) (fun _ _ _ _ ⟨_, _, _, _, _, _, _, _, _, _, _, _, h⟩ => h)) (pv 13) (pe_make T.mk_Graph (ok_Graph_init T) (hr.mono (by decide)) rfl T.g_Graph T.B_Graph_init .nil passL (pa_cons (pe_op op_addU (pv 2) (pe_ix ix_seq (pv 12) pe_int (fun _ _ => rfl))) (pa_cons (pe_op op_addU (pv 3) (pv 14)) pa_nil))) (nomark _)) (pss_one (ps_ret pe_bl)) pss_nil)
      h4)))), ?_⟩
  intro p a ns cs as v0 vc va vg o4 o7 o8 o9 o10 o11 o12 o13 o14 o15 o16 o17 o18 o19 o20 o21 H1 l hn gok rg rc ra
  have ok := gok.okG (by decide)
  have len := gok.le
  have few := gok.few
  -- other
  refine st_seq (st_setC (M := LM p tp) (C := fun d => exists (cs2 : List Str) (as2 : List Arrow), GOk 4 cs2 as2 ∧ d = .tup [.lst (cs2.map .str), .lst (as2.map aD)]) l.drw ((ec_call l.mok lm_p l.scr l.drw hn rfl (ecs_cons lm_p (ec_pure fun H2 e2 d2 => ev_int (i := 4)) ecs_nil) ?_).imp ?_) ?_)
  · rintro ds ⟨d, e, rfl, rfl, rfl⟩
    exact ⟨4, rfl, by decide, by decide⟩
  · rintro d ⟨ds, ⟨d', e, rfl, rfl, rfl⟩, n', cs2, as2, en, g, rfl⟩
    cases en
    exact ⟨cs2, as2, g, rfl⟩
  rintro d vo H2 ⟨cs2, as2, gok2, rfl⟩ e2 d2 ro
  have len2 := gok2.le
  have few2 := gok2.few
  have l2 := l.upx e2 d2
  have m2 := l2.mok
  have rg2 := rg.up (e2.msk lm_p)
  have rc2 := rc.up (e2.msk lm_p)
  have ra2 := ra.up (e2.msk lm_p)
  have okB := beside_ok gok gok2
  dsimp only
  -- both
  refine st_seq (st_set (M := LM p tp) (P := fun y G => Rep G (graphD T (cs ++ cs2) (sortA (as ++ as2.map (moveA cs.length)))) y) (ev_meth (d := graphD T (cs ++ cs2) (sortA (as ++ as2.map (moveA cs.length)))) m2 (ev_var rfl rg2) rfl
    (ea_one (Ev.to (d := .ins T.C_Graph (fieldsD cs2 (sortA as2))) (z := graphD T cs2 as2) (ev_make (R := R_init) m2 (ea_cons (ev_op (ev_var rfl ro) (ev_int (i := 0)) (rd_ixT (z := .lst (cs2.map .str)) rfl)) (ea_one (ev_op (ev_var rfl ro) (ev_int (i := 1)) (rd_ixT (z := .lst (as2.map aD)) rfl)))) (okG_init (gok2.okG (by decide)) (.inl rfl) (.inl rfl))) (by rw [sortA_of gok2.nd gok2.ord fun x => Iff.rfl] <;> rfl)))
    ⟨cs, as, cs2, as2, rfl, okB, rfl⟩) fun vb H3 e3 rb => ?_)
  have l3 := l2.up e3
  have m3 := l3.mok
  have rg3 := rg2.up (msk_mono (M := LM p tp) e3)
  have rc3 := rc2.up (msk_mono (M := LM p tp) e3)
  have ra3 := ra2.up (msk_mono (M := LM p tp) e3)
  have ro3 := Rep.up ro (msk_mono (M := LM p tp) e3)
  dsimp only
  -- moved
  refine st_seq (st_set (M := LM p tp) (P := fun y G => Rep G (.lst ((as2.map (moveA cs.length)).map aD)) y) (Ev.to (ev_lcm (ds := as2.map aD) (moveD cs.length) m3 (ia_list (ev_op (ev_var rfl ro3) (ev_int (i := 1)) (rd_ixT (z := .lst (as2.map aD)) rfl))) (by rw [List.length_map]; omega) fun N H5 d y mN eN hd rd => ?_) ?_) fun vm H4 e4 rm => ?_)
  · obtain ⟨a, _, rfl⟩ := List.mem_map.mp hd
    obtain ⟨t, xs, et, ht, rxs⟩ := rd
    obtain ⟨y1, y2, y3, exs, ry1, ry2, ry3⟩ := rxs.three_of
    subst exs et
    refine elt_all (s2 := (((wipe (S22 (some v0) (some (.ref p)) (some vc) (some va) o4 (some vg) (some (.int cs.length)) o7 o8 o9 o10 o11 (some vo) (some vb) o14 o15 o16 o17 o18 o19 o20 o21) [9, 8, 11]).set 9 (some y1)).set 8 (some y2)).set 11 (some y3)) (fun Q q => ⟨t, _, rfl, SqT.of (msk_same _ _ ht), rfl, _, _, rfl, _, _, rfl, _, [], rfl, rfl, q⟩) rfl ?_
    exact ev_tup mN (ea_cons (ev_op (ev_var rfl ry1) (ev_var (d := .int cs.length) rfl rfl) rd_addI) (ea_cons (ev_var rfl ry2) (ea_one (ev_op (ev_var rfl ry3) (ev_var (d := .int cs.length) rfl rfl) rd_addI))))
  · rw [List.map_map, List.map_map] <;> rfl
  have l4 := l3.up e4
  have m4 := l4.mok
  have rg4 := rg3.up (msk_mono (M := LM p tp) e4)
  have rc4 := rc3.up (msk_mono (M := LM p tp) e4)
  have ra4 := ra3.up (msk_mono (M := LM p tp) e4)
  have ro4 := ro3.up (msk_mono (M := LM p tp) e4)
  have rb4 := Rep.up rb (msk_mono (M := LM p tp) e4)
  dsimp only
  -- both against the graph made whole
  refine st_seq (st_ifF (et_test (M := LM p tp) (Ev.to (ev_op (ev_var rfl rb4) (ev_make (C := T.C_Graph) (R := R_init) (X := X_init T) m4 (ea_cons (ev_op (ev_var rfl rc4) (ev_op (ev_var rfl ro4) (ev_int (i := 0)) (rd_ixT (z := .lst (cs2.map .str)) rfl)) (rd_addL m4 (by rw [List.length_map, List.length_map, sizeLine_eq]; omega))) (ea_one (ev_op (ev_var rfl ra4) (ev_var rfl rm) (rd_addL m4 (by rw [List.length_map, List.length_map, List.length_map, sizeLine_eq]; omega)))))
      (okG_init okB (.inl (by rw [List.map_append])) (.inl (by rw [List.map_append])))) (rd_neOwn (k := true) m4 ⟨cs ++ cs2, _, cs ++ cs2, _, rfl, by rw [decide_eq_true rfl]⟩)) rfl)) fun H5 e5 => ?_)
  exact k4 p a ns cs as v0 vc va vg o4 o7 o8 o9 o10 o11 (some vo) (some vb) (some vm) o15 o16 o17 o18 o19 o20 o21 H5 (l4.up e5) hn gok (rg4.up (msk_mono (M := LM p tp) e5)) (rc4.up (msk_mono (M := LM p tp) e5)) (ra4.up (msk_mono (M := LM p tp) e5))
end

end K01
namespace K01
open PySem PySem.Spec PyProof.Rows L2 Ak
/-! ### the law, statement 5 -/
open NdefX (NF envF ncx NScope CellsAt Caps startF slotAt slotAt_of nscope_by cells_of)
open LamX (CodeO TabS Tabs ExtN TabB)
theorem strs_of (l : List Str) : exists xs : List Str, sortD (l.map .str) = xs.map .str := by
  obtain ⟨xs, e, _⟩ := all_of (f := D.str) (C := fun _ => True) (es := sortD (l.map .str)) fun d hd => by
    obtain ⟨x, _, rfl⟩ := List.mem_map.mp ((sortD_perm _).mem_iff.mp hd)
    exact ⟨x, rfl, trivial⟩
  exact ⟨xs, e⟩
theorem labs_sorted (as : List Arrow) (n : Int) : sortD ((labsO (outF as) n).map .str) = sortD ((uniq (labsA as n)).map .str) := sortD_eq (fun a b ha hb e => by
  obtain ⟨x, _, rfl⟩ := List.mem_map.mp ha
  obtain ⟨y, _, rfl⟩ := List.mem_map.mp hb
  exact toks_str e) ((labs_perm as n).map _)
section
variable {P : Program} {w : World} {K : PySem.W.Frag} {mg : Str -> Option Value} {base : Heap}
theorem law2 (T : Tx K mg) {A : Around} {outer : List Env} {s : Shared} {H : Hp} {E : XK} {tp : Addr} (TB : TabB base mg T.c_law tp) (hr : Room 11 (A.deeper (envOfC "law" (defScope s_law) s.heap.objs.size T.f_law (.ref T.c_law)))) {Q : VK} (hQ : forall H2, Q (.bl true) H2) :
    exists t, PSs (LC P w base T (.ref T.c_law) A outer s H E) (List.drop 5 (defBody s_law)) t ∧ forall (p a : Addr) (ns : List Int) (cs : List Str) (as : List Arrow) (v0 vc va vg : V) (o4 o7 o8 o9 o10 o11 o12 o13 o14 o15 o16 o17 o18 o19 o20 o21 : Option V) (H1 : Hp),
      Lw K p a tp lawQ ns H1 -> ns.length ≤ 1000 -> GOk 9 cs as -> Rep (msk (LM p tp) H1) (graphD T cs as) vg -> Rep (msk (LM p tp) H1) (.lst (cs.map .str)) vc -> Rep (msk (LM p tp) H1) (.lst (as.map aD)) va ->
      t { nx := fun _ H' => Q .non H', rt := Q } (S22 (some v0) (some (.ref p)) (some vc) (some va) o4 (some vg) (some (.int cs.length)) o7 o8 o9 o10 o11 o12 o13 o14 o15 o16 o17 o18 o19 o20 o21) H1 := by
  obtain ⟨t3, h3, k3⟩ := law3 (P := P) (w := w) (base := base) (outer := outer) (H := H) (E := E) T TB hr hQ
  refine ⟨_, (pss_cons (ps_for PassesOwn.leaving rfl (pi_range1 rfl T.n_range (pa_cons (pv 6) pa_nil)) (pg_name (i := 7) sc_law.nd rfl (.inr rfl))
      (pss_cons (ps_for PassesOwn.leaving rfl (pi_any (pe_tup (pa_cons pe_str (pa_cons pe_str (pa_cons pe_str pa_nil))))) (pg_name (i := 8) sc_law.nd rfl (.inr rfl))
      (pss_one (ps_if (pt_cmpR (op_neU hr.units) (pe_meth (pv 5) T.cls_Graph T.m_Graph_ends (ok_Graph_ends T) (hr.mono (by decide)) T.B_Graph_ends .nil passL (pa_cons (pv 7) (pa_cons (pv 8) pa_nil))) (pe_callTy call_tuple_of rfl T.n_tuple (by decide +kernel) (by exact (pa_cons (pe_lc (own := [("start", 9), ("one", 10), ("end", 11)]) (g := (gTup K 3 (gCons (gName 9) (gCons (gName 10) (gCons (gName 11) gNil))))) (tt := (tTest (tOp (rEqU false) (tTup (tCons (tVar 9) (tCons (tVar 10) tNil))) (tTup (tCons (tVar 7) (tCons (tVar 8) tNil)))))) (te := (tVar 11)) rfl sc_law.nd (pi_any (pv 3)) (blkOk_by (own := [("start", 9), ("one", 10), ("end", 11)]) (N := ["script", "draw", "colours", "arrows", "twice", "graph", "many", "node", "label", "start", "one", "end", "other", "both", "moved", "kept", "part", "bad", "at", "odd", "wrong", "deed"]) (sc := (defScope s_law)) (by decide +kernel)) (fun _ _ _ _ _ => by exact (pg_tup rfl (pgs_cons (pg_name (i := 9) sc_law.nd rfl (.inl rfl)) (pgs_cons (pg_name (i := 10) sc_law.nd rfl (.inl rfl)) (pgs_cons (pg_name (i := 11) sc_law.nd rfl (.inl rfl)) pgs_nil))))) (fun _ _ _ _ _ => by exact (pts_one (pt_cmpR (op_eqU hr.units) (pe_tup (pa_cons (pv 9) (pa_cons (pv 10) pa_nil))) (pe_tup (pa_cons (pv 7) (pa_cons (pv 8) pa_nil))) (nomark _)))) (fun _ _ _ _ _ => by exact (pv 11))) pa_nil))) (nomark _)) (pss_one (ps_ret pe_bl)) pss_nil)))
      (pss_cons (ps_if (pt_cmpR (op_neU hr.units) (pe_meth (pv 5) T.cls_Graph T.m_Graph_labels (ok_Graph_labels T) (hr.mono (by decide)) T.B_Graph_labels .nil passL (pa_cons (pv 7) pa_nil)) (pe_callTy call_tuple_of rfl T.n_tuple (by decide +kernel) (by exact (pa_cons (pe_sortset rfl hr.units rfl T.n_sorted rfl T.n_set (pe_lc (own := [("start", 9), ("one", 10), ("end", 11)]) (g := (gTup K 3 (gCons (gName 9) (gCons (gName 10) (gCons (gName 11) gNil))))) (tt := (tTest (tOp (rEqU false) (tVar 9) (tVar 7)))) (te := (tVar 10)) rfl sc_law.nd (pi_any (pv 3)) (blkOk_by (own := [("start", 9), ("one", 10), ("end", 11)]) (N := ["script", "draw", "colours", "arrows", "twice", "graph", "many", "node", "label", "start", "one", "end", "other", "both", "moved", "kept", "part", "bad", "at", "odd", "wrong", "deed"]) (sc := (defScope s_law)) (by decide +kernel)) (fun _ _ _ _ _ => by exact (pg_tup rfl (pgs_cons (pg_name (i := 9) sc_law.nd rfl (.inl rfl)) (pgs_cons (pg_name (i := 10) sc_law.nd rfl (.inl rfl)) (pgs_cons (pg_name (i := 11) sc_law.nd rfl (.inl rfl)) pgs_nil))))) (fun _ _ _ _ _ => by exact (pts_one (pt_cmpR (op_eqU hr.units) (pv 9) (pv 7) (nomark _)))) (fun _ _ _ _ _ => by exact (pv 10)))) pa_nil))) (nomark _)) (pss_one (ps_ret pe_bl)) pss_nil)
      (pss_one (ps_if (pt_cmpR (op_neU hr.units) (pe_meth (pv 5) T.cls_Graph T.m_Graph_reached (ok_Graph_reached T) (hr.mono (by decide)) T.B_Graph_reached .nil passL (pa_cons (pv 7) pa_nil)) (pe_callTy call_tuple_of rfl T.n_tuple (by decide +kernel) (by exact (pa_cons (pe_call (ok__law_reached T) (hr.mono (by decide)) rfl T.g__law_reached T.F__law_reached.kp (T.B__law_reached) .nil passL (pa_cons (pv 3) (pa_cons (pv 7) pa_nil))) pa_nil))) (nomark _)) (pss_one (ps_ret pe_bl)) pss_nil)))))
      h3), ?_⟩
  intro p a ns cs as v0 vc va vg o4 o7 o8 o9 o10 o11 o12 o13 o14 o15 o16 o17 o18 o19 o20 o21 H1 l hn gok rg rc ra
  have ok := gok.okG (by decide)
  have len := gok.le
  have few := gok.few
  have m1 := l.mok
  refine st_seq (st_for (M := LM p tp) (ds := rngD 0 cs.length) m1 (ei_rng1 (j := cs.length) (ea_one (ev_var (d := .int cs.length) rfl rfl)) (by omega) (by omega)) (fun H3 i s' H' => Same H3 H' ∧ exists o7 o8, s' = S22 (some v0) (some (.ref p)) (some vc) (some va) o4 (some vg) (some (.int cs.length)) o7 o8 o9 o10 o11 o12 o13 o14 o15 o16 o17 o18 o19 o20 o21)
    (fun H3 e3 => ⟨Same.refl _, o7, o8, rfl⟩) (fun H3 i s' H' h => Kp.of h.1) ?_ ?_)
  · rintro H3 i d x s' H' H'' e3 hi hd ⟨e4, p7, p8, rfl⟩ e5 rx
    rw [rngD_len] at hi
    have hd2 : d = .int i := by
      unfold rngD at hd
      rw [List.getElem?_map, List.getElem?_range hi] at hd
      injection hd with hd
      rw [← hd]
      show D.int (0 + (i : Int)) = _
      rw [Int.zero_add]
    subst hd2
    have ex : x = V.int i := rx (LM p tp) (m1.up (e3.trans e4)) fun b z => .inl z
    subst ex
    have eA := (e3.trans e4).trans e5
    have mA := m1.up eA
    have rgA := rg.up (msk_mono (M := LM p tp) eA)
    have raA := ra.up (msk_mono (M := LM p tp) eA)
    have ni : nodeIn (.int (i : Nat)) cs.length = true := by
      show (decide ((0 : Int) ≤ i) && decide ((i : Int) < cs.length)) = true
      rw [decide_eq_true (by omega), decide_eq_true (by omega)] <;> rfl
    dsimp only
    -- ends
    refine st_seq (st_for (M := LM p tp) (ds := [.str "a", .str "b", .str "c"]) mA (ia_tup (ev_tup mA (ea_cons ev_str (ea_cons ev_str (ea_one ev_str))))) (fun H6 j s' H' => Same H6 H' ∧ exists o8, s' = S22 (some v0) (some (.ref p)) (some vc) (some va) o4 (some vg) (some (.int cs.length)) (some (.int i)) o8 o9 o10 o11 o12 o13 o14 o15 o16 o17 o18 o19 o20 o21)
      (fun H6 e6 => ⟨Same.refl _, p8, rfl⟩) (fun H6 j s' H' h => Kp.of h.1) ?_ ?_)
    · rintro H6 j d y s' H7 H8 e6 hj hdj ⟨e7, q8, rfl⟩ e8 ry
      have hl : exists lb : Str, d = .str lb := by
        have z := List.mem_of_getElem? hdj
        simp only [List.mem_cons, List.not_mem_nil, or_false] at z
        rcases z with z | z | z <;> exact ⟨_, z⟩
      obtain ⟨lb, rfl⟩ := hl
      have ry := ry (LM p tp) (mA.up (e6.trans e7)) fun b z => .inl z
      have eB := (e6.trans e7).trans e8
      have mB := mA.up eB
      have rgB := rgA.up (msk_mono (M := LM p tp) eB)
      have raB := raA.up (msk_mono (M := LM p tp) eB)
      refine st_ifF (et_test (M := LM p tp) (Ev.to (ev_neD (dT dInt) (x := endsA as i lb) (y := endsA as i lb) rfl rfl (ev_meth (R := R_ends T) (d := .tup ((endsA as i lb).map .int)) mB (ev_var rfl rgB) rfl (ea_cons (ev_var (d := .int i) rfl rfl) (ea_one (ev_var rfl ry))) ⟨cs, as, i, lb, rfl, by rw [ends_out]⟩)
        (ev_tof mB (ea_one (ev_lc (ds := as.map aD) (isEnd i lb) mB (ia_list (ev_var rfl raB)) (by rw [List.length_map]; omega) fun N H9 d z mN eN hd rd => ?_)) (.inl ?_))) (by rw [decide_eq_true rfl] <;> rfl))) fun H9 e9 => ⟨(e7.trans e8).trans e9, some y, rfl⟩
      · obtain ⟨a, _, rfl⟩ := List.mem_map.mp hd
        obtain ⟨t, xs, et, ht, rxs⟩ := rd
        obtain ⟨y1, y2, y3, exs, ry1, ry2, ry3⟩ := rxs.three_of
        subst exs et
        refine elt_of (b := decide ((a.1, a.2.1) = ((i : Int), lb))) (s2 := (((wipe (S22 (some v0) (some (.ref p)) (some vc) (some va) o4 (some vg) (some (.int cs.length)) (some (.int i)) (some y) o9 o10 o11 o12 o13 o14 o15 o16 o17 o18 o19 o20 o21) [9, 10, 11]).set 9 (some y1)).set 10 (some y2)).set 11 (some y3)) (fun Q q => ⟨t, _, rfl, SqT.of (msk_same _ _ ht), rfl, _, _, rfl, _, _, rfl, _, [], rfl, rfl, q⟩) rfl
          (et_test (M := N) (ev_eqD (dP dInt dStr) (x := (a.1, a.2.1)) (y := ((i : Int), lb)) rfl rfl (ev_tup mN (ea_cons (ev_var rfl ry1) (ea_one (ev_var rfl ry2)))) (ev_tup mN (ea_cons (ev_var (d := .int i) rfl rfl) (ea_one (ev_var rfl (ry.up eN))))))) (fun h => ⟨.int a.2.2, ?_, ev_var rfl ry3⟩) fun h => ?_
        · show (if decide ((a.1, a.2.1) = ((i : Int), lb)) = true then some (D.int a.2.2) else none) = _
          rw [if_pos h]
        · show (if decide ((a.1, a.2.1) = ((i : Int), lb)) = true then some (D.int a.2.2) else none) = _
          rw [if_neg (by rw [h]; exact Bool.false_ne_true)]
      · rw [isEnd_all] <;> rfl
    rintro H6 s' H7 e6 ⟨e7, q8, rfl⟩
    have eB := e6.trans e7
    have mB := mA.up eB
    have rgB := rgA.up (msk_mono (M := LM p tp) eB)
    have raB := raA.up (msk_mono (M := LM p tp) eB)
    dsimp only
    -- labels
    obtain ⟨xs, exs⟩ := strs_of (uniq (labsA as i))
    have ll : (labsA as i).length ≤ as.length := by
      unfold labsA
      rw [List.length_map]
      exact List.length_filter_le _ _
    refine st_seq (st_ifF (et_test (M := LM p tp) (Ev.to (ev_neD (dT dStr) (x := xs) (y := xs) rfl rfl (ev_meth (R := R_labels T) (d := .tup (xs.map .str)) mB (ev_var rfl rgB) rfl (ea_one (ev_var (d := .int i) rfl rfl)) ⟨cs, as, i, rfl, ?_, canSort_strs _, by rw [labs_sorted, exs]⟩)
      (ev_tof mB (ea_one (ev_sortset (es := (uniq (labsA as i)).map .str) mB (Ev.to (ev_lc (ds := as.map aD) (labIn i) mB (ia_list (ev_var rfl raB)) (by rw [List.length_map]; omega) fun N H9 d z mN eN hd rd => ?_) (by rw [labIn_all])) (.inl ⟨(labsA as i).map .inr, by rw [List.map_map] <;> rfl⟩) (canSort_strs _) (by rw [List.length_map]; omega) (nodup_inj (fun a b h => by injection h) (uniq_nodup _)) (fun d => ?_) ?_)) (.inl (congrArg D.lst exs)))) (by rw [decide_eq_true rfl] <;> rfl))) fun H8 e8 => ?_)
    · have := out_len as
      omega
    · obtain ⟨a, _, rfl⟩ := List.mem_map.mp hd
      obtain ⟨t, xs, et, ht, rxs⟩ := rd
      obtain ⟨y1, y2, y3, exs, ry1, ry2, ry3⟩ := rxs.three_of
      subst exs et
      refine elt_of (b := decide (a.1 = (i : Int))) (s2 := (((wipe (S22 (some v0) (some (.ref p)) (some vc) (some va) o4 (some vg) (some (.int cs.length)) (some (.int i)) q8 o9 o10 o11 o12 o13 o14 o15 o16 o17 o18 o19 o20 o21) [9, 10, 11]).set 9 (some y1)).set 10 (some y2)).set 11 (some y3)) (fun Q q => ⟨t, _, rfl, SqT.of (msk_same _ _ ht), rfl, _, _, rfl, _, _, rfl, _, [], rfl, rfl, q⟩) rfl
        (et_test (M := N) (ev_eqD dInt (x := a.1) (y := (i : Int)) rfl rfl (ev_var rfl ry1) (ev_var (d := .int i) rfl rfl))) (fun h => ⟨.str a.2.1, ?_, ev_var rfl ry2⟩) fun h => ?_
      · show (if decide (a.1 = (i : Int)) = true then some (D.str a.2.1) else none) = _
        rw [if_pos h]
      · show (if decide (a.1 = (i : Int)) = true then some (D.str a.2.1) else none) = _
        rw [if_neg (by rw [h]; exact Bool.false_ne_true)]
    · rw [List.mem_map, List.mem_map]
      exact ⟨fun ⟨x, hx, e⟩ => ⟨x, (uniq_mem _ x).mp hx, e⟩, fun ⟨x, hx, e⟩ => ⟨x, (uniq_mem _ x).mpr hx, e⟩⟩
    · intro a b ha hb e
      obtain ⟨a, _, rfl⟩ := List.mem_map.mp ha
      obtain ⟨b, _, rfl⟩ := List.mem_map.mp hb
      exact toks_str e
    have mC := mB.up e8
    have rgC := rgB.up (msk_mono (M := LM p tp) e8)
    have raC := raB.up (msk_mono (M := LM p tp) e8)
    -- reached
    obtain ⟨F, hF⟩ := reach_some as i
    refine st_ifF (et_test (M := LM p tp) (Ev.to (ev_neD (dT dInt) (x := sortI F) (y := sortI F) rfl rfl (ev_methE (R := R_reached T) (X := X_reached T) (d := .tup ((sortI F).map .int)) mC (ev_var rfl rgC) rfl (ea_one (ev_var (d := .int i) rfl rfl)) ⟨cs, as, i, F, rfl, ni, by omega, hF, rfl⟩)
      (ev_tof mC (ea_one (ev_call (R := R_lreached) mC (ea_cons (ev_var rfl raC) (ea_one (ev_var (d := .int i) rfl rfl))) ⟨as, i, cs.length, F, rfl, by omega, by omega, by omega, by omega, fun a ha => (gok.arr a ha).2.2.2, hF, rfl⟩)) (.inl rfl))) (by rw [decide_eq_true rfl] <;> rfl))) fun H9 e9 => ⟨(((e4.trans e5).trans eB).trans e8).trans e9, some (.int i), q8, rfl⟩
  rintro H3 s' H4 e3 ⟨e4, p7, p8, rfl⟩
  have eA := e3.trans e4
  exact k3 p a ns cs as v0 vc va vg o4 p7 p8 o9 o10 o11 o12 o13 o14 o15 o16 o17 o18 o19 o20 o21 H4 (l.up eA) hn gok (rg.up (msk_mono (M := LM p tp) eA)) (rc.up (msk_mono (M := LM p tp) eA)) (ra.up (msk_mono (M := LM p tp) eA))
end

end K01
namespace K01
open PySem PySem.Spec PyProof.Rows L2 Ak
/-! ### the law, statements 0 to 4 -/
open NdefX (NF envF ncx NScope CellsAt Caps startF slotAt slotAt_of nscope_by cells_of)
open LamX (CodeO TabS Tabs ExtN TabB)
theorem rng_ints (n : Nat) : D.lst (rngD 0 n) = (dL dInt).d ((List.range n).map fun (i : Nat) => (0 : Int) + i) := by
  show D.lst (rngD 0 n) = D.lst (((List.range n).map fun (i : Nat) => (0 : Int) + i).map D.int)
  rw [List.map_map] <;> rfl
section
variable {P : Program} {w : World} {K : PySem.W.Frag} {mg : Str -> Option Value} {base : Heap}
theorem law1 (T : Tx K mg) {A : Around} {outer : List Env} {s : Shared} {H : Hp} {E : XK} {tp : Addr} (TB : TabB base mg T.c_law tp) (hr : Room 11 (A.deeper (envOfC "law" (defScope s_law) s.heap.objs.size T.f_law (.ref T.c_law)))) {Q : VK} (hQ : forall H2, Q (.bl true) H2) :
    exists t, PSs (LC P w base T (.ref T.c_law) A outer s H E) (defBody s_law) t ∧ forall (a : Addr) (ns : List Int) (H1 : Hp),
      SqL K H1 a (ns.map V.int) -> ns.length ≤ 1000 -> TabS H1 tp lawQ ->
      t { nx := fun _ H' => Q .non H', rt := Q } (L2.start N22 [.ref a]) H1 := by
  obtain ⟨t2, h2, k2⟩ := law2 (P := P) (w := w) (base := base) (outer := outer) (H := H) (E := E) T TB hr hQ
  refine ⟨_, (pss_cons (ps_set (i := 1) sc_law.nd rfl (.inr rfl) (pe_lst (pa_cons (pv 0) (pa_cons pe_int pa_nil))))
      (pss_cons (ps_asg (pe_call (ok__law_graph T) (hr.mono (by decide)) rfl T.g__law_graph T.F__law_graph.kp (T.B__law_graph) .nil passL (pa_cons (pv 1) (pa_cons pe_int pa_nil))) (pg_tup rfl (pgs_cons (pg_name (i := 2) sc_law.nd rfl (.inr rfl)) (pgs_cons (pg_name (i := 3) sc_law.nd rfl (.inr rfl)) pgs_nil))))
      (pss_cons (ps_set (i := 4) sc_law.nd rfl (.inl rfl) (pe_ifExp (pt_cmpR (op_neU hr.units) (pv 3) (pe_lst pa_nil) (nomark _)) (pe_op op_addU (pv 3) (pe_lst (pa_cons (pe_ix ix_seq (pv 3) pe_int (fun _ _ => rfl)) pa_nil))) (pe_lst pa_nil)))
      (pss_cons (ps_asg (pe_tup (pa_cons (pe_make T.mk_Graph (ok_Graph_init T) (hr.mono (by decide)) rfl T.g_Graph T.B_Graph_init .nil passL (pa_cons (pv 2) (pa_cons (pe_revL (pv 4)) pa_nil))) (pa_cons (pe_callB call_lenU rfl T.n_len PySem.boot_len (by exact (pa_cons (pv 2) pa_nil))) pa_nil))) (pg_tup rfl (pgs_cons (pg_name (i := 5) sc_law.nd rfl (.inr rfl)) (pgs_cons (pg_name (i := 6) sc_law.nd rfl (.inr rfl)) pgs_nil))))
      (pss_cons (ps_if (PW.pt (pw_or (pt_cmpR (op_neU hr.units) (pe_fld (pv 5) rfl) (pe_callTy call_tuple_of rfl T.n_tuple (by decide +kernel) (by exact (pa_cons (pv 2) pa_nil))) (nomark _)) (pw_or (pt_cmpR (op_neU hr.units) (pe_fld (pv 5) rfl) (pe_callTy call_tuple_of rfl T.n_tuple (by decide +kernel) (by exact (pa_cons (pv 3) pa_nil))) (nomark _)) (pw_or (pt_cmpR (op_neU hr.units) (pe_meth0 (pv 5) T.cls_Graph T.m_Graph_nodes (ok_Graph_nodes T) (hr.mono (by decide)) T.B_Graph_nodes .nil passL) (pe_listRg rfl rfl T.n_list (prg_1 rfl T.n_range (pv 6))) (nomark _)) (pw_or1 (pt_cmpR (op_neOwn T.eq_Graph (fnr_of (ok_Graph_eq T) T.B_Graph_eq) (hr.mono (by decide)) (fun _ _ _ _ ⟨_, _, _, _, _, _, _, _, _, _, _, _, h⟩ => h)) (pv 5) (pe_make T.mk_Graph (ok_Graph_init T) (hr.mono (by decide)) rfl T.g_Graph T.B_Graph_init .nil passL (pa_cons (pe_callTy call_tuple_of rfl T.n_tuple (by decide +kernel) (by exact (pa_cons (pv 2) pa_nil))) (pa_cons (pe_callTy call_tuple_of rfl T.n_tuple (by decide +kernel) (by exact (pa_cons (pv 3) pa_nil))) pa_nil))) (nomark _))))))) (pss_one (ps_ret pe_bl)) pss_nil)
      h2))))), ?_⟩
  intro a ns H1 hs hn htab
  refine st_seq ⟨.ref a, rfl, by rw [sizeLine_eq]; simp, fun p hp => ?_⟩
  have e2 := same_new (o := HO.lst [V.ref a, V.int 0]) hp
  have l2 : Lw K p a tp lawQ ns (upd H1 p (.lst [V.ref a, V.int 0])) := ⟨⟨0, by decide, upd_same⟩, hs.same e2, htab.ext e2⟩
  generalize upd H1 p (.lst [V.ref a, V.int 0]) = H2 at l2
  show tSeq _ _ _ (S22 (some (.ref a)) (some (.ref p)) none none none none none none none none none none none none none none none none none none none none) H2
  -- the graph
  refine st_seq (EvC.imp (C2 := fun d => exists (cs : List Str) (as : List Arrow), GOk 9 cs as ∧ d = .tup [.lst (cs.map .str), .lst (as.map aD)]) (ec_call l2.mok lm_p l2.scr l2.drw hn rfl (ecs_cons lm_p (ec_pure fun H3 e3 d3 => ev_int (i := 9)) ecs_nil) ?_) ?_ H2 (SameX.refl H2) l2.drw _ fun d v H3 c e3 d3 r => ?_)
  · rintro ds ⟨d, e, rfl, rfl, rfl⟩
    exact ⟨9, rfl, by decide, by decide⟩
  · rintro d ⟨ds, ⟨d', e, rfl, rfl, rfl⟩, n', cs, as, en, g, rfl⟩
    cases en
    exact ⟨cs, as, g, rfl⟩
  obtain ⟨cs, as, gok, rfl⟩ := c
  obtain ⟨tt, xs, et, ht, rxs⟩ := r
  obtain ⟨vc, va, exs, rc, ra⟩ := rxs.two_of
  subst exs et
  refine ⟨tt, _, rfl, SqT.of (msk_same _ _ ht), rfl, _, _, rfl, _, [], rfl, rfl, ?_⟩
  have l3 := l2.upx e3 d3
  have m3 := l3.mok
  have ok := gok.okG (by decide)
  have len := gok.le
  have few := gok.few
  dsimp only
  -- twice
  refine st_seq (st_set (M := LM p tp) (P := fun y G => exists tw : List Arrow, (forall x, x ∈ tw <-> x ∈ as) ∧ tw.length ≤ as.length + 1 ∧ Rep G (.lst (tw.map aD)) y) (ev_ifE (b := !decide (as = [])) (et_test (M := LM p tp) (ev_neD (dL dA) (x := as) (y := []) rfl rfl (ev_var rfl ra) (ev_lst m3 ea_nil))) (fun h => ?_) (fun h => ?_)) fun vt H4 e4 ⟨tw, hw, lw, rt⟩ => ?_)
  · have hne : as ≠ [] := by
      intro z
      rw [z] at h
      cases h
    obtain ⟨a0, r, ea⟩ := List.exists_cons_of_ne_nil hne
    have h0 : as[((0 : Int)).toNat]? = some a0 := by rw [ea] <;> rfl
    refine Ev.imp (ev_op (ev_var rfl ra) (ev_lst m3 (ea_one (ev_op (ev_var rfl ra) (ev_int (i := 0)) (rd_ixL (at_map (f := aD) (Int.le_refl 0) h0))))) (rd_addL m3 (by rw [List.length_map, sizeLine_eq]; simp; omega))) fun y G z => ⟨as ++ [a0], fun x => ?_, by simp, by rw [List.map_append]; exact z⟩
    rw [List.mem_append, List.mem_singleton]
    exact ⟨fun z => z.elim id fun e => by rw [e, ea]; exact List.mem_cons_self, .inl⟩
  · have hne : as = [] := by
      cases as with
      | nil => rfl
      | cons x r => cases h
    exact Ev.imp (ev_lst m3 ea_nil) fun y G z => ⟨[], fun x => by rw [hne], by simp, z⟩
  have l4 := l3.up e4
  have m4 := l4.mok
  have rc4 := rc.up (msk_mono (M := LM p tp) e4)
  have ra4 := ra.up (msk_mono (M := LM p tp) e4)
  have okT : okG cs tw.reverse := ⟨ok.1, fun x hx => ok.2.1 x ((hw x).mp (List.mem_reverse.mp hx)), ok.2.2.1, by rw [List.length_reverse]; omega⟩
  dsimp only
  -- graph, many
  refine st_seq ((ev_tup (ds := [graphD T cs as, .int cs.length]) m4 (ea_cons (Ev.to (ev_make (C := T.C_Graph) (R := R_init) (X := X_init T) m4 (ea_cons (ev_var rfl rc4) (ea_one (ev_rev m4 (ev_var rfl rt)))) (okG_init okT (.inl rfl) (.inl (by rw [List.map_reverse])))) (by rw [sortA_of gok.nd gok.ord fun x => List.mem_reverse.trans (hw x)] <;> rfl)) (ea_one (Ev.to (ev_len (ea_one (ev_var rfl rc4)) rfl (fun _ e => nomatch e) fun _ e => nomatch e) (by rw [List.length_map]))))) H4 (Same.refl H4) _ fun v H5 e5 r => ?_)
  obtain ⟨t5, xs, et, ht, rxs⟩ := r
  obtain ⟨vg, vm, exs, rg, rm⟩ := rxs.two_of
  have em : vm = V.int cs.length := rm
  subst exs et em
  refine ⟨t5, _, rfl, SqT.of (msk_same _ _ ht), rfl, _, _, rfl, _, [], rfl, rfl, ?_⟩
  have l5 := l4.up e5
  have m5 := l5.mok
  have rc5 := rc4.up (msk_mono (M := LM p tp) e5)
  have ra5 := ra4.up (msk_mono (M := LM p tp) e5)
  dsimp only
  -- what the graph is
  refine st_seq (st_ifF (et_orF (et_test (M := LM p tp) (Ev.to (ev_neD (dT dStr) (x := cs) (y := cs) rfl rfl (ev_fld (ev_var rfl rg) T.cls_Graph T.na_Graph_colours rfl) (ev_tof m5 (ea_one (ev_var rfl rc5)) (.inl rfl))) (by rw [decide_eq_true rfl] <;> rfl)))
    (et_orF (et_test (M := LM p tp) (Ev.to (ev_neD (dT dA) (x := as) (y := as) rfl rfl (ev_fld (ev_var rfl rg) T.cls_Graph T.na_Graph_arrows rfl) (ev_tof m5 (ea_one (ev_var rfl ra5)) (.inl rfl))) (by rw [decide_eq_true rfl] <;> rfl)))
    (et_orF (et_test (M := LM p tp) (Ev.to (ev_neD (dL dInt) (x := (List.range cs.length).map fun (i : Nat) => (0 : Int) + i) (y := (List.range cs.length).map fun (i : Nat) => (0 : Int) + i) (rng_ints _) (rng_ints _) (ev_meth (R := R_nodes T) (d := .lst (rngD 0 cs.length)) m5 (ev_var rfl rg) rfl ea_nil ⟨cs, as, rfl, by omega, rfl⟩) (ev_lrg (n := (cs.length : Int)) m5 (ev_var (d := .int cs.length) rfl rfl) (by omega) (by omega))) (by rw [decide_eq_true rfl] <;> rfl)))
    (et_test (M := LM p tp) (Ev.to (ev_op (ev_var rfl rg) (ev_make (C := T.C_Graph) (R := R_init) (X := X_init T) m5 (ea_cons (ev_tof m5 (ea_one (ev_var rfl rc5)) (.inl rfl)) (ea_one (ev_tof m5 (ea_one (ev_var rfl ra5)) (.inl rfl)))) (okG_init ok (.inr rfl) (.inr rfl))) (rd_neOwn (k := true) m5 ⟨cs, as, cs, sortA as, rfl, by rw [sortA_of gok.nd gok.ord fun x => Iff.rfl, decide_eq_true rfl]⟩)) rfl))))) fun H6 e6 => ?_)
  exact k2 p a ns cs as _ vc va vg (some vt) none none none none none none none none none none none none none none none H6 (l5.up e6) hn gok (rg.up (msk_mono (M := LM p tp) e6)) (rc5.up (msk_mono (M := LM p tp) e6)) (ra5.up (msk_mono (M := LM p tp) e6))
end

end K01
namespace K01
open PySem PySem.Spec PyProof.Rows L2 Ak
/-! ### the head -/
def fa : List He.Fa := [.free "len", .free "isinstance", .free "all", .free "sorted", .free "tuple", .free "list", .free "int", .free "str", .free "bool", .free "set", .free "range", .free "enumerate", .free "zip", .str "SMALL" "abcdefghijklmnopqrstuvwxyz", .str "FIGURES" "0123456789", .int "MOST_NAME" 8, .glo "is_name", .glo "is_row", .glo "is_number", .glo "is_arrow", .glo "_law_number", .glo "_law_take", .glo "_law_pick", .glo "_law_graph", .glo "_law_fault", .glo "_law_reached", .glo "law", .glo "StoreError", .glo "BadGraph", .noat "BadGraph" "part", .noat "BadGraph" "number", .glo "BadName", .noat "BadName" "name", .glo "TooLarge", .noat "TooLarge" "number", .glo "Graph", .cls "Graph", .mkr "Graph", .meth "Graph" "nodes", .meth "Graph" "ends", .meth "Graph" "labels", .meth "Graph" "check", .meth "Graph" "beside", .meth "Graph" "only", .meth "Graph" "reached", .noat "Graph" "colours", .noat "Graph" "arrows", .noat "Graph" "out", .exm "BadGraph" "BadGraph" true, .exm "BadGraph" "BadName" false, .exm "BadGraph" "TooLarge" false, .exm "BadName" "BadGraph" false, .exm "BadName" "BadName" true, .exm "BadName" "TooLarge" false, .exm "TooLarge" "BadGraph" false, .exm "TooLarge" "BadName" false, .exm "TooLarge" "TooLarge" true]
def fn : List He.DefD := [
  ⟨("BadGraph", some "__init__"), "__init__", "BadGraph.__init__", defArgs s_BadGraph_init, defBody s_BadGraph_init, defScope s_BadGraph_init, [], []⟩,
  ⟨("BadName", some "__init__"), "__init__", "BadName.__init__", defArgs s_BadName_init, defBody s_BadName_init, defScope s_BadName_init, [], []⟩,
  ⟨("TooLarge", some "__init__"), "__init__", "TooLarge.__init__", defArgs s_TooLarge_init, defBody s_TooLarge_init, defScope s_TooLarge_init, [], []⟩,
  ⟨("is_name", none), "is_name", "is_name", defArgs s_is_name, defBody s_is_name, defScope s_is_name, [], []⟩,
  ⟨("is_row", none), "is_row", "is_row", defArgs s_is_row, defBody s_is_row, defScope s_is_row, [], []⟩,
  ⟨("is_number", none), "is_number", "is_number", defArgs s_is_number, defBody s_is_number, defScope s_is_number, [], []⟩,
  ⟨("is_arrow", none), "is_arrow", "is_arrow", defArgs s_is_arrow, defBody s_is_arrow, defScope s_is_arrow, [], []⟩,
  ⟨("Graph", some "__init__"), "__init__", "Graph.__init__", defArgs s_Graph_init, defBody s_Graph_init, defScope s_Graph_init, [], []⟩,
  ⟨("Graph", some "__eq__"), "__eq__", "Graph.__eq__", defArgs s_Graph_eq, defBody s_Graph_eq, defScope s_Graph_eq, [], []⟩,
  ⟨("Graph", some "nodes"), "nodes", "Graph.nodes", defArgs s_Graph_nodes, defBody s_Graph_nodes, defScope s_Graph_nodes, [], []⟩,
  ⟨("Graph", some "ends"), "ends", "Graph.ends", defArgs s_Graph_ends, defBody s_Graph_ends, defScope s_Graph_ends, [], []⟩,
  ⟨("Graph", some "labels"), "labels", "Graph.labels", defArgs s_Graph_labels, defBody s_Graph_labels, defScope s_Graph_labels, [], []⟩,
  ⟨("Graph", some "check"), "check", "Graph.check", defArgs s_Graph_check, defBody s_Graph_check, defScope s_Graph_check, [], []⟩,
  ⟨("Graph", some "beside"), "beside", "Graph.beside", defArgs s_Graph_beside, defBody s_Graph_beside, defScope s_Graph_beside, [], []⟩,
  ⟨("Graph", some "only"), "only", "Graph.only", defArgs s_Graph_only, defBody s_Graph_only, defScope s_Graph_only, [], []⟩,
  ⟨("Graph", some "reached"), "reached", "Graph.reached", defArgs s_Graph_reached, defBody s_Graph_reached, defScope s_Graph_reached, [], []⟩,
  ⟨("_law_number", none), "_law_number", "_law_number", defArgs s__law_number, defBody s__law_number, defScope s__law_number, [], []⟩,
  ⟨("_law_take", none), "_law_take", "_law_take", defArgs s__law_take, defBody s__law_take, defScope s__law_take, [], []⟩,
  ⟨("_law_pick", none), "_law_pick", "_law_pick", defArgs s__law_pick, defBody s__law_pick, defScope s__law_pick, [], []⟩,
  ⟨("_law_graph", none), "_law_graph", "_law_graph", defArgs s__law_graph, defBody s__law_graph, defScope s__law_graph, [], []⟩,
  ⟨("_law_fault", none), "_law_fault", "_law_fault", defArgs s__law_fault, defBody s__law_fault, defScope s__law_fault, [], []⟩,
  ⟨("_law_reached", none), "_law_reached", "_law_reached", defArgs s__law_reached, defBody s__law_reached, defScope s__law_reached, [], []⟩,
  ⟨("law", none), "law", "law", defArgs s_law, defBody s_law, defScope s_law, [], []⟩]
def exl (K : PySem.W.Frag) : List Bool := [
  oexB K (He.ga K "BadGraph"),
  He.eqO (PySem.W.findIn K (.ref (He.ga K "BadGraph")) "__init__") (some (some (.ref (He.ma K (He.ga K "BadGraph") "__init__")))),
  PySem.W.isFn K (.ref (He.ma K (He.ga K "BadGraph") "__init__")),
  oexB K (He.ga K "BadName"),
  He.eqO (PySem.W.findIn K (.ref (He.ga K "BadName")) "__init__") (some (some (.ref (He.ma K (He.ga K "BadName") "__init__")))),
  PySem.W.isFn K (.ref (He.ma K (He.ga K "BadName") "__init__")),
  oexB K (He.ga K "TooLarge"),
  He.eqO (PySem.W.findIn K (.ref (He.ga K "TooLarge")) "__init__") (some (some (.ref (He.ma K (He.ga K "TooLarge") "__init__")))),
  PySem.W.isFn K (.ref (He.ma K (He.ga K "TooLarge") "__init__")),
  eqcB K (He.ga K "Graph") (He.ma K (He.ga K "Graph") "__eq__"),
  iscB K (He.ga K "Graph"),
  conTB K (He.ga K "Graph") "most" (He.ma K (He.ga K "Graph") "most") [.int 1000, .int 10000],
  xfB K (He.ga K "BadGraph"),
  excB K (He.ga K "BadGraph"),
  xfB K (He.ga K "BadName"),
  excB K (He.ga K "BadName"),
  xfB K (He.ga K "TooLarge"),
  excB K (He.ga K "TooLarge"),
  decide (PySem.W.kitOne K (.ref (He.ga K "BadGraph")) (.ref (He.ga K "StoreError")) = some true),
  decide (PySem.W.kitOne K (.ref (He.ga K "BadName")) (.ref (He.ga K "StoreError")) = some true),
  decide (PySem.W.kitOne K (.ref (He.ga K "TooLarge")) (.ref (He.ga K "StoreError")) = some true)]
def exK (K : PySem.W.Frag) : Bool := (exl K).all id
theorem exAt {K : PySem.W.Frag} (h : exK K = true) (i : Nat) {b : Bool} (e : (exl K)[i]? = some b) : b = true := List.all_eq_true.mp h b (List.mem_of_getElem? e)
def tf : List He.Defn := [("law", none)]
abbrev R : PySem.W.OpenRow := PySem.W.OpenLaw.row PySem.Challenge.rw_arrowkinds_k01_graphs
abbrev hk : PySem.W.Hook := He.hookX 4 fa fn [] tf exK
def ob (s : PySem.W.SharedT) : He.AlX := He.obsX 4 fa fn [] tf exK (HandSHeadRun.getT s)
theorem ob_eq (s : PySem.W.SharedT) : ob s = hk.obs s.abs := He.obsX_eq (HandSHeadRun.getT_eq s)
def names : List PySem.Str := ["StoreError", "BadGraph", "BadName", "TooLarge", "SMALL", "FIGURES", "MOST_NAME", "is_name", "is_row", "is_number", "is_arrow", "Graph", "_law_number", "_law_take", "_law_pick", "_law_graph", "_law_fault", "_law_reached"]
theorem run (w : World) : HandSHeadRun.RunEq R (PySem.W.view R.prog [21]) hk ob 6000 names w := by
  intro os
  kernel_rfl
theorem tx_of {w : World} {K : PySem.W.Frag} {h : Heap} {mg : Str -> Option Value} (X : K.In h) (G : h.Ns mainGlobals mg) (c : He.SaysX fa fn [] tf exK w h K) : exists T : Tx K mg, T.f_law = He.ga K "law" ∧ T.c_law = He.codeOf K ("law", none) := by
  have cd := c.t.d
  obtain ⟨d0, F0⟩ := cd.def_ 0 (d := ⟨("BadGraph", some "__init__"), "__init__", "BadGraph.__init__", defArgs s_BadGraph_init, defBody s_BadGraph_init, defScope s_BadGraph_init, [], []⟩) rfl
  obtain ⟨d1, F1⟩ := cd.def_ 1 (d := ⟨("BadName", some "__init__"), "__init__", "BadName.__init__", defArgs s_BadName_init, defBody s_BadName_init, defScope s_BadName_init, [], []⟩) rfl
  obtain ⟨d2, F2⟩ := cd.def_ 2 (d := ⟨("TooLarge", some "__init__"), "__init__", "TooLarge.__init__", defArgs s_TooLarge_init, defBody s_TooLarge_init, defScope s_TooLarge_init, [], []⟩) rfl
  obtain ⟨d3, F3⟩ := cd.def_ 3 (d := ⟨("is_name", none), "is_name", "is_name", defArgs s_is_name, defBody s_is_name, defScope s_is_name, [], []⟩) rfl
  obtain ⟨d4, F4⟩ := cd.def_ 4 (d := ⟨("is_row", none), "is_row", "is_row", defArgs s_is_row, defBody s_is_row, defScope s_is_row, [], []⟩) rfl
  obtain ⟨d5, F5⟩ := cd.def_ 5 (d := ⟨("is_number", none), "is_number", "is_number", defArgs s_is_number, defBody s_is_number, defScope s_is_number, [], []⟩) rfl
  obtain ⟨d6, F6⟩ := cd.def_ 6 (d := ⟨("is_arrow", none), "is_arrow", "is_arrow", defArgs s_is_arrow, defBody s_is_arrow, defScope s_is_arrow, [], []⟩) rfl
  obtain ⟨d7, F7⟩ := cd.def_ 7 (d := ⟨("Graph", some "__init__"), "__init__", "Graph.__init__", defArgs s_Graph_init, defBody s_Graph_init, defScope s_Graph_init, [], []⟩) rfl
  obtain ⟨d8, F8⟩ := cd.def_ 8 (d := ⟨("Graph", some "__eq__"), "__eq__", "Graph.__eq__", defArgs s_Graph_eq, defBody s_Graph_eq, defScope s_Graph_eq, [], []⟩) rfl
  obtain ⟨d9, F9⟩ := cd.def_ 9 (d := ⟨("Graph", some "nodes"), "nodes", "Graph.nodes", defArgs s_Graph_nodes, defBody s_Graph_nodes, defScope s_Graph_nodes, [], []⟩) rfl
  obtain ⟨d10, F10⟩ := cd.def_ 10 (d := ⟨("Graph", some "ends"), "ends", "Graph.ends", defArgs s_Graph_ends, defBody s_Graph_ends, defScope s_Graph_ends, [], []⟩) rfl
  obtain ⟨d11, F11⟩ := cd.def_ 11 (d := ⟨("Graph", some "labels"), "labels", "Graph.labels", defArgs s_Graph_labels, defBody s_Graph_labels, defScope s_Graph_labels, [], []⟩) rfl
  obtain ⟨d12, F12⟩ := cd.def_ 12 (d := ⟨("Graph", some "check"), "check", "Graph.check", defArgs s_Graph_check, defBody s_Graph_check, defScope s_Graph_check, [], []⟩) rfl
  obtain ⟨d13, F13⟩ := cd.def_ 13 (d := ⟨("Graph", some "beside"), "beside", "Graph.beside", defArgs s_Graph_beside, defBody s_Graph_beside, defScope s_Graph_beside, [], []⟩) rfl
  obtain ⟨d14, F14⟩ := cd.def_ 14 (d := ⟨("Graph", some "only"), "only", "Graph.only", defArgs s_Graph_only, defBody s_Graph_only, defScope s_Graph_only, [], []⟩) rfl
  obtain ⟨d15, F15⟩ := cd.def_ 15 (d := ⟨("Graph", some "reached"), "reached", "Graph.reached", defArgs s_Graph_reached, defBody s_Graph_reached, defScope s_Graph_reached, [], []⟩) rfl
  obtain ⟨d16, F16⟩ := cd.def_ 16 (d := ⟨("_law_number", none), "_law_number", "_law_number", defArgs s__law_number, defBody s__law_number, defScope s__law_number, [], []⟩) rfl
  obtain ⟨d17, F17⟩ := cd.def_ 17 (d := ⟨("_law_take", none), "_law_take", "_law_take", defArgs s__law_take, defBody s__law_take, defScope s__law_take, [], []⟩) rfl
  obtain ⟨d18, F18⟩ := cd.def_ 18 (d := ⟨("_law_pick", none), "_law_pick", "_law_pick", defArgs s__law_pick, defBody s__law_pick, defScope s__law_pick, [], []⟩) rfl
  obtain ⟨d19, F19⟩ := cd.def_ 19 (d := ⟨("_law_graph", none), "_law_graph", "_law_graph", defArgs s__law_graph, defBody s__law_graph, defScope s__law_graph, [], []⟩) rfl
  obtain ⟨d20, F20⟩ := cd.def_ 20 (d := ⟨("_law_fault", none), "_law_fault", "_law_fault", defArgs s__law_fault, defBody s__law_fault, defScope s__law_fault, [], []⟩) rfl
  obtain ⟨d21, F21⟩ := cd.def_ 21 (d := ⟨("_law_reached", none), "_law_reached", "_law_reached", defArgs s__law_reached, defBody s__law_reached, defScope s__law_reached, [], []⟩) rfl
  obtain ⟨d22, F22⟩ := cd.def_ 22 (d := ⟨("law", none), "law", "law", defArgs s_law, defBody s_law, defScope s_law, [], []⟩) rfl
  obtain ⟨oc, od, dV, kV, doc, pm, an, cdv, ct, osl, efd, lk, hcd, _, _⟩ := F22.ex
  obtain ⟨cl, rfl⟩ := He.codeIn_ref hcd
  have ecl : He.codeOf K ("law", none) = cl := He.codeOf_eq lk (by rw [efd] <;> rfl)
  exact ⟨{
    n_len := He.free_ok X G (cd.fact 0 (f := .free "len") rfl),
    n_isinstance := He.free_ok X G (cd.fact 1 (f := .free "isinstance") rfl),
    n_all := He.free_ok X G (cd.fact 2 (f := .free "all") rfl),
    n_sorted := He.free_ok X G (cd.fact 3 (f := .free "sorted") rfl),
    n_tuple := He.free_ok X G (cd.fact 4 (f := .free "tuple") rfl),
    n_list := He.free_ok X G (cd.fact 5 (f := .free "list") rfl),
    n_int := He.free_ok X G (cd.fact 6 (f := .free "int") rfl),
    n_str := He.free_ok X G (cd.fact 7 (f := .free "str") rfl),
    n_bool := He.free_ok X G (cd.fact 8 (f := .free "bool") rfl),
    n_set := He.free_ok X G (cd.fact 9 (f := .free "set") rfl),
    n_range := He.free_ok X G (cd.fact 10 (f := .free "range") rfl),
    n_enumerate := He.free_ok X G (cd.fact 11 (f := .free "enumerate") rfl),
    n_zip := He.free_ok X G (cd.fact 12 (f := .free "zip") rfl),
    c_SMALL := He.str_ok X G (cd.fact 13 (f := .str "SMALL" "abcdefghijklmnopqrstuvwxyz") rfl),
    c_FIGURES := He.str_ok X G (cd.fact 14 (f := .str "FIGURES" "0123456789") rfl),
    c_MOST_NAME := He.int_ok X G (cd.fact 15 (f := .int "MOST_NAME" 8) rfl),
    f_BadGraph_init := He.fAd K ("BadGraph", some "__init__"),
    d_BadGraph_init := d0,
    F_BadGraph_init := F0,
    f_BadName_init := He.fAd K ("BadName", some "__init__"),
    d_BadName_init := d1,
    F_BadName_init := F1,
    f_TooLarge_init := He.fAd K ("TooLarge", some "__init__"),
    d_TooLarge_init := d2,
    F_TooLarge_init := F2,
    f_is_name := He.fAd K ("is_name", none),
    d_is_name := d3,
    F_is_name := F3,
    g_is_name := He.glo_ok X G (cd.fact 16 (f := .glo "is_name") rfl),
    f_is_row := He.fAd K ("is_row", none),
    d_is_row := d4,
    F_is_row := F4,
    g_is_row := He.glo_ok X G (cd.fact 17 (f := .glo "is_row") rfl),
    f_is_number := He.fAd K ("is_number", none),
    d_is_number := d5,
    F_is_number := F5,
    g_is_number := He.glo_ok X G (cd.fact 18 (f := .glo "is_number") rfl),
    f_is_arrow := He.fAd K ("is_arrow", none),
    d_is_arrow := d6,
    F_is_arrow := F6,
    g_is_arrow := He.glo_ok X G (cd.fact 19 (f := .glo "is_arrow") rfl),
    f_Graph_init := He.fAd K ("Graph", some "__init__"),
    d_Graph_init := d7,
    F_Graph_init := F7,
    f_Graph_eq := He.fAd K ("Graph", some "__eq__"),
    d_Graph_eq := d8,
    F_Graph_eq := F8,
    f_Graph_nodes := He.fAd K ("Graph", some "nodes"),
    d_Graph_nodes := d9,
    F_Graph_nodes := F9,
    f_Graph_ends := He.fAd K ("Graph", some "ends"),
    d_Graph_ends := d10,
    F_Graph_ends := F10,
    f_Graph_labels := He.fAd K ("Graph", some "labels"),
    d_Graph_labels := d11,
    F_Graph_labels := F11,
    f_Graph_check := He.fAd K ("Graph", some "check"),
    d_Graph_check := d12,
    F_Graph_check := F12,
    f_Graph_beside := He.fAd K ("Graph", some "beside"),
    d_Graph_beside := d13,
    F_Graph_beside := F13,
    f_Graph_only := He.fAd K ("Graph", some "only"),
    d_Graph_only := d14,
    F_Graph_only := F14,
    f_Graph_reached := He.fAd K ("Graph", some "reached"),
    d_Graph_reached := d15,
    F_Graph_reached := F15,
    f__law_number := He.fAd K ("_law_number", none),
    d__law_number := d16,
    F__law_number := F16,
    g__law_number := He.glo_ok X G (cd.fact 20 (f := .glo "_law_number") rfl),
    f__law_take := He.fAd K ("_law_take", none),
    d__law_take := d17,
    F__law_take := F17,
    g__law_take := He.glo_ok X G (cd.fact 21 (f := .glo "_law_take") rfl),
    f__law_pick := He.fAd K ("_law_pick", none),
    d__law_pick := d18,
    F__law_pick := F18,
    g__law_pick := He.glo_ok X G (cd.fact 22 (f := .glo "_law_pick") rfl),
    f__law_graph := He.fAd K ("_law_graph", none),
    d__law_graph := d19,
    F__law_graph := F19,
    g__law_graph := He.glo_ok X G (cd.fact 23 (f := .glo "_law_graph") rfl),
    f__law_fault := He.fAd K ("_law_fault", none),
    d__law_fault := d20,
    F__law_fault := F20,
    g__law_fault := He.glo_ok X G (cd.fact 24 (f := .glo "_law_fault") rfl),
    f__law_reached := He.fAd K ("_law_reached", none),
    d__law_reached := d21,
    F__law_reached := F21,
    g__law_reached := He.glo_ok X G (cd.fact 25 (f := .glo "_law_reached") rfl),
    f_law := He.fAd K ("law", none),
    d_law := d22,
    F_law := F22,
    g_law := He.glo_ok X G (cd.fact 26 (f := .glo "law") rfl),
    C_StoreError := (He.ga K "StoreError"),
    g_StoreError := He.glo_ok X G (cd.fact 27 (f := .glo "StoreError") rfl),
    C_BadGraph := (He.ga K "BadGraph"),
    g_BadGraph := He.glo_ok X G (cd.fact 28 (f := .glo "BadGraph") rfl),
    ox_BadGraph := oexB_ok (exAt c.more 0 (b := oexB K (He.ga K "BadGraph")) rfl),
    i_BadGraph := He.eqO_ok (exAt c.more 1 (b := He.eqO (PySem.W.findIn K (.ref (He.ga K "BadGraph")) "__init__") (some (some (.ref (He.ma K (He.ga K "BadGraph") "__init__"))))) rfl),
    t_BadGraph := typ_fn (exAt c.more 2 (b := PySem.W.isFn K (.ref (He.ma K (He.ga K "BadGraph") "__init__"))) rfl),
    na_BadGraph_part := He.noat_ok (cd.fact 29 (f := .noat "BadGraph" "part") rfl),
    na_BadGraph_number := He.noat_ok (cd.fact 30 (f := .noat "BadGraph" "number") rfl),
    C_BadName := (He.ga K "BadName"),
    g_BadName := He.glo_ok X G (cd.fact 31 (f := .glo "BadName") rfl),
    ox_BadName := oexB_ok (exAt c.more 3 (b := oexB K (He.ga K "BadName")) rfl),
    i_BadName := He.eqO_ok (exAt c.more 4 (b := He.eqO (PySem.W.findIn K (.ref (He.ga K "BadName")) "__init__") (some (some (.ref (He.ma K (He.ga K "BadName") "__init__"))))) rfl),
    t_BadName := typ_fn (exAt c.more 5 (b := PySem.W.isFn K (.ref (He.ma K (He.ga K "BadName") "__init__"))) rfl),
    na_BadName_name := He.noat_ok (cd.fact 32 (f := .noat "BadName" "name") rfl),
    C_TooLarge := (He.ga K "TooLarge"),
    g_TooLarge := He.glo_ok X G (cd.fact 33 (f := .glo "TooLarge") rfl),
    ox_TooLarge := oexB_ok (exAt c.more 6 (b := oexB K (He.ga K "TooLarge")) rfl),
    i_TooLarge := He.eqO_ok (exAt c.more 7 (b := He.eqO (PySem.W.findIn K (.ref (He.ga K "TooLarge")) "__init__") (some (some (.ref (He.ma K (He.ga K "TooLarge") "__init__"))))) rfl),
    t_TooLarge := typ_fn (exAt c.more 8 (b := PySem.W.isFn K (.ref (He.ma K (He.ga K "TooLarge") "__init__"))) rfl),
    na_TooLarge_number := He.noat_ok (cd.fact 34 (f := .noat "TooLarge" "number") rfl),
    C_Graph := (He.ga K "Graph"),
    g_Graph := He.glo_ok X G (cd.fact 35 (f := .glo "Graph") rfl),
    cls_Graph := He.cls_ok (cd.fact 36 (f := .cls "Graph") rfl),
    mk_Graph := He.mkr_ok (cd.fact 37 (f := .mkr "Graph") rfl),
    eq_Graph := eqcB_ok (exAt c.more 9 (b := eqcB K (He.ga K "Graph") (He.ma K (He.ga K "Graph") "__eq__")) rfl),
    is_Graph := iscB_ok (exAt c.more 10 (b := iscB K (He.ga K "Graph")) rfl),
    m_Graph_nodes := He.meth_ok (cd.fact 38 (f := .meth "Graph" "nodes") rfl),
    m_Graph_ends := He.meth_ok (cd.fact 39 (f := .meth "Graph" "ends") rfl),
    m_Graph_labels := He.meth_ok (cd.fact 40 (f := .meth "Graph" "labels") rfl),
    m_Graph_check := He.meth_ok (cd.fact 41 (f := .meth "Graph" "check") rfl),
    m_Graph_beside := He.meth_ok (cd.fact 42 (f := .meth "Graph" "beside") rfl),
    m_Graph_only := He.meth_ok (cd.fact 43 (f := .meth "Graph" "only") rfl),
    m_Graph_reached := He.meth_ok (cd.fact 44 (f := .meth "Graph" "reached") rfl),
    na_Graph_colours := He.noat_ok (cd.fact 45 (f := .noat "Graph" "colours") rfl),
    na_Graph_arrows := He.noat_ok (cd.fact 46 (f := .noat "Graph" "arrows") rfl),
    na_Graph_out := He.noat_ok (cd.fact 47 (f := .noat "Graph" "out") rfl),
    a_Graph_most := (He.ma K (He.ga K "Graph") "most"),
    con_Graph_most := (conTB_ok (exAt c.more 11 (b := conTB K (He.ga K "Graph") "most" (He.ma K (He.ga K "Graph") "most") [.int 1000, .int 10000]) rfl)).1,
    tup_Graph_most := (conTB_ok (exAt c.more 11 (b := conTB K (He.ga K "Graph") "most" (He.ma K (He.ga K "Graph") "most") [.int 1000, .int 10000]) rfl)).2,
    xf_BadGraph := xfB_ok (exAt c.more 12 (b := xfB K (He.ga K "BadGraph")) rfl),
    ec_BadGraph := excB_ok (exAt c.more 13 (b := excB K (He.ga K "BadGraph")) rfl),
    exm_BadGraph_BadGraph := He.exm_ok (cd.fact 48 (f := .exm "BadGraph" "BadGraph" true) rfl),
    exm_BadGraph_BadName := He.exm_ok (cd.fact 49 (f := .exm "BadGraph" "BadName" false) rfl),
    exm_BadGraph_TooLarge := He.exm_ok (cd.fact 50 (f := .exm "BadGraph" "TooLarge" false) rfl),
    xf_BadName := xfB_ok (exAt c.more 14 (b := xfB K (He.ga K "BadName")) rfl),
    ec_BadName := excB_ok (exAt c.more 15 (b := excB K (He.ga K "BadName")) rfl),
    exm_BadName_BadGraph := He.exm_ok (cd.fact 51 (f := .exm "BadName" "BadGraph" false) rfl),
    exm_BadName_BadName := He.exm_ok (cd.fact 52 (f := .exm "BadName" "BadName" true) rfl),
    exm_BadName_TooLarge := He.exm_ok (cd.fact 53 (f := .exm "BadName" "TooLarge" false) rfl),
    xf_TooLarge := xfB_ok (exAt c.more 16 (b := xfB K (He.ga K "TooLarge")) rfl),
    ec_TooLarge := excB_ok (exAt c.more 17 (b := excB K (He.ga K "TooLarge")) rfl),
    exm_TooLarge_BadGraph := He.exm_ok (cd.fact 54 (f := .exm "TooLarge" "BadGraph" false) rfl),
    exm_TooLarge_BadName := He.exm_ok (cd.fact 55 (f := .exm "TooLarge" "BadName" false) rfl),
    exm_TooLarge_TooLarge := He.exm_ok (cd.fact 56 (f := .exm "TooLarge" "TooLarge" true) rfl),
    kit_BadGraph_StoreError := of_decide_eq_true (exAt c.more 18 (b := decide (PySem.W.kitOne K (.ref (He.ga K "BadGraph")) (.ref (He.ga K "StoreError")) = some true)) rfl),
    kit_BadName_StoreError := of_decide_eq_true (exAt c.more 19 (b := decide (PySem.W.kitOne K (.ref (He.ga K "BadName")) (.ref (He.ga K "StoreError")) = some true)) rfl),
    kit_TooLarge_StoreError := of_decide_eq_true (exAt c.more 20 (b := decide (PySem.W.kitOne K (.ref (He.ga K "TooLarge")) (.ref (He.ga K "StoreError")) = some true)) rfl),
    c_law := He.codeOf K ("law", none),
    L_law := ⟨oc, od, dV, kV, doc, pm, an, ct, osl, by rw [ecl]; exact efd, lk, by rw [ecl]; exact hcd⟩ }, rfl, rfl⟩
end K01
namespace K01
open PySem PySem.Spec PyProof.Rows L2 Ak
section
variable {P : Program} {w : World} {K : PySem.W.Frag} {mg : Str -> Option Value} {base : Heap}
def SpLaw (K : PySem.W.Frag) (tp : Addr) : Sp := fun vs H Q _ => exists (a : Addr) (ns : List Int), vs = [.ref a] ∧ SqL K H a (ns.map V.int) ∧ ns.length ≤ 1000 ∧ LamX.TabS H tp lawQ ∧ forall H', Q (.bl true) H'
theorem ok_law (T : Tx K mg) {tp : Addr} (TB : LamX.TabB base mg T.c_law tp) : FnOk P w K mg base (L2.CX P w) 12 T.f_law T.d_law ["script"] (SpLaw K tp) := by
  obtain ⟨oc, od, dV, kV, doc, pm, an, ct, osl, e, lk, hcd⟩ := T.L_law
  rw [e] at lk ⊢
  refine fn_of lk hcd sc_law (fun vs H Q E h => ?_) fun A outer s H vs Q E hr h => ?_
  · obtain ⟨a, ns, rfl, _⟩ := h
    rfl
  · obtain ⟨a, ns, rfl, hs, hn, ht, q⟩ := h
    obtain ⟨t, h1, k⟩ := law1 (P := P) (w := w) (base := base) (outer := outer) (H := H) (E := E) T TB hr q
    exact ⟨t, h1, k a ns H hs hn ht⟩
end
theorem at_law {w : World} {mg : Str -> Option Value} {f : Addr} {h : Heap} (Y : hk.says w h) (G : h.Ns mainGlobals mg) (hf : mg "law" = some (.ref f)) : exists K : PySem.W.Frag, K.In h ∧ LamX.LawAtS PySem.Challenge.rw_arrowkinds_k01_graphs w K (L2.CX (PySem.Challenge.rw_arrowkinds_k01_graphs).prog w) 12 63 "script" mg f h := by
  obtain ⟨K, X, c⟩ := Y
  refine ⟨K, X, ?_⟩
  obtain ⟨T, e1, e2⟩ := tx_of X G c
  have ef : f = T.f_law := by
    have z := hf.symm.trans T.g_law
    cases z
    rfl
  subst ef
  have hp : (("law", none) : He.Defn) ∈ tf := List.mem_cons_self
  have key : forall {q : Addr × Addr -> Prop}, q (He.cT K ("law", none)) -> forall p, p ∈ [He.cT K ("law", none)] -> q p := fun {q} h p hp => by
    rw [List.mem_singleton.mp hp]
    exact h
  refine ⟨T.d_law, [He.cT K ("law", none)], SpLaw K (He.cT K ("law", none)).2, key (c.empty _ hp), key (c.out _ hp), key (PySem.W.codeHd_of_K X (c.hd _ hp)), ?_, ?_, ?_⟩
  · have b := FunD.bindsA (ps := ["script"]) T.F_law fun _ _ _ _ _ _ us hl => match us, hl with | [_], _ => rfl
    exact fun s u => b s [u] rfl
  · intro H a ns hl _ ht hs
    exact ⟨a, ns, rfl, hs, by omega, LamX.TabS.nil (ht _ List.mem_cons_self), fun _ => rfl⟩
  · intro base _ _ htb
    refine ok_law T (tp := (He.cT K ("law", none)).2) ?_
    have z := htb _ List.mem_cons_self
    have e3 : (He.cT K ("law", none)).1 = T.c_law := by rw [e2] <;> rfl
    rw [e3] at z
    exact z
end K01
open PySem PySem.W PySem.Calls PyProof.Rows
theorem PySem.Challenge.cw_arrowkinds_k01_graphs_holds : PySem.Challenge.rw_arrowkinds_k01_graphs.Holds := by
  w_on; o_law
  refine HandSHeadRun.head_any (r := OpenLaw.row PySem.Challenge.rw_arrowkinds_k01_graphs) (q := view (OpenLaw.row PySem.Challenge.rw_arrowkinds_k01_graphs).prog [21]) (H := K01.hk) (ob := K01.ob) (M := 6000) (loose := K01.names) (d := HandSHeadRun.topDef (OpenLaw.row PySem.Challenge.rw_arrowkinds_k01_graphs).prog 21) (kwd := []) K01.ob_eq
    (by kernel_rfl) (fun s => by kernel_rfl) K01.run (by kernel_rfl) (by kernel_rfl) (by kernel_rfl) (by rfl) (by first | assumption | decide +kernel) (by decide +kernel) ⟨rfl, rfl, rfl, rfl, rfl, by decide +kernel⟩ ?hw ?hc
  case hw => w_witness2
  case hc =>
    refine LamX.walk_ofTsE (l := PySem.Challenge.rw_arrowkinds_k01_graphs) (n := 63) (k := 12) (x := "script") (CX := fun w => L2.CX (PySem.Challenge.rw_arrowkinds_k01_graphs).prog w) rfl (by decide) (by kernel_rfl) ⟨rfl, by decide, by decide⟩ ?F (fun _ _ _ _ _ ⟨_, _, _, _, _, _, _, _, _, _, _, _, h⟩ => h)
    intro w mg fa h Y G hmg0
    have hmg : mg ("law" : PySem.Str) = some (.ref fa) := by
      have e : (HandSHeadRun.topDef (OpenLaw.row PySem.Challenge.rw_arrowkinds_k01_graphs).prog 21).name = ("law" : PySem.Str) := by kernel_rfl
      rw [← e]
      exact hmg0
    exact K01.at_law Y G hmg
