import PyProof.Rows.All
import Wide.All
import OpenK.AllK
import Wide.FinOn
import HandS.ForMost
import HandS.IsInst
import HandS.Flow
import HandS.Conv
import HandS.More
import PyProof.ReprReads
import HandS.TupAny
import KE.KDictKeyed
import PyProof.StrLawsRepr
import HandS.Steps
import HandS.SortInts
import HandS.Deep
import HandS.TupLe
import PyProof.ZipIter
import KE.KMinKey
import HandS.SortKw
import HandS.SetFor
import PyProof.Rows.StrInSeq3
import HandS.Style
import KE.GoesEnum
import KE.KDictZip
import HandS.Strs
import KE.KDictCopyH
import PyProof.TupleOfGen
import PyProof.TupleOfSeq
import HandS.Text
import HandS.Iter
import HandS.Exc
import HandS.ExcIs
import HandS.ExcField
import HandS.ExcOwn
import HandS.ExcValue
import HandS.RaiseMore
import KE.KIsAll
import KE.KTryMore
import HandS.ExcInit
import HandS.DictComp
import HandS.TupSets
import KE.KSortKey
import HandS.TupLen
import HandS.TryOnly
import KE.SortData
import KE.KEqNest
import PyProof.Rows.SortShellAny
import HandS.ReplaceLit
import HandS.HotCalls
import PyProof.ListNew
import PyProof.EnumMake
import PyProof.Rows.StrCase
import HandS.Wide
import HandS.Zip
import PySem.Challenge.RW_orderkeep_k44_rings_looked_at
set_option Elab.async false
set_option linter.all false
set_option maxRecDepth 100000
/-! L3: values without addresses over the hand layer -/
namespace L3
open PySem L2
/-! ### frozen data -/
/-- a tuple; one of two is always a tracked one (it can be a key) -/
def TuK (K : PySem.W.Frag) (B : Hp) (a : Addr) (xs : List V) : Prop := B a = some (.tup xs) ∨ (xs.length ≠ 2 ∧ SqT K B a xs)
theorem TuK.sq {K : PySem.W.Frag} {B : Hp} {a : Addr} {xs : List V} (h : TuK K B a xs) : SqT K B a xs := by
  rcases h with h | h
  · exact SqT.of h
  · exact h.2
/-- a tuple of which it is known that it has no dict of its own -/
def PlT (B : Hp) (a : Addr) (xs : List V) : Prop := ∃ o : Obj, B a = some (.frz o (.tup xs)) ∧ o.dict = none
/-- such a tuple as data: marked by the form of a dict, which no other data has -/
def plD (ds : List PyData) : PyData := .dict [(.none, .tuple ds)]
/-- a flat value as data -/
inductive FlR : V → PyData → Prop
  | non : FlR .non .none
  | bl (b : Bool) : FlR (.bl b) (.bool b)
  | int (i : Int) : FlR (.int i) (.int i)
  | str (x : Str) : FlR (.str x) (.str x)
/-- an exception of the class at C, its dict at d -/
def excH (a C : Addr) (d : Option Addr) : HO := .ext fun h => ∃ (oe : Obj) (vs : Array Value), h.get? a = some oe ∧ (oe.cls = .ref C ∧ oe.dict = d) ∧ oe.data = .fields vs
/-- its fields -/
def XdOk (B : Hp) (fs : List (Str × V)) : Option Addr → Prop
  | none => fs = []
  | some dx => B dx = some (.xd fs)
mutual
inductive FR (K : PySem.W.Frag) (B : Hp) : V → PyData → Prop
  | non : FR K B .non .none
  | bl (b : Bool) : FR K B (.bl b) (.bool b)
  | int (i : Int) : FR K B (.int i) (.int i)
  | str (x : Str) : FR K B (.str x) (.str x)
  | lst {a : Addr} {xs : List V} {ds : List PyData} : B a = some (.lst xs) → FRs K B xs ds → FR K B (.ref a) (.list ds)
  | tup {a : Addr} {xs : List V} {ds : List PyData} : TuK K B a xs → FRs K B xs ds → FR K B (.ref a) (.tuple ds)
  | plt {a : Addr} {xs : List V} {ds : List PyData} : PlT B a xs → FRs K B xs ds → FR K B (.ref a) (plD ds)
  | dk0 {a : Addr} : B a = some (.dK []) → FR K B (.ref a) (.dict [])
  | dk1 {a : Addr} {x : Str} {v : V} {d : PyData} : B a = some (.dK [(.inr x, v)]) → FlR v d → FR K B (.ref a) (.dict [(.str x, d)])
  | dki {a : Addr} {i : Int} {v : V} {d : PyData} : B a = some (.dK [(.inl i, v)]) → FlR v d → FR K B (.ref a) (.dict [(.int i, d)])
  | dkn {a : Addr} {kvs : List (Key × V)} : B a = some (.dK kvs) → FR K B (.ref a) (.dict [(.bool true, .none)])
  | exc {a C : Addr} {x : Str} {dx : Option Addr} {ns : List Str} {vs : List V} {ds : List PyData} : PySem.W.nsIn K mainGlobals x = some (some (.ref C)) → B a = some (excH a C dx) → XdOk B (ns.zip vs) dx → ns.length = vs.length → FRs K B vs ds → FR K B (.ref a) (.dict [(.tuple (.str x :: ns.map .str), .tuple ds)])
inductive FRs (K : PySem.W.Frag) (B : Hp) : List V → List PyData → Prop
  | nil : FRs K B [] []
  | cons {v : V} {vs : List V} {d : PyData} {ds : List PyData} : FR K B v d → FRs K B vs ds → FRs K B (v :: vs) (d :: ds)
end
/-- a dict of which nothing more is told -/
def anyD : PyData := .dict [(.bool true, .none)]
/-- an exception as data -/
def exD (x : Str) (ns : List Str) (ds : List PyData) : PyData := .dict [(.tuple (.str x :: ns.map .str), .tuple ds)]
/-- a value as a frame sees it: data that stays, an own object by its number, a list of ints that is only read -/
inductive D where
  | f (d : PyData) | own (n : Nat) | sq (s : List Int)
/-- an own object: a list of data, a list with references, a tuple with references, dicts, an instance, nothing any more -/
inductive O where
  | lst (ds : List PyData) | rfs (ds : List D) | tpr (ds : List D) | dct (kvs : List (Key × PyData)) | dctT (kvs : List (List Key × PyData))
  | dctL (od : Obj) (ks : List (Key × V)) (kvs : List (Key × PyData)) | ins (C : Addr) (fs : List (Str × D)) | dctD (kvs : List (Key × D)) | gone
section
variable {K : PySem.W.Frag} {B B' H H' : Hp}
theorem sqT_same {a : Addr} {xs : List V} (e : Same B B') (h : SqT K B a xs) : SqT K B' a xs := by
  rcases h with (h | ⟨o, h⟩) | h
  · exact .inl (.inl (e _ _ h))
  · exact .inl (.inr ⟨o, e _ _ h⟩)
  · exact .inr h
theorem TuK.same {a : Addr} {xs : List V} (e : Same B B') (h : TuK K B a xs) : TuK K B' a xs := by
  rcases h with h | h
  · exact .inl (e _ _ h)
  · exact .inr ⟨h.1, sqT_same e h.2⟩
theorem PlT.same {a : Addr} {xs : List V} (e : Same B B') (h : PlT B a xs) : PlT B' a xs := by
  obtain ⟨o, h1, h2⟩ := h
  exact ⟨o, e _ _ h1, h2⟩
theorem XdOk.same {fs : List (Str × V)} {d : Option Addr} (e : Same B B') (h : XdOk B fs d) : XdOk B' fs d := by
  cases d with
  | none => exact h
  | some dx => exact e _ _ h
theorem PlT.sq {a : Addr} {xs : List V} (h : PlT B a xs) : SqT K B a xs := by
  obtain ⟨o, h1, _⟩ := h
  exact .inl (.inr ⟨o, h1⟩)
mutual
theorem FR.same (e : Same B B') : ∀ (d : PyData) (v : V), FR K B v d → FR K B' v d
  | .none, _, h => by cases h; exact .non
  | .bool _, _, h => by cases h; exact .bl _
  | .int _, _, h => by cases h; exact .int _
  | .str _, _, h => by cases h; exact .str _
  | .list ds, _, h => by
    cases h with
    | lst h1 h2 => exact .lst (e _ _ h1) (FRs.same e ds _ h2)
  | .tuple ds, _, h => by
    cases h with
    | tup h1 h2 => exact .tup (h1.same e) (FRs.same e ds _ h2)
  | .dict [(.none, .tuple ds)], _, h => by
    cases h with
    | plt h1 h2 => exact .plt (h1.same e) (FRs.same e ds _ h2)
  | .dict [], _, h => by
    cases h with
    | dk0 h1 => exact .dk0 (e _ _ h1)
  | .dict (_ :: _ :: _), _, h => by cases h
  | .dict [(.none, .none)], _, h => by cases h
  | .dict [(.none, .bool _)], _, h => by cases h
  | .dict [(.none, .int _)], _, h => by cases h
  | .dict [(.none, .str _)], _, h => by cases h
  | .dict [(.none, .list _)], _, h => by cases h
  | .dict [(.none, .dict _)], _, h => by cases h
  | .dict [(.bool _, _)], _, h => by
    cases h with
    | dkn h1 => exact .dkn (e _ _ h1)
  | .dict [(.int _, _)], _, h => by
    cases h with
    | dki h1 h2 => exact .dki (e _ _ h1) h2
  | .dict [(.str _, _)], _, h => by
    cases h with
    | dk1 h1 h2 => exact .dk1 (e _ _ h1) h2
  | .dict [(.list _, _)], _, h => by cases h
  | .dict [(.tuple _, .tuple ds)], _, h => by
    cases h with
    | exc h0 h1 h2 h3 h4 => exact .exc h0 (e _ _ h1) (h2.same e) h3 (FRs.same e ds _ h4)
  | .dict [(.tuple _, .none)], _, h => by cases h
  | .dict [(.tuple _, .bool _)], _, h => by cases h
  | .dict [(.tuple _, .int _)], _, h => by cases h
  | .dict [(.tuple _, .str _)], _, h => by cases h
  | .dict [(.tuple _, .list _)], _, h => by cases h
  | .dict [(.tuple _, .dict _)], _, h => by cases h
  | .dict [(.dict _, _)], _, h => by cases h
theorem FRs.same (e : Same B B') : ∀ (ds : List PyData) (vs : List V), FRs K B vs ds → FRs K B' vs ds
  | [], _, h => by cases h; exact .nil
  | d :: ds, _, h => by
    cases h with
    | cons h1 h2 => exact .cons (FR.same e d _ h1) (FRs.same e ds _ h2)
end
mutual
theorem FR.dp : ∀ (d : PyData) (v : V), d.hasDict = false → FR K B v d → Dp K B v d
  | .none, _, _, h => by cases h; exact .non
  | .bool _, _, _, h => by cases h; exact .bl _
  | .int _, _, _, h => by cases h; exact .int _
  | .str _, _, _, h => by cases h; exact .str _
  | .list ds, _, n, h => by
    cases h with
    | lst h1 h2 => exact .lst (SqL.of h1) (FRs.dp ds _ (by simpa [PyData.hasDict] using n) h2)
  | .tuple ds, _, n, h => by
    cases h with
    | tup h1 h2 => exact .tup h1.sq (FRs.dp ds _ (by simpa [PyData.hasDict] using n) h2)
  | .dict _, _, n, h => by simp [PyData.hasDict] at n
theorem FRs.dp : ∀ (ds : List PyData) (vs : List V), PyData.hasDictAll ds = false → FRs K B vs ds → DpAll K B vs ds
  | [], _, _, h => by cases h; exact .nil
  | d :: ds, _, n, h => by
    have n' : d.hasDict = false ∧ PyData.hasDictAll ds = false := by simpa [PyData.hasDictAll] using n
    cases h with
    | cons h1 h2 => exact .cons (FR.dp d _ n'.1 h1) (FRs.dp ds _ n'.2 h2)
end
theorem FRs.length : ∀ {vs : List V} {ds : List PyData}, FRs K B vs ds → vs.length = ds.length
  | _, [], h => by cases h; rfl
  | _, _ :: _, h => by
    cases h with
    | cons h1 h2 => rw [List.length_cons, List.length_cons, FRs.length h2]
theorem FRs.append : ∀ {vs ws : List V} {ds es : List PyData}, FRs K B vs ds → FRs K B ws es → FRs K B (vs ++ ws) (ds ++ es)
  | _, _, [], _, h, h' => by cases h; exact h'
  | _, _, _ :: _, _, h, h' => by
    cases h with
    | cons h1 h2 => exact .cons h1 (FRs.append h2 h')
theorem FRs.one {v : V} {d : PyData} (h : FR K B v d) : FRs K B [v] [d] := .cons h .nil
theorem FRs.get : ∀ {vs : List V} {ds : List PyData} {i : Nat} {d : PyData}, FRs K B vs ds → ds[i]? = some d → ∃ v, vs[i]? = some v ∧ FR K B v d
  | _, [], _, _, h, e => by simp at e
  | _, _ :: _, 0, _, h, e => by
    cases h with
    | cons h1 h2 => simp at e; subst e; exact ⟨_, rfl, h1⟩
  | _, _ :: _, i + 1, _, h, e => by
    cases h with
    | cons h1 h2 =>
      obtain ⟨v, a, b⟩ := FRs.get (i := i) h2 (by simpa using e)
      exact ⟨v, by simpa using a, b⟩
theorem FRs.take (n : Nat) : ∀ {vs : List V} {ds : List PyData}, FRs K B vs ds → FRs K B (vs.take n) (ds.take n) := by
  induction n with
  | zero => intro vs ds _; exact .nil
  | succ n ih =>
    intro vs ds h
    cases h with
    | nil => exact .nil
    | cons h1 h2 => exact .cons h1 (ih h2)
theorem FRs.drop (n : Nat) : ∀ {vs : List V} {ds : List PyData}, FRs K B vs ds → FRs K B (vs.drop n) (ds.drop n) := by
  induction n with
  | zero => intro vs ds h; exact h
  | succ n ih =>
    intro vs ds h
    cases h with
    | nil => exact .nil
    | cons h1 h2 => exact ih h2
theorem FRs.set {v : V} {d : PyData} (h : FR K B v d) (n : Nat) : ∀ {vs : List V} {ds : List PyData}, FRs K B vs ds → FRs K B (vs.set n v) (ds.set n d) := by
  induction n with
  | zero =>
    intro vs ds hs
    cases hs with
    | nil => exact .nil
    | cons h1 h2 => exact .cons h h2
  | succ n ih =>
    intro vs ds hs
    cases hs with
    | nil => exact .nil
    | cons h1 h2 => exact .cons h1 (ih h2)
end
/-! ### the frame's view -/
def VR (K : PySem.W.Frag) (m : List Addr) (B : Hp) (v : V) : D → Prop
  | .f d => FR K B v d
  | .own n => ∃ a, v = .ref a ∧ m[n]? = some a
  | .sq s => ∃ a, v = .ref a ∧ SqL K B a (s.map V.int)
def OR (K : PySem.W.Frag) (m : List Addr) (B H : Hp) (a : Addr) : O → Prop
  | .lst ds => ∃ xs, H a = some (.lst xs) ∧ FRs K B xs ds
  | .rfs ds => ∃ xs, H a = some (.lst xs) ∧ Paired (VR K m B) xs ds
  | .tpr ds => ∃ xs, H a = some (.tup xs) ∧ Paired (VR K m B) xs ds
  | .dct kvs => ∃ ks, H a = some (.dK ks) ∧ Paired (fun (p : Key × V) (q : Key × PyData) => p.1 = q.1 ∧ FR K B p.2 q.2) ks kvs
  | .dctT kvs => ∃ ks, H a = some (.dT ks) ∧ Paired (fun (p : List Key × V) (q : List Key × PyData) => p.1 = q.1 ∧ FR K B p.2 q.2) ks kvs
  | .dctL od ks kvs => H a = some (.frz od (.dK ks)) ∧ Paired (fun (p : Key × V) (q : Key × PyData) => p.1 = q.1 ∧ FR K B p.2 q.2) ks kvs
  | .dctD kvs => ∃ ks, H a = some (.dK ks) ∧ Paired (fun (p : Key × V) (q : Key × D) => p.1 = q.1 ∧ VR K m B p.2 q.2) ks kvs
  | .ins C fs => ∃ dx gs, H a = some (.ins C dx gs) ∧ Paired (fun (p : Str × V) (q : Str × D) => p.1 = q.1 ∧ VR K m B p.2 q.2) gs fs
  | .gone => True
theorem OR.ntup {K : PySem.W.Frag} {m : List Addr} {B H : Hp} {a : Addr} {o : O} (r : OR K m B H a o) (q : o ≠ .gone ∧ ∀ ds, o ≠ .tpr ds) (ys : List V) : H a ≠ some (.tup ys) := by
  cases o with
  | lst ds => obtain ⟨xs, e, _⟩ := r; rw [e]; simp
  | rfs ds => obtain ⟨xs, e, _⟩ := r; rw [e]; simp
  | tpr ds => exact absurd rfl (q.2 ds)
  | dct ds => obtain ⟨xs, e, _⟩ := r; rw [e]; simp
  | dctT ds => obtain ⟨xs, e, _⟩ := r; rw [e]; simp
  | dctL od ks ds => obtain ⟨e, _⟩ := r; rw [e]; simp
  | ins C fs => obtain ⟨dx, gs, e, _⟩ := r; rw [e]; simp
  | dctD kvs => obtain ⟨ks, e, _⟩ := r; rw [e]; simp
  | gone => exact absurd rfl q.1
structure SR (K : PySem.W.Frag) (m : List Addr) (B H : Hp) (l : List O) : Prop where
  sub : Same B H
  len : m.length = l.length
  nd : m.Nodup
  live : ∀ a ∈ m, H a ≠ none
  obj : ∀ (n : Nat) (a : Addr) (o : O), m[n]? = some a → l[n]? = some o → OR K m B H a o ∧ ((o ≠ .gone ∧ ∀ ds, o ≠ .tpr ds) → B a = none)
structure Step (m : List Addr) (B H : Hp) (m' : List Addr) (B' H' : Hp) : Prop where
  sub : Same B B'
  pre : ∃ t, m' = m ++ t
  keep : ∀ a o, H a = some o → a ∉ m → H' a = some o
  live : ∀ a, H a ≠ none → H' a ≠ none
  sep : ∀ a, (H a ≠ none ∧ ∀ xs, H a ≠ some (.tup xs)) → B a = none → a ∉ m → B' a = none
  new : ∀ a ∈ m', a ∈ m ∨ H a = none
def ER (K : PySem.W.Frag) (m : List Addr) (B : Hp) (σ : St) (ρ : List (Option D)) : Prop :=
  σ.length = ρ.length ∧ ∀ (i : Nat) (d : D), ρ[i]? = some (some d) → ∃ v, σ[i]? = some (some v) ∧ VR K m B v d
section
variable {K : PySem.W.Frag} {m m' m2 : List Addr} {B B' B2 H H' H2 : Hp} {l : List O} {σ : St} {ρ : List (Option D)}
theorem Step.refl (B H : Hp) (m : List Addr) : Step m B H m B H :=
  ⟨Same.refl _, ⟨[], by simp⟩, fun _ _ h _ => h, fun _ h => h, fun _ _ h _ => h, fun _ h => .inl h⟩
theorem Step.trans (s : Step m B H m' B' H') (t : Step m' B' H' m2 B2 H2) : Step m B H m2 B2 H2 where
  sub := s.sub.trans t.sub
  pre := by
    obtain ⟨a, rfl⟩ := s.pre
    obtain ⟨b, rfl⟩ := t.pre
    exact ⟨a ++ b, by simp⟩
  keep := fun a o h hn => t.keep a o (s.keep a o h hn) fun hm => by
    rcases s.new a hm with z | z
    · exact hn z
    · rw [z] at h; cases h
  live := fun a h => t.live a (s.live a h)
  sep := fun a h hb hn => t.sep a ⟨s.live a h.1, fun xs e => by
      cases e0 : H a with
      | none => exact h.1 e0
      | some o =>
        have := s.keep a o e0 hn
        rw [e] at this
        cases this
        exact h.2 xs e0⟩ (s.sep a h hb hn) fun hm => by
    rcases s.new a hm with z | z
    · exact hn z
    · exact h.1 z
  new := fun a h => by
    rcases t.new a h with z | z
    · exact s.new a z
    · refine .inr ?_
      cases e : H a with
      | none => rfl
      | some o => exact absurd z (s.live a (by rw [e]; simp))
theorem get_pre {n : Nat} {a : Addr} (h : ∃ t, m' = m ++ t) (e : m[n]? = some a) : m'[n]? = some a := by
  obtain ⟨t, rfl⟩ := h
  rw [List.getElem?_append_left (List.getElem?_eq_some_iff.mp e).1]
  exact e
theorem VR.up {v : V} {d : D} (hs : Same B B') (hp : ∃ t, m' = m ++ t) (h : VR K m B v d) : VR K m' B' v d := by
  cases d with
  | f d => exact FR.same hs d v h
  | own n =>
    obtain ⟨a, e, h⟩ := h
    exact ⟨a, e, get_pre hp h⟩
  | sq q =>
    obtain ⟨a, e, h⟩ := h
    exact ⟨a, e, hs.seq h⟩
theorem VR.step {v : V} {d : D} (s : Step m B H m' B' H') (h : VR K m B v d) : VR K m' B' v d := h.up s.sub s.pre
theorem ER.step (s : Step m B H m' B' H') (h : ER K m B σ ρ) : ER K m' B' σ ρ :=
  ⟨h.1, fun i d e => let ⟨v, a, b⟩ := h.2 i d e; ⟨v, a, b.step s⟩⟩
theorem ER.set {v : V} {d : D} (i : Nat) (h : ER K m B σ ρ) (hv : VR K m B v d) : ER K m B (σ.set i (some v)) (ρ.set i (some d)) := by
  refine ⟨by simp [h.1], fun j e hj => ?_⟩
  by_cases hij : i = j
  · subst hij
    have hl : i < ρ.length := by
      have := (List.getElem?_eq_some_iff.mp hj).1
      simpa using this
    rw [List.getElem?_set_self hl] at hj
    cases hj
    exact ⟨v, by rw [List.getElem?_set_self (by rw [h.1]; exact hl)], hv⟩
  · rw [List.getElem?_set_ne hij] at hj
    obtain ⟨w, a, b⟩ := h.2 j e hj
    exact ⟨w, by rw [List.getElem?_set_ne hij]; exact a, b⟩
theorem Paired.up {α β : Type} {R R' : α → β → Prop} : ∀ {xs : List α} {ys : List β}, Paired R xs ys → (∀ x y, R x y → R' x y) → Paired R' xs ys
  | _, _, .nil, _ => .nil
  | _, _, .cons h t, f => .cons (f _ _ h) (Paired.up t f)
/-- an object keeps its content where it stands as it was -/
theorem OR.up {a : Addr} {o : O} (hs : Same B B') (hp : ∃ t, m' = m ++ t) (hH : ∀ u, H a = some u → H' a = some u) (h : OR K m B H a o) : OR K m' B' H' a o := by
  cases o with
  | lst ds => obtain ⟨xs, e, r⟩ := h; exact ⟨xs, hH _ e, FRs.same hs ds xs r⟩
  | rfs ds => obtain ⟨xs, e, r⟩ := h; exact ⟨xs, hH _ e, Paired.up r fun _ _ z => z.up hs hp⟩
  | tpr ds => obtain ⟨xs, e, r⟩ := h; exact ⟨xs, hH _ e, Paired.up r fun _ _ z => z.up hs hp⟩
  | dct kvs => obtain ⟨xs, e, r⟩ := h; exact ⟨xs, hH _ e, Paired.up r fun _ _ z => ⟨z.1, FR.same hs _ _ z.2⟩⟩
  | dctT kvs => obtain ⟨xs, e, r⟩ := h; exact ⟨xs, hH _ e, Paired.up r fun _ _ z => ⟨z.1, FR.same hs _ _ z.2⟩⟩
  | dctL od ks kvs => obtain ⟨e, r⟩ := h; exact ⟨hH _ e, Paired.up r fun _ _ z => ⟨z.1, FR.same hs _ _ z.2⟩⟩
  | ins C fs => obtain ⟨dx, gs, e, r⟩ := h; exact ⟨dx, gs, hH _ e, Paired.up r fun _ _ z => ⟨z.1, z.2.up hs hp⟩⟩
  | dctD kvs => obtain ⟨ks, e, r⟩ := h; exact ⟨ks, hH _ e, Paired.up r fun _ _ z => ⟨z.1, z.2.up hs hp⟩⟩
  | gone => trivial
theorem upd_live {a b : Addr} {o : HO} (h : H b ≠ none) : upd H a o b ≠ none := by
  by_cases e : b = a
  · subst e; rw [upd_same]; simp
  · rw [upd_ne e]; exact h
theorem same_new {p : Addr} {o : HO} (h : H p = none) : Same H (upd H p o) := fun b u e => by
  rw [upd_ne (ne_of_none e h)]; exact e
theorem SR.notin (S : SR K m B H l) {p : Addr} (h : H p = none) : p ∉ m := fun z => S.live p z h
theorem SR.bnone (S : SR K m B H l) {p : Addr} (h : H p = none) : B p = none := S.sub.free h
theorem SR.get (S : SR K m B H l) {n : Nat} {o : O} (h : l[n]? = some o) : ∃ a, m[n]? = some a ∧ OR K m B H a o ∧ ((o ≠ .gone ∧ ∀ ds, o ≠ .tpr ds) → B a = none) := by
  have hl : n < m.length := by rw [S.len]; exact (List.getElem?_eq_some_iff.mp h).1
  exact ⟨m[n], by simp [hl], S.obj n _ o (by simp [hl]) h⟩
/-- what stands at another own number is another object -/
theorem SR.ne (S : SR K m B H l) {i j : Nat} {a b : Addr} (hi : m[i]? = some a) (hj : m[j]? = some b) (h : i ≠ j) : a ≠ b := fun e => by
  subst e
  obtain ⟨h1, e1⟩ := List.getElem?_eq_some_iff.mp hi
  obtain ⟨h2, e2⟩ := List.getElem?_eq_some_iff.mp hj
  exact h ((List.getElem_inj S.nd).mp (e1.trans e2.symm))
/-- a new own object -/
theorem SR.alloc (S : SR K m B H l) {p : Addr} {u : HO} {o : O} (hp : H p = none) (ho : OR K (m ++ [p]) B (upd H p u) p o) :
    SR K (m ++ [p]) B (upd H p u) (l ++ [o]) ∧ Step m B H (m ++ [p]) B (upd H p u) ∧ VR K (m ++ [p]) B (.ref p) (.own l.length) := by
  have hn := S.notin hp
  refine ⟨⟨S.sub.trans (same_new hp), by simp [S.len], ?_, fun a ha => ?_, fun n a x h1 h2 => ?_⟩, ⟨Same.refl _, ⟨_, rfl⟩, fun a o' h _ => same_new hp a o' h, fun a h => upd_live h, fun a _ h _ => h, fun a ha => ?_⟩, ⟨p, rfl, ?_⟩⟩
  · rw [List.nodup_append]
    exact ⟨S.nd, by simp, fun a ha b hb => by
      have : b = p := by simpa using hb
      subst this
      intro e; subst e; exact hn ha⟩
  · rcases List.mem_append.mp ha with z | z
    · exact upd_live (S.live a z)
    · have : a = p := by simpa using z
      subst this; rw [upd_same]; simp
  · by_cases hlt : n < m.length
    · rw [List.getElem?_append_left hlt] at h1
      rw [List.getElem?_append_left (by rw [← S.len]; exact hlt)] at h2
      obtain ⟨r, b⟩ := S.obj n a x h1 h2
      refine ⟨r.up (Same.refl _) ⟨_, rfl⟩ fun u' e => same_new hp a u' e, b⟩
    · have hm : n = m.length := by
        have := (List.getElem?_eq_some_iff.mp h1).1
        rw [List.length_append] at this
        simp at this
        omega
      subst hm
      have e1 : a = p := by
        rw [List.getElem?_append_right (Nat.le_refl _)] at h1
        simpa using h1.symm
      have e2 : x = o := by
        rw [S.len, List.getElem?_append_right (Nat.le_refl _)] at h2
        simpa using h2.symm
      subst e1 e2
      exact ⟨ho, fun _ => S.bnone hp⟩
  · rcases List.mem_append.mp ha with z | z
    · exact .inl z
    · have : a = p := by simpa using z
      subst this; exact .inr hp
  · rw [← S.len]
    simp
/-- a new frozen object -/
theorem SR.allocF (S : SR K m B H l) {p : Addr} {u : HO} (hp : H p = none) : SR K m (upd B p u) (upd H p u) l ∧ Step m B H m (upd B p u) (upd H p u) ∧ upd B p u p = some u := by
  have hn := S.notin hp
  have hb := S.bnone hp
  refine ⟨⟨fun a o e => ?_, S.len, S.nd, fun a ha => upd_live (S.live a ha), fun n a o h1 h2 => ?_⟩, ⟨same_new hb, ⟨[], by simp⟩, fun a o h _ => same_new hp a o h, fun a h => upd_live h, fun a h1 h2 _ => ?_, fun a h => .inl h⟩, upd_same⟩
  · by_cases z : a = p
    · subst z; rw [upd_same] at e ⊢; exact e
    · rw [upd_ne z] at e ⊢; exact S.sub a o e
  · obtain ⟨r, b⟩ := S.obj n a o h1 h2
    have hne : a ≠ p := fun z => hn (z ▸ List.mem_of_getElem? h1)
    exact ⟨r.up (same_new hb) ⟨[], by simp⟩ fun u' e => same_new hp a u' e, fun q => by rw [upd_ne hne]; exact b q⟩
  · have hne : a ≠ p := fun z => h1.1 (z ▸ hp)
    rw [upd_ne hne]; exact h2
/-- an own object is written -/
theorem SR.write (S : SR K m B H l) {n : Nat} {a : Addr} {u : HO} {o : O} (hn : m[n]? = some a) (hb : B a = none) (ho : OR K m B (upd H a u) a o) :
    SR K m B (upd H a u) (l.set n o) ∧ Step m B H m B (upd H a u) := by
  have ha : a ∈ m := List.mem_of_getElem? hn
  refine ⟨⟨fun b x e => ?_, by simp [S.len], S.nd, fun b hb => upd_live (S.live b hb), fun j b x h1 h2 => ?_⟩, ⟨Same.refl _, ⟨[], by simp⟩, fun b x h hm => ?_, fun b h => upd_live h, fun _ _ h _ => h, fun _ h => .inl h⟩⟩
  · have hne : b ≠ a := fun z => by subst z; rw [hb] at e; cases e
    rw [upd_ne hne]; exact S.sub b x e
  · by_cases hj : n = j
    · subst hj
      rw [hn] at h1; cases h1
      have hl : n < l.length := by rw [← S.len]; exact (List.getElem?_eq_some_iff.mp hn).1
      rw [List.getElem?_set_self hl] at h2
      cases h2
      exact ⟨ho, fun _ => hb⟩
    · rw [List.getElem?_set_ne hj] at h2
      obtain ⟨r, q⟩ := S.obj j b x h1 h2
      have hne : b ≠ a := fun z => S.ne hn h1 hj z.symm
      exact ⟨r.up (Same.refl _) ⟨[], by simp⟩ fun u' e => by rw [upd_ne hne]; exact e, q⟩
  · have hne : b ≠ a := fun z => hm (z ▸ ha)
    rw [upd_ne hne]; exact h
end
end L3
/-! L3b: the judgements, and the rules for names, operators, arguments, statements, loops, comprehensions, calls -/
namespace L3
open PySem L2
def Post (K : PySem.W.Frag) (m : List Addr) (B H : Hp) (R : D → List O → Prop) (Q : VK) : Prop :=
  ∀ v m' B' H' d l', Step m B H m' B' H' → SR K m' B' H' l' → VR K m' B' v d → R d l' → Q v H'
def EvS (K : PySem.W.Frag) (te : TE) (ρ : List (Option D)) (l : List O) (R : D → List O → Prop) : Prop :=
  ∀ m B H σ, SR K m B H l → ER K m B σ ρ → ∀ Q : VK, Post K m B H R Q → te σ H Q
def EvT (K : PySem.W.Frag) (tt : TT) (ρ : List (Option D)) (l : List O) (R : Bool → List O → Prop) : Prop :=
  ∀ m B H σ, SR K m B H l → ER K m B σ ρ → ∀ Q : Bool → Hp → Prop, (∀ m' B' H' b l', Step m B H m' B' H' → SR K m' B' H' l' → R b l' → Q b H') → tt σ H Q
def EvA (K : PySem.W.Frag) (ta : TA) (ρ : List (Option D)) (l : List O) (R : List D → List O → Prop) : Prop :=
  ∀ m B H σ, SR K m B H l → ER K m B σ ρ → ∀ Q : List V → Hp → Prop, (∀ vs m' B' H' ds l', Step m B H m' B' H' → SR K m' B' H' l' → Paired (VR K m' B') vs ds → R ds l' → Q vs H') → ta σ H Q
def EvO (K : PySem.W.Frag) (to : TO) (ρ : List (Option D)) (l : List O) (R : Option Int → List O → Prop) : Prop :=
  ∀ m B H σ, SR K m B H l → ER K m B σ ρ → ∀ Q : Option Int → Hp → Prop, (∀ m' B' H' b l', Step m B H m' B' H' → SR K m' B' H' l' → R b l' → Q b H') → to σ H Q
def OpS (K : PySem.W.Frag) (r : R2) (x y : D) (l : List O) (R : D → List O → Prop) : Prop :=
  ∀ m B H vx vy, SR K m B H l → VR K m B vx x → VR K m B vy y → ∀ Q : VK, Post K m B H R Q → r vx vy H Q
def UnS (K : PySem.W.Frag) (r : V → Hp → VK → Prop) (x : D) (l : List O) (R : D → List O → Prop) : Prop :=
  ∀ m B H vx, SR K m B H l → VR K m B vx x → ∀ Q : VK, Post K m B H R Q → r vx H Q
def CaS (K : PySem.W.Frag) (r : List V → Hp → VK → Prop) (ds : List D) (l : List O) (R : D → List O → Prop) : Prop :=
  ∀ m B H vs, SR K m B H l → Paired (VR K m B) vs ds → ∀ Q : VK, Post K m B H R Q → r vs H Q
def MeS (K : PySem.W.Frag) (r : V → List V → Hp → VK → Prop) (x : D) (ds : List D) (l : List O) (R : D → List O → Prop) : Prop :=
  ∀ m B H vx vs, SR K m B H l → VR K m B vx x → Paired (VR K m B) vs ds → ∀ Q : VK, Post K m B H R Q → r vx vs H Q
def AsS (K : PySem.W.Frag) (g : TG) (d : D) (ρ : List (Option D)) (l : List O) (R : List (Option D) → List O → Prop) : Prop :=
  ∀ m B H σ v, SR K m B H l → ER K m B σ ρ → VR K m B v d → ∀ Q : St → Hp → Prop, (∀ σ' ρ' m' B' H' l', Step m B H m' B' H' → SR K m' B' H' l' → ER K m' B' σ' ρ' → R ρ' l' → Q σ' H') → g v σ H Q
def AssS (K : PySem.W.Frag) (g : TGs) (ds : List D) (ρ : List (Option D)) (l : List O) (R : List (Option D) → List O → Prop) : Prop :=
  ∀ m B H σ vs, SR K m B H l → ER K m B σ ρ → Paired (VR K m B) vs ds → ∀ Q : St → Hp → Prop, (∀ σ' ρ' m' B' H' l', Step m B H m' B' H' → SR K m' B' H' l' → ER K m' B' σ' ρ' → R ρ' l' → Q σ' H') → g vs σ H Q
structure E3 where
  nx : List (Option D) → List O → Prop
  rt : D → List O → Prop
  bk : List (Option D) → List O → Prop := fun _ _ => False
  ct : List (Option D) → List O → Prop := fun _ _ => False
structure Fin3 (K : PySem.W.Frag) (m : List Addr) (B H : Hp) (E : E3) (Dn : Ends) : Prop where
  nx : ∀ σ' ρ' m' B' H' l', Step m B H m' B' H' → SR K m' B' H' l' → ER K m' B' σ' ρ' → E.nx ρ' l' → Dn.nx σ' H'
  rt : ∀ v m' B' H' d l', Step m B H m' B' H' → SR K m' B' H' l' → VR K m' B' v d → E.rt d l' → Dn.rt v H'
  bk : ∀ σ' ρ' m' B' H' l', Step m B H m' B' H' → SR K m' B' H' l' → ER K m' B' σ' ρ' → E.bk ρ' l' → Dn.bk σ' H'
  ct : ∀ σ' ρ' m' B' H' l', Step m B H m' B' H' → SR K m' B' H' l' → ER K m' B' σ' ρ' → E.ct ρ' l' → Dn.ct σ' H'
def ExS (K : PySem.W.Frag) (ts : TS) (ρ : List (Option D)) (l : List O) (E : E3) : Prop :=
  ∀ m B H σ, SR K m B H l → ER K m B σ ρ → ∀ Dn : Ends, Fin3 K m B H E Dn → ts Dn σ H
section
variable {K : PySem.W.Frag} {m m' m2 : List Addr} {B B' B2 H H' H2 : Hp} {l : List O} {σ : St} {ρ : List (Option D)} {R R' : D → List O → Prop} {E E' : E3} {ta tb te tc : TE} {tt tu : TT} {t u : TS} {ty tz : TA}
theorem Post.step {Q : VK} (s : Step m B H m' B' H') (h : Post K m B H R Q) : Post K m' B' H' R Q := fun v m2 B2 H2 d l2 s2 S r q => h v m2 B2 H2 d l2 (s.trans s2) S r q
theorem Fin3.step {Dn : Ends} (s : Step m B H m' B' H') (h : Fin3 K m B H E Dn) : Fin3 K m' B' H' E Dn :=
  ⟨fun a b c d e f s2 => h.nx a b c d e f (s.trans s2), fun a b c d e f s2 => h.rt a b c d e f (s.trans s2), fun a b c d e f s2 => h.bk a b c d e f (s.trans s2), fun a b c d e f s2 => h.ct a b c d e f (s.trans s2)⟩
theorem EvS.imp (h : EvS K te ρ l R) (hR : ∀ d l, R d l → R' d l) : EvS K te ρ l R' := fun m B H σ S e Q q => h m B H σ S e Q fun v m' B' H' d l' s S' r z => q v m' B' H' d l' s S' r (hR _ _ z)
theorem EvT.imp {R R' : Bool → List O → Prop} (h : EvT K tt ρ l R) (hR : ∀ d l, R d l → R' d l) : EvT K tt ρ l R' := fun m B H σ S e Q q => h m B H σ S e Q fun m' B' H' d l' s S' z => q m' B' H' d l' s S' (hR _ _ z)
theorem ExS.imp (h : ExS K t ρ l E) (h1 : ∀ a b, E.nx a b → E'.nx a b) (h2 : ∀ a b, E.rt a b → E'.rt a b) (h3 : ∀ a b, E.bk a b → E'.bk a b) (h4 : ∀ a b, E.ct a b → E'.ct a b) : ExS K t ρ l E' :=
  fun m B H σ S e Dn F => h m B H σ S e Dn ⟨fun a b c d x f s S e z => F.nx a b c d x f s S e (h1 _ _ z), fun a b c d x f s S e z => F.rt a b c d x f s S e (h2 _ _ z), fun a b c d x f s S e z => F.bk a b c d x f s S e (h3 _ _ z), fun a b c d x f s S e z => F.ct a b c d x f s S e (h4 _ _ z)⟩
/-! ### names, constants -/
theorem e_var {i : Nat} {d : D} (h : ρ[i]? = some (some d)) (r : R d l) : EvS K (tVar i) ρ l R := fun m B H σ S e Q q => by
  obtain ⟨v, e1, hv⟩ := e.2 i d h
  exact ⟨v, e1, q v m B H d l (Step.refl _ _ _) S hv r⟩
theorem e_cst {v : V} {d : D} (h : ∀ m B, VR K m B v d) (r : R d l) : EvS K (tC v) ρ l R := fun m B H σ S e Q q => q v m B H d l (Step.refl _ _ _) S (h m B) r
theorem e_int {i : Int} (r : R (.f (.int i)) l) : EvS K (tC (.int i)) ρ l R := e_cst (d := .f (.int i)) (fun _ _ => FR.int i) r
theorem e_str {x : Str} (r : R (.f (.str x)) l) : EvS K (tC (.str x)) ρ l R := e_cst (d := .f (.str x)) (fun _ _ => FR.str x) r
theorem e_bl {b : Bool} (r : R (.f (.bool b)) l) : EvS K (tC (.bl b)) ρ l R := e_cst (d := .f (.bool b)) (fun _ _ => FR.bl b) r
theorem e_non (r : R (.f .none) l) : EvS K (tC .non) ρ l R := e_cst (d := .f .none) (fun _ _ => FR.non) r
/-! ### operators, tests -/
theorem e_op {r : R2} (h : EvS K ta ρ l fun x l1 => EvS K tb ρ l1 fun y l2 => OpS K r x y l2 R) : EvS K (tOp r ta tb) ρ l R := fun m B H σ S e Q q => by
  refine h m B H σ S e _ fun vx m1 B1 H1 x l1 s1 S1 r1 h1 => ?_
  refine h1 m1 B1 H1 σ S1 (e.step s1) _ fun vy m2 B2 H2 y l2 s2 S2 r2 h2 => ?_
  exact h2 m2 B2 H2 vx vy S2 (r1.step s2) r2 Q (q.step (s1.trans s2))
theorem e_un {r : V → Hp → VK → Prop} (h : EvS K ta ρ l fun x l1 => UnS K r x l1 R) : EvS K (tUn r ta) ρ l R := fun m B H σ S e Q q => by
  refine h m B H σ S e _ fun vx m1 B1 H1 x l1 s1 S1 r1 h1 => ?_
  exact h1 m1 B1 H1 vx S1 r1 Q (q.step s1)
theorem e_tIf (h : EvT K tt ρ l fun b l1 => if b = true then EvS K ta ρ l1 R else EvS K tb ρ l1 R) : EvS K (tIf tt ta tb) ρ l R := fun m B H σ S e Q q => by
  refine h m B H σ S e _ fun m1 B1 H1 b l1 s1 S1 h1 => ?_
  cases b with
  | true => exact h1 m1 B1 H1 σ S1 (e.step s1) Q (q.step s1)
  | false => exact h1 m1 B1 H1 σ S1 (e.step s1) Q (q.step s1)
theorem bl_of {v : V} {b : Bool} (h : VR K m B v (.f (.bool b))) : v = .bl b := by cases h; rfl
theorem int_of {v : V} {b : Int} (h : VR K m B v (.f (.int b))) : v = .int b := by cases h; rfl
theorem str_of {v : V} {b : Str} (h : VR K m B v (.f (.str b))) : v = .str b := by cases h; rfl
theorem t_test {R : Bool → List O → Prop} (h : EvS K te ρ l fun d l1 => ∃ b, d = .f (.bool b) ∧ R b l1) : EvT K (tTest te) ρ l R := fun m B H σ S e Q q => by
  refine h m B H σ S e _ fun v m1 B1 H1 d l1 s1 S1 r1 h1 => ?_
  obtain ⟨b, rfl, h1⟩ := h1
  exact ⟨b, bl_of r1, q m1 B1 H1 b l1 s1 S1 h1⟩
theorem t_B {R : Bool → List O → Prop} (h : EvS K te ρ l fun d l1 => ∃ b, d = .f (.bool b) ∧ R b l1) : EvT K (tB te) ρ l R := t_test h
theorem t_and {R : Bool → List O → Prop} (h : EvT K tt ρ l fun b l1 => if b = true then EvT K tu ρ l1 R else R false l1) : EvT K (tAnd tt tu) ρ l R := fun m B H σ S e Q q => by
  refine h m B H σ S e _ fun m1 B1 H1 b l1 s1 S1 h1 => ?_
  cases b with
  | true => exact h1 m1 B1 H1 σ S1 (e.step s1) Q fun m2 B2 H2 c l2 s2 S2 z => q m2 B2 H2 c l2 (s1.trans s2) S2 z
  | false => exact q m1 B1 H1 false l1 s1 S1 h1
theorem t_or {R : Bool → List O → Prop} (h : EvT K tt ρ l fun b l1 => if b = true then R true l1 else EvT K tu ρ l1 R) : EvT K (tOr tt tu) ρ l R := fun m B H σ S e Q q => by
  refine h m B H σ S e _ fun m1 B1 H1 b l1 s1 S1 h1 => ?_
  cases b with
  | false => exact h1 m1 B1 H1 σ S1 (e.step s1) Q fun m2 B2 H2 c l2 s2 S2 z => q m2 B2 H2 c l2 (s1.trans s2) S2 z
  | true => exact q m1 B1 H1 true l1 s1 S1 h1
theorem t_not {R : Bool → List O → Prop} (h : EvT K tt ρ l fun b l1 => R (!b) l1) : EvT K (tNot tt) ρ l R := fun m B H σ S e Q q => by
  refine h m B H σ S e _ fun m1 B1 H1 b l1 s1 S1 h1 => ?_
  exact q m1 B1 H1 _ l1 s1 S1 h1
theorem e_andV (h : EvS K ta ρ l fun d l1 => ∃ b, d = .f (.bool b) ∧ if b = true then EvS K tb ρ l1 R else R (.f (.bool false)) l1) : EvS K (tAndV ta tb) ρ l R := fun m B H σ S e Q q => by
  refine h m B H σ S e _ fun v m1 B1 H1 d l1 s1 S1 r1 h1 => ?_
  obtain ⟨b, rfl, h1⟩ := h1
  refine ⟨b, bl_of r1, ?_⟩
  cases b with
  | true => exact h1 m1 B1 H1 σ S1 (e.step s1) Q (q.step s1)
  | false => exact q _ m1 B1 H1 (.f (.bool false)) l1 s1 S1 (FR.bl false) h1
theorem e_orV (h : EvS K ta ρ l fun d l1 => ∃ b, d = .f (.bool b) ∧ if b = true then R (.f (.bool true)) l1 else EvS K tb ρ l1 R) : EvS K (tOrV ta tb) ρ l R := fun m B H σ S e Q q => by
  refine h m B H σ S e _ fun v m1 B1 H1 d l1 s1 S1 r1 h1 => ?_
  obtain ⟨b, rfl, h1⟩ := h1
  refine ⟨b, bl_of r1, ?_⟩
  cases b with
  | false => exact h1 m1 B1 H1 σ S1 (e.step s1) Q (q.step s1)
  | true => exact q _ m1 B1 H1 (.f (.bool true)) l1 s1 S1 (FR.bl true) h1
theorem e_notV (h : EvS K ta ρ l fun d l1 => ∃ b, d = .f (.bool b) ∧ R (.f (.bool (!b))) l1) : EvS K (tNotV ta) ρ l R := fun m B H σ S e Q q => by
  refine h m B H σ S e _ fun v m1 B1 H1 d l1 s1 S1 r1 h1 => ?_
  obtain ⟨b, rfl, h1⟩ := h1
  exact ⟨b, bl_of r1, q _ m1 B1 H1 (.f (.bool _)) l1 s1 S1 (FR.bl _) h1⟩
/-! ### arguments, displays -/
theorem a_nil {R : List D → List O → Prop} (r : R [] l) : EvA K tNil ρ l R := fun m B H σ S e Q q => q [] m B H [] l (Step.refl _ _ _) S .nil r
theorem a_cons {R : List D → List O → Prop} (h : EvS K te ρ l fun x l1 => EvA K ty ρ l1 fun xs l2 => R (x :: xs) l2) : EvA K (tCons te ty) ρ l R := fun m B H σ S e Q q => by
  refine h m B H σ S e _ fun vx m1 B1 H1 x l1 s1 S1 r1 h1 => ?_
  refine h1 m1 B1 H1 σ S1 (e.step s1) _ fun vs m2 B2 H2 xs l2 s2 S2 r2 h2 => ?_
  exact q (vx :: vs) m2 B2 H2 (x :: xs) l2 (s1.trans s2) S2 (.cons (r1.step s2) r2) h2
theorem frs_of : ∀ {vs : List V} {fs : List PyData}, Paired (VR K m B) vs (fs.map D.f) → FRs K B vs fs
  | _, [], h => by cases h; exact .nil
  | _, _ :: _, h => by
    cases h with
    | cons h1 h2 => exact .cons h1 (frs_of h2)
theorem of_frs : ∀ {vs : List V} {fs : List PyData}, FRs K B vs fs → Paired (VR K m B) vs (fs.map D.f)
  | _, [], h => by cases h; exact .nil
  | _, _ :: _, h => by
    cases h with
    | cons h1 h2 => exact .cons h1 (of_frs h2)
theorem pair_len {α β : Type} {R : α → β → Prop} {xs : List α} {ys : List β} (h : Paired R xs ys) : xs.length = ys.length := h.length
theorem small {n : Nat} (h : n ≤ 100000) : n ≤ sizeLine := Nat.le_trans h (by decide)
theorem small' {n : Nat} (h : n ≤ 100000) : n < sizeLine := Nat.lt_of_le_of_lt h (by decide)
def unF : List D → Option (List PyData)
  | [] => some []
  | .f d :: r => match unF r with
    | some fs => some (d :: fs)
    | none => none
  | _ :: _ => none
theorem unF_eq : ∀ {ds : List D} {fs : List PyData}, unF ds = some fs → ds = fs.map D.f
  | [], fs, h => by
    have e : [] = fs := Option.some.inj h
    subst e; rfl
  | .f d :: r, fs, h => by
    cases e : unF r with
    | none =>
      simp only [unF, e] at h
      cases h
    | some gs =>
      simp only [unF, e] at h
      have e2 : d :: gs = fs := Option.some.inj h
      subst e2
      rw [List.map_cons, ← unF_eq e]
  | .own _ :: _, _, h => by cases h
  | .sq _ :: _, _, h => by cases h
/-- a tuple of data -/
theorem e_tup (h : EvA K ty ρ l fun ds l1 => ∃ fs : List PyData, unF ds = some fs ∧ fs.length ≤ 100000 ∧ R (.f (.tuple fs)) l1) : EvS K (tTup ty) ρ l R := fun m B H σ S e Q q => by
  refine h m B H σ S e _ fun vs m1 B1 H1 ds l1 s1 S1 r1 h1 => ?_
  obtain ⟨fs, hun, hl, h1⟩ := h1
  have eds := unF_eq hun
  subst eds
  have hf := frs_of r1
  refine ⟨small (by rw [hf.length]; exact hl), fun p hp => ?_⟩
  obtain ⟨S2, s2, e2⟩ := S1.allocF (u := .tup vs) hp
  exact q _ m1 _ _ (.f (.tuple fs)) l1 (s1.trans s2) S2 (FR.tup (.inl e2) (FRs.same s2.sub fs vs hf)) h1
/-- a tuple with references -/
theorem e_tpr (h : EvA K ty ρ l fun ds l1 => ds.length ≤ 100000 ∧ R (.own l1.length) (l1 ++ [.tpr ds])) : EvS K (tTup ty) ρ l R := fun m B H σ S e Q q => by
  refine h m B H σ S e _ fun vs m1 B1 H1 ds l1 s1 S1 r1 h1 => ?_
  obtain ⟨hl, h1⟩ := h1
  refine ⟨small (by rw [pair_len r1]; exact hl), fun p hp => ?_⟩
  obtain ⟨S2, s2, r2⟩ := S1.alloc (u := .tup vs) (o := .tpr ds) hp ⟨vs, upd_same, Paired.up r1 fun _ _ z => z.up (Same.refl _) ⟨_, rfl⟩⟩
  exact q _ _ _ _ _ _ (s1.trans s2) S2 r2 h1
/-- a list: an own object -/
theorem e_lst (h : EvA K ty ρ l fun ds l1 => ∃ fs : List PyData, unF ds = some fs ∧ fs.length ≤ 100000 ∧ R (.own l1.length) (l1 ++ [.lst fs])) : EvS K (tLst ty) ρ l R := fun m B H σ S e Q q => by
  refine h m B H σ S e _ fun vs m1 B1 H1 ds l1 s1 S1 r1 h1 => ?_
  obtain ⟨fs, hun, hl, h1⟩ := h1
  have eds := unF_eq hun
  subst eds
  have hf := frs_of r1
  refine ⟨small (by rw [hf.length]; exact hl), fun p hp => ?_⟩
  obtain ⟨S2, s2, r2⟩ := S1.alloc (u := .lst vs) (o := .lst fs) hp ⟨vs, upd_same, hf⟩
  exact q _ _ _ _ _ _ (s1.trans s2) S2 r2 h1
/-- a list that stays as it is -/
theorem e_lstF (h : EvA K ty ρ l fun ds l1 => ∃ fs : List PyData, unF ds = some fs ∧ fs.length ≤ 100000 ∧ R (.f (.list fs)) l1) : EvS K (tLst ty) ρ l R := fun m B H σ S e Q q => by
  refine h m B H σ S e _ fun vs m1 B1 H1 ds l1 s1 S1 r1 h1 => ?_
  obtain ⟨fs, hun, hl, h1⟩ := h1
  have eds := unF_eq hun
  subst eds
  have hf := frs_of r1
  refine ⟨small (by rw [hf.length]; exact hl), fun p hp => ?_⟩
  obtain ⟨S2, s2, e2⟩ := S1.allocF (u := .lst vs) hp
  exact q _ m1 _ _ (.f (.list fs)) l1 (s1.trans s2) S2 (FR.lst e2 (FRs.same s2.sub fs vs hf)) h1
/-- a list with references -/
theorem e_rfs (h : EvA K ty ρ l fun ds l1 => ds.length ≤ 100000 ∧ R (.own l1.length) (l1 ++ [.rfs ds])) : EvS K (tLst ty) ρ l R := fun m B H σ S e Q q => by
  refine h m B H σ S e _ fun vs m1 B1 H1 ds l1 s1 S1 r1 h1 => ?_
  obtain ⟨hl, h1⟩ := h1
  refine ⟨small (by rw [pair_len r1]; exact hl), fun p hp => ?_⟩
  obtain ⟨S2, s2, r2⟩ := S1.alloc (u := .lst vs) (o := .rfs ds) hp ⟨vs, upd_same, Paired.up r1 fun _ _ z => z.up (Same.refl _) ⟨_, rfl⟩⟩
  exact q _ _ _ _ _ _ (s1.trans s2) S2 r2 h1
theorem e_dK (r : R (.own l.length) (l ++ [.dct []])) : EvS K tDNewK ρ l R := fun m B H σ S e Q q => fun p hp => by
  obtain ⟨S2, s2, r2⟩ := S.alloc (u := .dK []) (o := .dct []) hp ⟨[], upd_same, .nil⟩
  exact q _ _ _ _ _ _ s2 S2 r2 r
theorem e_dT (r : R (.own l.length) (l ++ [.dctT []])) : EvS K tDNewT ρ l R := fun m B H σ S e Q q => fun p hp => by
  obtain ⟨S2, s2, r2⟩ := S.alloc (u := .dT []) (o := .dctT []) hp ⟨[], upd_same, .nil⟩
  exact q _ _ _ _ _ _ s2 S2 r2 r
theorem e_cb {r : List V → Hp → VK → Prop} (h : EvA K ty ρ l fun ds l1 => CaS K r ds l1 R) : EvS K (tCB r ty) ρ l R := fun m B H σ S e Q q => by
  refine h m B H σ S e _ fun vs m1 B1 H1 ds l1 s1 S1 r1 h1 => ?_
  exact h1 m1 B1 H1 vs S1 r1 Q (q.step s1)
theorem o_none {R : Option Int → List O → Prop} (r : R none l) : EvO K tNoPart ρ l R := fun m B H σ S e Q q => q m B H none l (Step.refl _ _ _) S r
theorem o_some {R : Option Int → List O → Prop} (h : EvS K te ρ l fun d l1 => ∃ i, d = .f (.int i) ∧ R (some i) l1) : EvO K (tPart te) ρ l R := fun m B H σ S e Q q => by
  refine h m B H σ S e _ fun v m1 B1 H1 d l1 s1 S1 r1 h1 => ?_
  obtain ⟨i, rfl, h1⟩ := h1
  exact ⟨i, int_of r1, q m1 B1 H1 _ l1 s1 S1 h1⟩
/-! ### a result kept, what was made on the way forgotten -/
def D.under (k : Nat) : D → Prop
  | .own n => n < k
  | _ => True
def O.under (k : Nat) : O → Prop
  | .rfs ds => ∀ d ∈ ds, d.under k
  | .tpr ds => ∀ d ∈ ds, d.under k
  | .ins _ fs => ∀ p ∈ fs, p.2.under k
  | .dctD kvs => ∀ p ∈ kvs, p.2.under k
  | _ => True
theorem VR.cut {k : Nat} {v : V} {d : D} (h : VR K m B v d) (hb : d.under k) : VR K (m.take k) B v d := by
  cases d with
  | f d => exact h
  | own n =>
    obtain ⟨a, e, z⟩ := h
    refine ⟨a, e, ?_⟩
    rw [List.getElem?_take_of_lt hb]
    exact z
  | sq s => exact h
theorem Paired.upm {α β : Type} {R R' : α → β → Prop} : ∀ {xs : List α} {ys : List β}, Paired R xs ys → (∀ x y, y ∈ ys → R x y → R' x y) → Paired R' xs ys
  | _, _, .nil, _ => .nil
  | _, _, .cons h t, f => .cons (f _ _ List.mem_cons_self h) (Paired.upm t fun x y hy => f x y (List.mem_cons_of_mem _ hy))
theorem OR.cut {k : Nat} {a : Addr} {o : O} (h : OR K m B H a o) (hb : o.under k) : OR K (m.take k) B H a o := by
  cases o with
  | lst ds => exact h
  | rfs ds => obtain ⟨xs, e, r⟩ := h; exact ⟨xs, e, Paired.upm r fun x y hy z => z.cut (hb y hy)⟩
  | tpr ds => obtain ⟨xs, e, r⟩ := h; exact ⟨xs, e, Paired.upm r fun x y hy z => z.cut (hb y hy)⟩
  | dct kvs => exact h
  | dctT kvs => exact h
  | dctL od ks kvs => exact h
  | ins C fs => obtain ⟨dx, gs, e, r⟩ := h; exact ⟨dx, gs, e, Paired.upm r fun x y hy z => ⟨z.1, z.2.cut (hb y hy)⟩⟩
  | dctD kvs => obtain ⟨ks, e, r⟩ := h; exact ⟨ks, e, Paired.upm r fun x y hy z => ⟨z.1, z.2.cut (hb y hy)⟩⟩
  | gone => trivial
theorem SR.cut (S : SR K m B H l) (k : Nat) (hb : ∀ o ∈ l.take k, o.under k) : SR K (m.take k) B H (l.take k) := by
  refine ⟨S.sub, by simp [S.len], S.nd.sublist (List.take_sublist _ _), fun a ha => S.live a (List.mem_of_mem_take ha), fun n a o h1 h2 => ?_⟩
  have hn : n < k := by
    have := (List.getElem?_eq_some_iff.mp h1).1
    rw [List.length_take] at this
    omega
  have ho := hb o (List.mem_of_getElem? h2)
  rw [List.getElem?_take_of_lt hn] at h1 h2
  obtain ⟨r, q⟩ := S.obj n a o h1 h2
  exact ⟨r.cut ho, q⟩
theorem Step.cut (s : Step m B H m' B' H') (S : SR K m' B' H' l) {k : Nat} (hk : m.length ≤ k) : Step m B H (m'.take k) B' H' := by
  refine ⟨s.sub, ?_, s.keep, s.live, s.sep, fun a ha => s.new a (List.mem_of_mem_take ha)⟩
  obtain ⟨t, rfl⟩ := s.pre
  exact ⟨t.take (k - m.length), by rw [List.take_append, List.take_of_length_le hk]⟩
theorem e_cut (k : Nat) (hk : l.length ≤ k) (h : EvS K te ρ l fun d l1 => d.under k ∧ (∀ o ∈ l1.take k, o.under k) ∧ R d (l1.take k)) : EvS K te ρ l R := fun m B H σ S e Q q => by
  refine h m B H σ S e _ fun v m1 B1 H1 d l1 s1 S1 r1 ⟨hd, hb, h1⟩ => ?_
  exact q v _ B1 H1 d _ (s1.cut S1 (by rw [S.len]; exact hk)) (S1.cut k hb) (r1.cut hd) h1
theorem t_cut {R : Bool → List O → Prop} (k : Nat) (hk : l.length ≤ k) (h : EvT K tt ρ l fun d l1 => (∀ o ∈ l1.take k, o.under k) ∧ R d (l1.take k)) : EvT K tt ρ l R := fun m B H σ S e Q q => by
  refine h m B H σ S e _ fun m1 B1 H1 d l1 s1 S1 ⟨hb, h1⟩ => ?_
  exact q _ B1 H1 d _ (s1.cut S1 (by rw [S.len]; exact hk)) (S1.cut k hb) h1
end
end L3
/-! L3c: targets, statements, loops, comprehensions, calls of defs, the promise of a def -/
namespace L3
open PySem L2
section
variable {K : PySem.W.Frag} {m m' m2 : List Addr} {B B' B2 H H' H2 : Hp} {l : List O} {σ : St} {ρ : List (Option D)} {R R' : D → List O → Prop} {E E' : E3} {ta tb te tc : TE} {tt tu : TT} {t u : TS} {ty tz : TA} {g : TG} {gs : TGs}
/-! ### targets -/
theorem g_name {i : Nat} {d : D} {R : List (Option D) → List O → Prop} (r : R (ρ.set i (some d)) l) : AsS K (gName i) d ρ l R := fun m B H σ v S e hv Q q =>
  q _ _ m B H l (Step.refl _ _ _) S (e.set i hv) r
theorem g_nil {R : List (Option D) → List O → Prop} (r : R ρ l) : AssS K gNil [] ρ l R := fun m B H σ vs S e hv Q q => by
  cases hv
  exact ⟨rfl, q σ ρ m B H l (Step.refl _ _ _) S e r⟩
theorem g_cons {d : D} {ds : List D} {R : List (Option D) → List O → Prop} (h : AsS K g d ρ l fun ρ1 l1 => AssS K gs ds ρ1 l1 R) : AssS K (gCons g gs) (d :: ds) ρ l R := fun m B H σ vs S e hv Q q => by
  cases hv with
  | cons h1 h2 =>
    refine ⟨_, _, rfl, ?_⟩
    refine h m B H σ _ S e h1 _ fun σ1 ρ1 m1 B1 H1 l1 s1 S1 e1 z => ?_
    exact z m1 B1 H1 σ1 _ S1 e1 (Paired.up h2 fun _ _ w => w.step s1) Q fun σ2 ρ2 m2 B2 H2 l2 s2 => q σ2 ρ2 m2 B2 H2 l2 (s1.trans s2)
/-- a, b = a tuple of data -/
theorem g_tup {n : Nat} {ds : List PyData} {R : List (Option D) → List O → Prop} (hn : ds.length = n) (h : AssS K gs (ds.map D.f) ρ l R) : AsS K (gTup K n gs) (.f (.tuple ds)) ρ l R := fun m B H σ v S e hv Q q => by
  cases hv with
  | tup h1 h2 =>
    exact ⟨_, _, rfl, sqT_same S.sub h1.sq, by rw [h2.length]; exact hn, h m B H σ _ S e (of_frs h2) Q q⟩
/-- a, b = a tuple with references -/
theorem g_tpr {n k : Nat} {ds : List D} {R : List (Option D) → List O → Prop} (ho : l[k]? = some (.tpr ds)) (hn : ds.length = n) (h : AssS K gs ds ρ l R) : AsS K (gTup K n gs) (.own k) ρ l R := fun m B H σ v S e hv Q q => by
  obtain ⟨a, rfl, ha⟩ := hv
  obtain ⟨⟨xs, e1, r⟩, _⟩ := S.obj k a _ ha ho
  exact ⟨_, xs, rfl, SqT.of e1, by rw [pair_len r]; exact hn, h m B H σ _ S e r Q q⟩
/-! ### statements -/
theorem x_next (r : E.nx ρ l) : ExS K tNext ρ l E := fun m B H σ S e Dn F => F.nx σ ρ m B H l (Step.refl _ _ _) S e r
theorem x_seq (h : ExS K t ρ l ⟨fun ρ1 l1 => ExS K u ρ1 l1 E, E.rt, E.bk, E.ct⟩) : ExS K (tSeq t u) ρ l E := fun m B H σ S e Dn F =>
  h m B H σ S e { Dn with nx := u Dn } ⟨fun σ1 ρ1 m1 B1 H1 l1 s1 S1 e1 z => z m1 B1 H1 σ1 S1 e1 Dn (F.step s1), F.rt, F.bk, F.ct⟩
theorem x_asg (h : EvS K te ρ l fun d l1 => AsS K g d ρ l1 E.nx) : ExS K (tAsg te g) ρ l E := fun m B H σ S e Dn F => by
  refine h m B H σ S e _ fun v m1 B1 H1 d l1 s1 S1 r1 h1 => ?_
  exact h1 m1 B1 H1 σ v S1 (e.step s1) r1 _ fun σ2 ρ2 m2 B2 H2 l2 s2 S2 e2 z => F.nx σ2 ρ2 m2 B2 H2 l2 (s1.trans s2) S2 e2 z
theorem x_drop (h : EvS K te ρ l fun _ l1 => E.nx ρ l1) : ExS K (tDrop te) ρ l E := fun m B H σ S e Dn F => by
  refine h m B H σ S e _ fun v m1 B1 H1 d l1 s1 S1 r1 h1 => ?_
  exact F.nx σ ρ m1 B1 H1 l1 s1 S1 (e.step s1) h1
theorem x_ret (h : EvS K te ρ l E.rt) : ExS K (tRet te) ρ l E := fun m B H σ S e Dn F =>
  h m B H σ S e _ fun v m1 B1 H1 d l1 s1 S1 r1 h1 => F.rt v m1 B1 H1 d l1 s1 S1 r1 h1
theorem x_if (h : EvT K tt ρ l fun b l1 => if b = true then ExS K t ρ l1 E else ExS K u ρ l1 E) : ExS K (tIfS tt t u) ρ l E := fun m B H σ S e Dn F => by
  refine h m B H σ S e _ fun m1 B1 H1 b l1 s1 S1 h1 => ?_
  cases b with
  | true => exact h1 m1 B1 H1 σ S1 (e.step s1) Dn (F.step s1)
  | false => exact h1 m1 B1 H1 σ S1 (e.step s1) Dn (F.step s1)
theorem x_par {i j : Nat} (h : EvA K ty ρ l fun ds l1 => ∃ x y, ds = [x, y] ∧ E.nx ((ρ.set i (some x)).set j (some y)) l1) : ExS K (tPar i j ty) ρ l E := fun m B H σ S e Dn F => by
  refine h m B H σ S e _ fun vs m1 B1 H1 ds l1 s1 S1 r1 h1 => ?_
  obtain ⟨x, y, rfl, h1⟩ := h1
  cases r1 with
  | cons r1 r2 =>
    cases r2 with
    | cons r2 r3 =>
      cases r3
      exact ⟨_, _, rfl, F.nx _ _ m1 B1 H1 l1 s1 S1 (((e.step s1).set i r1).set j r2) h1⟩
/-! ### what is walked -/
def ItOk (K : PySem.W.Frag) (m : List Addr) (B : Hp) (J : It) (P : List O → Prop) (n : Nat) (it : Nat → D) : Prop :=
  ∀ i m' B' H l, Same B B' → (∃ t, m' = m ++ t) → SR K m' B' H l → P l → (i < n → J.go i H ∧ ∀ x H', J.yld i H x H' → ∃ B'', Step m' B' H m' B'' H' ∧ SR K m' B'' H' l ∧ VR K m' B'' x (it i)) ∧ (i = n → J.stop i H)
def EvI (K : PySem.W.Frag) (wi : TI) (ρ : List (Option D)) (l : List O) (R : (List O → Prop) → Nat → (Nat → D) → List O → Prop) : Prop :=
  ∀ m B H σ, SR K m B H l → ER K m B σ ρ → ∀ Rt : It → Hp → Prop, (∀ J m' B' H' l' P n it, Step m B H m' B' H' → SR K m' B' H' l' → ItOk K m' B' J P n it → R P n it l' → Rt J H') → wi σ H Rt
theorem ItOk.step {J : It} {P : List O → Prop} {n : Nat} {it : Nat → D} (h : ItOk K m B J P n it) (s : Step m B H m' B' H') : ItOk K m' B' J P n it := fun i m2 B2 H2 l2 a b => h i m2 B2 H2 l2 (s.sub.trans a) (by
  obtain ⟨t, rfl⟩ := b
  obtain ⟨u, rfl⟩ := s.pre
  exact ⟨u ++ t, by simp⟩)
/-- FOR: the word I over the turn, the slots, the store -/
theorem x_for {wi : TI} (h : EvI K wi ρ l fun P n it l1 => ∃ I : Nat → List (Option D) → List O → Prop, I 0 ρ l1 ∧ (∀ i ρ' l', i ≤ n → I i ρ' l' → P l') ∧
      (∀ i ρ' l', i < n → I i ρ' l' → AsS K g (it i) ρ' l' fun ρ2 l2 => ExS K t ρ2 l2 ⟨I (i + 1), E.rt, E.nx, I (i + 1)⟩) ∧ ∀ ρ' l', I n ρ' l' → E.nx ρ' l') : ExS K (tFor wi g t) ρ l E := fun m B H σ S e Dn F => by
  refine h m B H σ S e _ fun J m1 B1 H1 l1 P n it s1 S1 ok ⟨I, h0, hP, hs, hd⟩ => ?_
  refine ⟨fun i k σ' H' => k = n - i ∧ i ≤ n ∧ ∃ ρ' m' B' l', Step m1 B1 H1 m' B' H' ∧ SR K m' B' H' l' ∧ ER K m' B' σ' ρ' ∧ I i ρ' l', ⟨n, by simp, Nat.zero_le _, ρ, m1, B1, l1, Step.refl _ _ _, S1, e.step s1, h0⟩, ?_⟩
  rintro i k σ' H' ⟨rfl, hi, ρ', m', B', l', s2, S2, e2, z⟩
  have o2 := ok i m' B' H' l' s2.sub s2.pre S2 (hP i ρ' l' hi z)
  by_cases hlt : i < n
  · obtain ⟨go, yl⟩ := o2.1 hlt
    refine .inr ⟨go, fun σ3 H3 => ∃ ρ' m' B' l', Step m1 B1 H1 m' B' H3 ∧ SR K m' B' H3 l' ∧ ER K m' B' σ3 ρ' ∧ I (i + 1) ρ' l', fun σ3 H3 ⟨ρ3, m3, B3, l3, a, b, c, d⟩ => ⟨n - (i + 1), by omega, rfl, hlt, ρ3, m3, B3, l3, a, b, c, d⟩, fun x H3 hy => ?_⟩
    obtain ⟨B3, s3, S3, r3⟩ := yl x H3 hy
    refine hs i ρ' l' hlt z m' B3 H3 σ' x S3 (e2.step s3) r3 _ fun σ4 ρ4 m4 B4 H4 l4 s4 S4 e4 z4 => ?_
    have s14 : Step m1 B1 H1 m4 B4 H4 := (s2.trans s3).trans s4
    refine z4 m4 B4 H4 σ4 S4 e4 _ ⟨fun σ5 ρ5 m5 B5 H5 l5 s5 S5 e5 z5 => ?_, fun v m5 B5 H5 d l5 s5 S5 r5 z5 => ?_, fun σ5 ρ5 m5 B5 H5 l5 s5 S5 e5 z5 => ?_, fun σ5 ρ5 m5 B5 H5 l5 s5 S5 e5 z5 => ?_⟩
    · exact ⟨ρ5, m5, B5, l5, s14.trans s5, S5, e5, z5⟩
    · exact F.rt v m5 B5 H5 d l5 ((s1.trans s14).trans s5) S5 r5 z5
    · exact F.nx σ5 ρ5 m5 B5 H5 l5 ((s1.trans s14).trans s5) S5 e5 z5
    · exact ⟨ρ5, m5, B5, l5, s14.trans s5, S5, e5, z5⟩
  · have e0 : i = n := by omega
    subst e0
    exact .inl ⟨o2.2 rfl, F.nx σ' ρ' m' B' H' l' (s1.trans s2) S2 e2 (hd ρ' l' z)⟩
/-- WHILE: the word I, the measure μ -/
theorem x_while (I : List (Option D) → List O → Prop) (μ : List (Option D) → List O → Nat) (h0 : I ρ l)
    (hs : ∀ ρ' l', I ρ' l' → EvT K tt ρ' l' fun b l1 => if b = true then ExS K t ρ' l1 ⟨fun ρ2 l2 => I ρ2 l2 ∧ μ ρ2 l2 < μ ρ' l', E.rt, E.nx, fun ρ2 l2 => I ρ2 l2 ∧ μ ρ2 l2 < μ ρ' l'⟩ else E.nx ρ' l1) : ExS K (tWhile tt t) ρ l E := fun m B H σ S e Dn F => by
  refine ⟨fun k σ' H' => ∃ ρ' m' B' l', k = μ ρ' l' ∧ Step m B H m' B' H' ∧ SR K m' B' H' l' ∧ ER K m' B' σ' ρ' ∧ I ρ' l', ⟨_, ρ, m, B, l, rfl, Step.refl _ _ _, S, e, h0⟩, ?_⟩
  rintro k σ' H' ⟨ρ', m', B', l', rfl, s1, S1, e1, z⟩
  refine hs ρ' l' z m' B' H' σ' S1 e1 _ fun m2 B2 H2 b l2 s2 S2 z2 => ?_
  have s12 := s1.trans s2
  cases b with
  | false =>
    show Dn.nx σ' H2
    exact F.nx σ' ρ' m2 B2 H2 l2 s12 S2 (e1.step s2) z2
  | true =>
    refine ⟨fun σ3 H3 => ∃ ρ3 m3 B3 l3, Step m B H m3 B3 H3 ∧ SR K m3 B3 H3 l3 ∧ ER K m3 B3 σ3 ρ3 ∧ I ρ3 l3 ∧ μ ρ3 l3 < μ ρ' l', fun σ3 H3 ⟨ρ3, m3, B3, l3, a, b, c, d, lt⟩ => ⟨_, lt, ρ3, m3, B3, l3, rfl, a, b, c, d⟩, ?_⟩
    refine z2 m2 B2 H2 σ' S2 (e1.step s2) _ ⟨fun σ5 ρ5 m5 B5 H5 l5 s5 S5 e5 z5 => ?_, fun v m5 B5 H5 d l5 s5 S5 r5 z5 => ?_, fun σ5 ρ5 m5 B5 H5 l5 s5 S5 e5 z5 => ?_, fun σ5 ρ5 m5 B5 H5 l5 s5 S5 e5 z5 => ?_⟩
    · exact ⟨ρ5, m5, B5, l5, s12.trans s5, S5, e5, z5.1, z5.2⟩
    · exact F.rt v m5 B5 H5 d l5 (s12.trans s5) S5 r5 z5
    · exact F.nx σ5 ρ5 m5 B5 H5 l5 (s12.trans s5) S5 e5 z5
    · exact ⟨ρ5, m5, B5, l5, s12.trans s5, S5, e5, z5.1, z5.2⟩
/-! ### comprehensions -/
def wipe3 (ρ : List (Option D)) : List Nat → List (Option D)
  | [] => ρ
  | i :: vs => (wipe3 ρ vs).set i none
theorem wipe3_len (ρ : List (Option D)) : ∀ vs : List Nat, (wipe3 ρ vs).length = ρ.length
  | [] => rfl
  | i :: vs => by unfold wipe3; rw [List.length_set, wipe3_len ρ vs]
theorem ER.setn {i : Nat} (h : ER K m B σ ρ) : ER K m B (σ.set i none) (ρ.set i none) := by
  refine ⟨by simp [h.1], fun j d e => ?_⟩
  by_cases hij : i = j
  · subst hij
    have hl : i < ρ.length := by simpa using (List.getElem?_eq_some_iff.mp e).1
    rw [List.getElem?_set_self hl] at e
    cases e
  · rw [List.getElem?_set_ne hij] at e ⊢
    exact h.2 j d e
theorem ER.wipe (h : ER K m B σ ρ) : ∀ vs : List Nat, ER K m B (wipe σ vs) (wipe3 ρ vs)
  | [] => h
  | i :: vs => by unfold L2.wipe wipe3; exact (ER.wipe h vs).setn
/-- an object that no one here holds is written -/
theorem SR.off (S : SR K m B H l) {p : Addr} {u : HO} (hm : p ∉ m) (hb : B p = none) : SR K m B (upd H p u) l := by
  refine ⟨fun a o e => ?_, S.len, S.nd, fun a ha => upd_live (S.live a ha), fun n a o h1 h2 => ?_⟩
  · have ne : a ≠ p := fun z => by subst z; rw [hb] at e; cases e
    rw [upd_ne ne]; exact S.sub a o e
  · obtain ⟨r, b⟩ := S.obj n a o h1 h2
    have ne : a ≠ p := fun z => hm (z ▸ List.mem_of_getElem? h1)
    exact ⟨r.up (Same.refl _) ⟨[], by simp⟩ fun u' e => by rw [upd_ne ne]; exact e, b⟩
/-- an object that stands already becomes an own one -/
theorem SR.join (S : SR K m B H l) {p : Addr} {o : O} (hm : p ∉ m) (hb : (o ≠ .gone ∧ ∀ ds, o ≠ .tpr ds) → B p = none) (hl : H p ≠ none) (ho : OR K (m ++ [p]) B H p o) : SR K (m ++ [p]) B H (l ++ [o]) ∧ VR K (m ++ [p]) B (.ref p) (.own l.length) := by
  refine ⟨⟨S.sub, by simp [S.len], ?_, fun a ha => ?_, fun n a x h1 h2 => ?_⟩, ⟨p, rfl, by rw [← S.len]; simp⟩⟩
  · rw [List.nodup_append]
    exact ⟨S.nd, by simp, fun a ha b hb => by
      have : b = p := by simpa using hb
      subst this
      intro e; subst e; exact hm ha⟩
  · rcases List.mem_append.mp ha with z | z
    · exact S.live a z
    · have : a = p := by simpa using z
      subst this; exact hl
  · by_cases hlt : n < m.length
    · rw [List.getElem?_append_left hlt] at h1
      rw [List.getElem?_append_left (by rw [← S.len]; exact hlt)] at h2
      obtain ⟨r, b⟩ := S.obj n a x h1 h2
      exact ⟨r.up (Same.refl _) ⟨_, rfl⟩ fun u' e => e, b⟩
    · have hm' : n = m.length := by
        have := (List.getElem?_eq_some_iff.mp h1).1
        rw [List.length_append] at this
        simp at this
        omega
      subst hm'
      have e1 : a = p := by
        rw [List.getElem?_append_right (Nat.le_refl _)] at h1
        simpa using h1.symm
      have e2 : x = o := by
        rw [S.len, List.getElem?_append_right (Nat.le_refl _)] at h2
        simpa using h2.symm
      subst e1 e2
      exact ⟨ho, hb⟩
theorem Step.off (s : Step m B H m' B' H') {p : Addr} {u : HO} (hp : H p = none) : Step m B H m' B' (upd H' p u) := by
  refine ⟨s.sub, s.pre, fun a o z1 z2 => ?_, fun a z1 => upd_live (s.live a z1), s.sep, s.new⟩
  have ne : a ≠ p := fun z => by subst z; rw [hp] at z1; cases z1
  rw [upd_ne ne]; exact s.keep a o z1 z2
theorem Step.join (s : Step m B H m' B' H') {p : Addr} (hp : H p = none) : Step m B H (m' ++ [p]) B' H' := by
  obtain ⟨t, e⟩ := s.pre
  refine ⟨s.sub, ⟨t ++ [p], by rw [e, List.append_assoc]⟩, s.keep, s.live, s.sep, fun a ha => ?_⟩
  rcases List.mem_append.mp ha with z | z
  · exact s.new a z
  · have : a = p := by simpa using z
    subst this; exact .inr hp
/-- the slots that a target sets are those that the block wipes -/
def GoodG (g : TG) (vs : List Nat) : Prop := ∀ (v : V) (σ : St) (H : Hp) (Q : St → Hp → Prop), g v (wipe σ vs) H Q → g v (wipe σ vs) H fun σ' H' => wipe σ' vs = wipe σ vs ∧ Q σ' H'
/-- a list comprehension: the word I over the turn, the items so far, the store -/
theorem e_lc {wi : TI} {vs : List Nat} (hg : GoodG g vs) (h : EvI K wi ρ l fun P n it l1 => ∃ I : Nat → List PyData → List O → Prop, I 0 [] l1 ∧ (∀ i acc l', i ≤ n → I i acc l' → P l' ∧ acc.length ≤ 100000) ∧
      (∀ i acc l', i < n → I i acc l' → AsS K g (it i) (wipe3 ρ vs) l' fun ρ2 l2 => EvT K tt ρ2 l2 fun b l3 => if b = true then EvS K te ρ2 l3 fun d l4 => ∃ x, d = .f x ∧ I (i + 1) (acc ++ [x]) l4 else I (i + 1) acc l3) ∧
      ∀ acc l', I n acc l' → R (.own l'.length) (l' ++ [.lst acc])) : EvS K (tLc wi g tt te vs) ρ l R := fun m B H σ S e Q q => by
  refine h m B H σ S e _ fun J m1 B1 H1 l1 P n it s1 S1 ok ⟨I, h0, hP, hs, hd⟩ => ?_
  intro Dd hDn
  have same1 : Same H1 (upd H1 Dd (.lst [])) := same_new hDn
  have hDm1 : Dd ∉ m1 := S1.notin hDn
  have hDB1 : B1 Dd = none := S1.bnone hDn
  have S1' : SR K m1 B1 (upd H1 Dd (.lst [])) l1 := ⟨S1.sub.trans same1, S1.len, S1.nd, fun a ha => upd_live (S1.live a ha), fun k a o x1 x2 => let ⟨r, b⟩ := S1.obj k a o x1 x2; ⟨r.up (Same.refl _) ⟨[], by simp⟩ fun u z => same1 a u z, b⟩⟩
  have s1' : Step m1 B1 H1 m1 B1 (upd H1 Dd (.lst [])) := ⟨Same.refl _, ⟨[], by simp⟩, fun a o z _ => same1 a o z, fun a z => upd_live z, fun _ _ z _ => z, fun _ z => .inl z⟩
  -- how the new list fares through a step
  have fare : ∀ {ma mb : List Addr} {Ba Bb Ha Hb : Hp} {us : List V}, Step ma Ba Ha mb Bb Hb → Dd ∉ ma → Ba Dd = none → Ha Dd = some (.lst us) → Dd ∉ mb ∧ Bb Dd = none ∧ Hb Dd = some (.lst us) := by
    intro ma mb Ba Bb Ha Hb us s n1 n2 n3
    refine ⟨fun zz => ?_, s.sep _ (by rw [n3]; simp) n2 n1, s.keep _ _ n3 n1⟩
    rcases s.new _ zz with w | w
    · exact n1 w
    · rw [w] at n3
      cases n3
  refine ⟨fun i k H' => k = n - i ∧ i ≤ n ∧ ∃ m' B' l' acc xs, Step m1 B1 H1 m' B' H' ∧ SR K m' B' H' l' ∧ Dd ∉ m' ∧ B' Dd = none ∧ H' Dd = some (.lst xs) ∧ FRs K B' xs acc ∧ I i acc l',
    ⟨n, by simp, Nat.zero_le _, m1, B1, l1, [], [], s1', S1', hDm1, hDB1, upd_same, .nil, h0⟩, ?_⟩
  rintro i k H' ⟨rfl, hi, m', B', l', acc, xs, s2, S2, hDm, hDB, hD, hx, z⟩
  obtain ⟨pz, lz⟩ := hP i acc l' hi z
  have o2 := ok i m' B' H' l' s2.sub s2.pre S2 pz
  by_cases hlt : i < n
  · obtain ⟨go, yl⟩ := o2.1 hlt
    refine .inr ⟨go, fun H3 => ∃ m' B' l' acc xs, Step m1 B1 H1 m' B' H3 ∧ SR K m' B' H3 l' ∧ Dd ∉ m' ∧ B' Dd = none ∧ H3 Dd = some (.lst xs) ∧ FRs K B' xs acc ∧ I (i + 1) acc l',
      fun H3 ⟨m3, B3, l3, acc3, xs3, a1, a2, a3, a4, a5, a6, a7⟩ => ⟨n - (i + 1), by omega, rfl, hlt, m3, B3, l3, acc3, xs3, a1, a2, a3, a4, a5, a6, a7⟩, fun x H3 hy => ?_⟩
    obtain ⟨B3, s3, S3, r3⟩ := yl x H3 hy
    obtain ⟨f1, f2, f3⟩ := fare s3 hDm hDB hD
    refine hg x σ H3 _ (hs i acc l' hlt z m' B3 H3 (wipe σ vs) x S3 ((((e.step s1).step s2).step s3).wipe vs) r3 _ fun σ4 ρ4 m4 B4 H4 l4 s4 S4 e4 z4 => ?_)
    obtain ⟨g1, g2, g3⟩ := fare s4 f1 f2 f3
    refine z4 m4 B4 H4 σ4 S4 e4 _ fun m5 B5 H5 b l5 s5 S5 z5 => ?_
    obtain ⟨h1, h2, h3⟩ := fare s5 g1 g2 g3
    have s25 := ((s2.trans s3).trans s4).trans s5
    have hx5 : FRs K B5 xs acc := FRs.same ((s3.trans s4).trans s5).sub acc xs hx
    cases b with
    | false => exact ⟨m5, B5, l5, acc, xs, s25, S5, h1, h2, h3, hx5, z5⟩
    | true =>
      refine z5 m5 B5 H5 σ4 S5 (e4.step s5) _ fun y m6 B6 H6 d l6 s6 S6 r6 ⟨x6, e6, z6⟩ => ?_
      subst e6
      obtain ⟨k1, k2, k3⟩ := fare s6 h1 h2 h3
      have hx6 : FRs K B6 (xs ++ [y]) (acc ++ [x6]) := (FRs.same s6.sub acc xs hx5).append (FRs.one r6)
      have hl := hx5.length
      exact ⟨xs, k3, small' (by rw [hl]; exact lz), m6, B6, l6, acc ++ [x6], xs ++ [y], (s25.trans s6).off hDn, S6.off k1 k2, k1, k2, upd_same, hx6, z6⟩
  · have e0 : i = n := by omega
    subst e0
    have hR := hd acc l' z
    refine .inl ⟨o2.2 rfl, ?_⟩
    obtain ⟨Sj, rj⟩ := S2.join (o := .lst acc) hDm (fun _ => hDB) (by rw [hD]; simp) ⟨xs, hD, hx⟩
    exact q _ _ _ _ _ _ (s1.trans (s2.join hDn)) Sj rj hR
theorem wipe_set {i : Nat} {x : Option V} : ∀ {vs : List Nat} {σ : St}, i ∈ vs → wipe (σ.set i x) vs = wipe σ vs
  | [], _, h => by cases h
  | j :: vs, σ, h => by
    unfold L2.wipe
    by_cases hij : i = j
    · subst hij
      by_cases hi : i ∈ vs
      · rw [wipe_set hi]
      · have c : ∀ (vs : List Nat) (σ : St), (wipe (σ.set i x) vs).set i none = (wipe σ vs).set i none := by
          intro vs
          induction vs with
          | nil => intro σ; show (σ.set i x).set i none = σ.set i none; rw [List.set_set]
          | cons k vs ih =>
            intro σ
            unfold L2.wipe
            by_cases hk : k = i
            · subst hk; rw [List.set_set, List.set_set]; exact ih σ
            · rw [List.set_comm _ _ hk, ih σ, List.set_comm _ _ hk]
        exact c vs σ
    · have hi : i ∈ vs := by
        rcases List.mem_cons.mp h with z | z
        · exact absurd z hij
        · exact z
      rw [wipe_set hi]
theorem wipe_wipe (σ : St) : ∀ vs : List Nat, wipe (wipe σ vs) vs = wipe σ vs := by
  have gen : ∀ (us vs : List Nat) (σ : St), (∀ i ∈ us, i ∈ vs) → wipe (wipe σ us) vs = wipe σ vs := by
    intro us
    induction us with
    | nil => intro vs σ _; rfl
    | cons i us ih =>
      intro vs σ h
      show wipe ((wipe σ us).set i none) vs = wipe σ vs
      rw [wipe_set (h i List.mem_cons_self)]
      exact ih vs σ fun j hj => h j (List.mem_cons_of_mem _ hj)
  exact fun vs => gen vs vs σ fun _ h => h
/-- targets within the block's own slots -/
def GG (g : TG) (vs : List Nat) : Prop := ∀ (v : V) (σ : St) (H : Hp) (Q : St → Hp → Prop), g v σ H Q → g v σ H fun σ' H' => wipe σ' vs = wipe σ vs ∧ Q σ' H'
def GGs (g : TGs) (vs : List Nat) : Prop := ∀ (v : List V) (σ : St) (H : Hp) (Q : St → Hp → Prop), g v σ H Q → g v σ H fun σ' H' => wipe σ' vs = wipe σ vs ∧ Q σ' H'
theorem gg_name {i : Nat} {vs : List Nat} (h : i ∈ vs) : GG (gName i) vs := fun v σ H Q q => ⟨wipe_set h, q⟩
theorem gg_nil {vs : List Nat} : GGs gNil vs := fun v σ H Q q => ⟨q.1, rfl, q.2⟩
theorem gg_cons {vs : List Nat} (h1 : GG g vs) (h2 : GGs gs vs) (mono : ∀ v σ H (Q Q' : St → Hp → Prop), (∀ a b, Q a b → Q' a b) → g v σ H Q → g v σ H Q') : GGs (gCons g gs) vs := fun v σ H Q q => by
  obtain ⟨x, r, rfl, q⟩ := q
  refine ⟨x, r, rfl, mono _ _ _ _ _ (fun a b ⟨e, z⟩ => ?_) (h1 x σ H _ q)⟩
  have w := h2 r a b Q z
  rw [e] at w
  exact w
theorem gg_tup {n : Nat} {vs : List Nat} (h : GGs gs vs) : GG (gTup K n gs) vs := fun v σ H Q q => by
  obtain ⟨a, xs, e1, e2, e3, q⟩ := q
  exact ⟨a, xs, e1, e2, e3, h xs σ H Q q⟩
theorem mono_name {i : Nat} : ∀ v σ H (Q Q' : St → Hp → Prop), (∀ a b, Q a b → Q' a b) → gName i v σ H Q → gName i v σ H Q' := fun _ _ _ _ _ h q => h _ _ q
theorem good_of {vs : List Nat} (h : GG g vs) : GoodG g vs := fun v σ H Q q => by
  have w := h v (wipe σ vs) H Q q
  rw [wipe_wipe] at w
  exact w
end
end L3
/-! L3d: calls of defs, the promise of a def -/
namespace L3
open PySem L2
def NoRef : List D → Prop
  | [] => True
  | .own _ :: _ => False
  | _ :: r => NoRef r
def D.shift (k : Nat) : D → D
  | .own n => .own (k + n)
  | d => d
def O.shift (k : Nat) : O → O
  | .rfs ds => .rfs (ds.map (D.shift k))
  | .tpr ds => .tpr (ds.map (D.shift k))
  | .ins C fs => .ins C (fs.map fun p => (p.1, p.2.shift k))
  | .dctD kvs => .dctD (kvs.map fun p => (p.1, p.2.shift k))
  | o => o
/-- the callee's own 0 is our own i, its further ones stand behind ours -/
def D.shift1 (i k : Nat) : D → D
  | .own 0 => .own i
  | .own (n + 1) => .own (k + n)
  | d => d
def O.shift1 (i k : Nat) : O → O
  | .rfs ds => .rfs (ds.map (D.shift1 i k))
  | .tpr ds => .tpr (ds.map (D.shift1 i k))
  | .ins C fs => .ins C (fs.map fun p => (p.1, p.2.shift1 i k))
  | .dctD kvs => .dctD (kvs.map fun p => (p.1, p.2.shift1 i k))
  | o => o
def O.free : O → Prop
  | .rfs ds => NoRef ds
  | .tpr ds => NoRef ds
  | .ins _ fs => NoRef (fs.map (·.2))
  | .dctD kvs => NoRef (kvs.map (·.2))
  | _ => True
abbrev Spec3 := List D → List O → (D → List O → Prop) → Prop
/-- a def's promise -/
def P3 (K : PySem.W.Frag) (S : Spec3) : Sp := fun vs H Q _ => ∃ m B g ds R, SR K m B H g ∧ Paired (VR K m B) vs ds ∧ S ds g R ∧ Post K m B H R Q
def st0 (N : List Str) (ds : List D) : List (Option D) := ds.map some ++ List.replicate (N.length - ds.length) none
section
variable {K : PySem.W.Frag} {m m' m2 : List Addr} {B B' B2 H H' H2 : Hp} {l : List O} {σ : St} {ρ : List (Option D)} {R R' : D → List O → Prop} {E E' : E3} {ta tb te tc : TE} {tt tu : TT} {t u : TS} {ty tz : TA} {g : TG} {gs : TGs}
theorem paired_map {α β γ : Type} {R : α → β → Prop} {R' : α → γ → Prop} {f : β → γ} : ∀ {xs : List α} {ys : List β}, Paired R xs ys → (∀ x y, R x y → R' x (f y)) → Paired R' xs (ys.map f)
  | _, _, .nil, _ => .nil
  | _, _, .cons h t, k => .cons (k _ _ h) (paired_map t k)
theorem noref_any : ∀ {vs : List V} {ds : List D}, NoRef ds → Paired (VR K m B) vs ds → Paired (VR K m' B) vs ds
  | _, [], _, h => by cases h; exact .nil
  | _, .own _ :: _, n, _ => n.elim
  | _, .f d :: _, n, h => by
    cases h with
    | cons h1 h2 => exact .cons h1 (noref_any (show NoRef _ from n) h2)
  | _, .sq d :: _, n, h => by
    cases h with
    | cons h1 h2 => exact .cons h1 (noref_any (show NoRef _ from n) h2)
theorem noref_fs {κ : Type} : ∀ {gs : List (κ × V)} {fs : List (κ × D)}, NoRef (fs.map (·.2)) → Paired (fun (p : κ × V) (q : κ × D) => p.1 = q.1 ∧ VR K m B p.2 q.2) gs fs → Paired (fun (p : κ × V) (q : κ × D) => p.1 = q.1 ∧ VR K m' B p.2 q.2) gs fs
  | _, [], _, h => by cases h; exact .nil
  | _, (x, .own _) :: _, n, _ => n.elim
  | _, (x, .f d) :: _, n, h => by
    cases h with
    | cons h1 h2 => exact .cons h1 (noref_fs (show NoRef _ from n) h2)
  | _, (x, .sq d) :: _, n, h => by
    cases h with
    | cons h1 h2 => exact .cons h1 (noref_fs (show NoRef _ from n) h2)
theorem OR.free_any {a : Addr} {o : O} (hf : o.free) (h : OR K m B H a o) : OR K m' B H a o := by
  cases o with
  | lst ds => exact h
  | rfs ds => obtain ⟨xs, e, r⟩ := h; exact ⟨xs, e, noref_any hf r⟩
  | tpr ds => obtain ⟨xs, e, r⟩ := h; exact ⟨xs, e, noref_any hf r⟩
  | dct kvs => exact h
  | dctT kvs => exact h
  | dctL od ks kvs => exact h
  | ins C fs => obtain ⟨dx, gs, e, r⟩ := h; exact ⟨dx, gs, e, noref_fs hf r⟩
  | dctD kvs => obtain ⟨ks, e, r⟩ := h; exact ⟨ks, e, noref_fs hf r⟩
  | gone => trivial
theorem VR.shift {v : V} {d : D} (h : VR K m' B v d) : VR K (m ++ m') B v (d.shift m.length) := by
  cases d with
  | f d => exact h
  | sq d => exact h
  | own n =>
    obtain ⟨a, e, z⟩ := h
    refine ⟨a, e, ?_⟩
    rw [List.getElem?_append_right (by omega)]
    rw [show m.length + n - m.length = n by omega]
    exact z
theorem OR.shift {a : Addr} {o : O} (h : OR K m' B H a o) : OR K (m ++ m') B H a (o.shift m.length) := by
  cases o with
  | lst ds => exact h
  | rfs ds => obtain ⟨xs, e, r⟩ := h; exact ⟨xs, e, paired_map r fun x y z => z.shift⟩
  | tpr ds => obtain ⟨xs, e, r⟩ := h; exact ⟨xs, e, paired_map r fun x y z => z.shift⟩
  | dct kvs => exact h
  | dctT kvs => exact h
  | dctL od ks kvs => exact h
  | ins C fs => obtain ⟨dx, gs, e, r⟩ := h; exact ⟨dx, gs, e, paired_map r fun x y z => ⟨z.1, z.2.shift⟩⟩
  | dctD kvs => obtain ⟨ks, e, r⟩ := h; exact ⟨ks, e, paired_map r fun x y z => ⟨z.1, z.2.shift⟩⟩
  | gone => trivial
theorem VR.shift1 {v : V} {d : D} {i : Nat} {a : Addr} {tm : List Addr} (hi : m[i]? = some a) (h : VR K (a :: tm) B v d) : VR K (m ++ tm) B v (d.shift1 i m.length) := by
  cases d with
  | f d => exact h
  | sq d => exact h
  | own n =>
    obtain ⟨b, e, z⟩ := h
    cases n with
    | zero =>
      refine ⟨b, e, ?_⟩
      have z' : a = b := by simpa using z
      subst z'
      exact get_pre ⟨tm, rfl⟩ hi
    | succ n =>
      refine ⟨b, e, ?_⟩
      rw [List.getElem?_append_right (by omega)]
      rw [show m.length + n - m.length = n by omega]
      simpa using z
theorem OR.shift1 {a b : Addr} {o : O} {i : Nat} {tm : List Addr} (hi : m[i]? = some a) (h : OR K (a :: tm) B H b o) : OR K (m ++ tm) B H b (o.shift1 i m.length) := by
  cases o with
  | lst ds => exact h
  | rfs ds => obtain ⟨xs, e, r⟩ := h; exact ⟨xs, e, paired_map r fun x y z => z.shift1 hi⟩
  | tpr ds => obtain ⟨xs, e, r⟩ := h; exact ⟨xs, e, paired_map r fun x y z => z.shift1 hi⟩
  | dct kvs => exact h
  | dctT kvs => exact h
  | dctL od ks kvs => exact h
  | ins C fs => obtain ⟨dx, gs, e, r⟩ := h; exact ⟨dx, gs, e, paired_map r fun x y z => ⟨z.1, z.2.shift1 hi⟩⟩
  | dctD kvs => obtain ⟨ks, e, r⟩ := h; exact ⟨ks, e, paired_map r fun x y z => ⟨z.1, z.2.shift1 hi⟩⟩
  | gone => trivial
theorem shift_gone {o : O} {k : Nat} : (o.shift k ≠ .gone ∧ ∀ ds, o.shift k ≠ .tpr ds) → (o ≠ .gone ∧ ∀ ds, o ≠ .tpr ds) := fun h => ⟨fun e => h.1 (by rw [e]; rfl), fun ds e => h.2 _ (by rw [e]; rfl)⟩
theorem shift1_gone {o : O} {i k : Nat} : (o.shift1 i k ≠ .gone ∧ ∀ ds, o.shift1 i k ≠ .tpr ds) → (o ≠ .gone ∧ ∀ ds, o ≠ .tpr ds) := fun h => ⟨fun e => h.1 (by rw [e]; rfl), fun ds e => h.2 _ (by rw [e]; rfl)⟩
/-- behind a callee that was handed no object -/
theorem SR.back0 (S : SR K m B H l) {l' : List O} (s : Step [] B H m' B' H') (S' : SR K m' B' H' l') : SR K (m ++ m') B' H' (l ++ l'.map (O.shift l.length)) ∧ Step m B H (m ++ m') B' H' := by
  have nn : ∀ a : Addr, a ∉ ([] : List Addr) := fun a => by simp
  have new : ∀ a ∈ m', H a = none := fun a ha => by
    rcases s.new a ha with z | z
    · exact absurd z (nn a)
    · exact z
  refine ⟨⟨S'.sub, by simp [S.len, S'.len], ?_, fun a ha => ?_, fun n a o h1 h2 => ?_⟩, ⟨s.sub, ⟨m', rfl⟩, fun a o h _ => s.keep a o h (nn a), s.live, fun a h1 h2 _ => s.sep a h1 h2 (nn a), fun a ha => ?_⟩⟩
  · rw [List.nodup_append]
    exact ⟨S.nd, S'.nd, fun a ha b hb e => S.live a ha (e ▸ new b hb)⟩
  · rcases List.mem_append.mp ha with z | z
    · exact s.live a (S.live a z)
    · exact S'.live a z
  · by_cases hlt : n < m.length
    · rw [List.getElem?_append_left hlt] at h1
      rw [List.getElem?_append_left (by rw [← S.len]; exact hlt)] at h2
      obtain ⟨r, b⟩ := S.obj n a o h1 h2
      have lv := S.live a (List.mem_of_getElem? h1)
      exact ⟨r.up s.sub ⟨m', rfl⟩ fun u e => s.keep a u e (nn a), fun q => s.sep a ⟨lv, r.ntup q⟩ (b q) (nn a)⟩
    · rw [List.getElem?_append_right (by omega)] at h1
      rw [List.getElem?_append_right (by rw [← S.len]; omega), ← S.len, List.getElem?_map] at h2
      cases e : l'[n - m.length]? with
      | none => rw [e] at h2; cases h2
      | some o' =>
        rw [e] at h2
        cases h2
        obtain ⟨r, b⟩ := S'.obj _ a o' h1 e
        exact ⟨r.shift, fun q => b (shift_gone q)⟩
  · rcases List.mem_append.mp ha with z | z
    · exact .inl z
    · exact .inr (new a z)
/-- behind a callee that was handed our own object i -/
theorem SR.back1 (S : SR K m B H l) {i : Nat} {a : Addr} {o' : O} {l' : List O} (hi : m[i]? = some a) (s : Step [a] B H m' B' H') (S' : SR K m' B' H' (o' :: l')) :
    ∃ tm, m' = a :: tm ∧ SR K (m ++ tm) B' H' (l.set i (o'.shift1 i l.length) ++ l'.map (O.shift1 i l.length)) ∧ Step m B H (m ++ tm) B' H' := by
  obtain ⟨tm, rfl⟩ := s.pre
  have ham := List.mem_of_getElem? hi
  have new : ∀ b ∈ tm, H b = none := fun b hb => by
    rcases s.new b (List.mem_append_right _ hb) with z | z
    · have e : b = a := by simpa using z
      have nd := S'.nd
      rw [List.singleton_append, List.nodup_cons] at nd
      exact absurd (e ▸ hb) nd.1
    · exact z
  have nin : ∀ b, b ∉ m → b ∉ [a] := fun b h z => by
    have e : b = a := by simpa using z
    exact h (e ▸ ham)
  refine ⟨tm, rfl, ⟨S'.sub, ?_, ?_, fun b hb => ?_, fun n b o h1 h2 => ?_⟩, ⟨s.sub, ⟨tm, rfl⟩, fun b o h hn => s.keep b o h (nin b hn), s.live, fun b h1 h2 hn => s.sep b h1 h2 (nin b hn), fun b hb => ?_⟩⟩
  · have e := S'.len
    simp only [List.singleton_append, List.length_cons] at e
    simp [S.len]
    omega
  · have nd := S'.nd
    rw [List.singleton_append, List.nodup_cons] at nd
    rw [List.nodup_append]
    exact ⟨S.nd, nd.2, fun b hb c hc e => S.live b hb (e ▸ new c hc)⟩
  · rcases List.mem_append.mp hb with z | z
    · exact s.live b (S.live b z)
    · exact S'.live b (List.mem_append_right _ z)
  · by_cases hlt : n < m.length
    · rw [List.getElem?_append_left hlt] at h1
      rw [List.getElem?_append_left (by simp [← S.len]; exact hlt)] at h2
      by_cases hni : i = n
      · subst hni
        rw [hi] at h1; cases h1
        rw [List.getElem?_set_self (by rw [← S.len]; exact hlt)] at h2
        cases h2
        obtain ⟨r, bb⟩ := S'.obj 0 a o' (by simp) (by simp)
        have r' : OR K (a :: tm) B' H' a o' := r
        exact ⟨by rw [← S.len]; exact OR.shift1 hi r', fun q => bb (shift1_gone q)⟩
      · rw [List.getElem?_set_ne hni] at h2
        obtain ⟨r, bb⟩ := S.obj n b o h1 h2
        have lv := S.live b (List.mem_of_getElem? h1)
        have ne : b ∉ [a] := fun z => by
          have e : b = a := by simpa using z
          exact S.ne hi h1 hni e.symm
        exact ⟨r.up s.sub ⟨tm, rfl⟩ fun u e => s.keep b u e ne, fun q => s.sep b ⟨lv, r.ntup q⟩ (bb q) ne⟩
    · rw [List.getElem?_append_right (by omega)] at h1
      rw [List.getElem?_append_right (by simp [← S.len]; omega), List.length_set, ← S.len, List.getElem?_map] at h2
      cases e : l'[n - m.length]? with
      | none => rw [e] at h2; cases h2
      | some o2 =>
        rw [e] at h2
        cases h2
        obtain ⟨r, bb⟩ := S'.obj (n - m.length + 1) b o2 (by simpa using h1) (by simpa using e)
        have r' : OR K (a :: tm) B' H' b o2 := r
        exact ⟨OR.shift1 hi r', fun q => bb (shift1_gone q)⟩
  · rcases List.mem_append.mp hb with z | z
    · exact .inl z
    · exact .inr (new b z)
/-- a def is called with data alone -/
theorem e_call0 {S : Spec3} {X : XK} (h : EvA K ty ρ l fun ds l1 => NoRef ds ∧ S ds [] fun d l' => R (d.shift l1.length) (l1 ++ l'.map (O.shift l1.length))) : EvS K (tCall (P3 K S) [] X ty) ρ l R := fun m B H σ Sr e Q q => by
  refine h m B H σ Sr e _ fun vs m1 B1 H1 ds l1 s1 S1 r1 ⟨hn, h1⟩ => ?_
  rw [List.append_nil]
  refine ⟨[], B1, [], ds, _, ⟨S1.sub, rfl, List.nodup_nil, fun a ha => by simp at ha, fun n a o z => by simp at z⟩, noref_any hn r1, h1, fun v m2 B2 H2 d l2 s2 S2 r2 z => ?_⟩
  obtain ⟨S3, s3⟩ := S1.back0 s2 S2
  refine q v _ _ _ _ _ (s1.trans s3) S3 ?_ z
  rw [← S1.len]
  exact r2.shift
/-- the arguments as the callee sees them -/
def backs (i : Nat) : List D → Option (List D)
  | [] => some []
  | d :: r => match backs i r with
    | none => none
    | some xs => match d with
      | .own n => if n = i then some (.own 0 :: xs) else none
      | .f x => some (.f x :: xs)
      | .sq s => some (.sq s :: xs)
theorem backs_eq (i k : Nat) : ∀ {ds es : List D}, backs i ds = some es → ds = es.map (D.shift1 i k) ∧ ∀ d ∈ es, d = .own 0 ∨ NoRef [d]
  | [], es, h => by
    have e : [] = es := Option.some.inj h
    subst e; exact ⟨rfl, fun _ h => by cases h⟩
  | d :: r, es, h => by
    cases e : backs i r with
    | none =>
      simp only [backs, e] at h
      cases h
    | some gs =>
      simp only [backs, e] at h
      obtain ⟨h1, h2⟩ := backs_eq i k e
      have step : ∀ (x : D), some (x :: gs) = some es → d = x.shift1 i k → (x = .own 0 ∨ NoRef [x]) → (d :: r) = es.map (D.shift1 i k) ∧ ∀ d ∈ es, d = .own 0 ∨ NoRef [d] := fun x hx e1 e2 => by
        have e3 : x :: gs = es := Option.some.inj hx
        subst e3
        refine ⟨by rw [List.map_cons, ← e1, ← h1], fun y hy => ?_⟩
        rcases List.mem_cons.mp hy with rfl | hy
        · exact e2
        · exact h2 y hy
      cases d with
      | own n =>
        simp only at h
        by_cases hn : n = i
        · rw [if_pos hn] at h
          exact step (.own 0) h (by subst hn; rfl) (.inl rfl)
        · rw [if_neg hn] at h; cases h
      | f x => exact step (.f x) h rfl (.inr trivial)
      | sq s => exact step (.sq s) h rfl (.inr trivial)
/-- a def is called with data, and with our own object i as its own 0 -/
theorem e_call1 (i : Nat) {S : Spec3} {X : XK} (h : EvA K ty ρ l fun ds l1 => ∃ o ds', l1[i]? = some o ∧ o.free ∧ backs i ds = some ds' ∧
      S ds' [o] fun d l' => ∃ o' t', l' = o' :: t' ∧ R (d.shift1 i l1.length) (l1.set i (o'.shift1 i l1.length) ++ t'.map (O.shift1 i l1.length))) : EvS K (tCall (P3 K S) [] X ty) ρ l R := fun m B H σ Sr e Q q => by
  refine h m B H σ Sr e _ fun vs m1 B1 H1 ds l1 s1 S1 r1 ⟨o, ds', ho, hf, hbk, h1⟩ => ?_
  obtain ⟨hds, hd⟩ := backs_eq i l1.length hbk
  subst hds
  rw [List.append_nil]
  obtain ⟨a, ha, ro, hb⟩ := S1.get ho
  have pv : ∀ {us : List V} {es : List D}, (∀ d ∈ es, d = .own 0 ∨ NoRef [d]) → Paired (VR K m1 B1) us (es.map (D.shift1 i l1.length)) → Paired (VR K [a] B1) us es := by
    intro us es
    induction es generalizing us with
    | nil => intro _ h; cases h; exact .nil
    | cons d es ih =>
      intro hd h
      cases h with
      | cons h1 h2 =>
        refine .cons ?_ (ih (fun x hx => hd x (List.mem_cons_of_mem _ hx)) h2)
        rcases hd d List.mem_cons_self with rfl | hn
        · obtain ⟨b, e1, e2⟩ := h1
          have e3 : m1[i]? = some b := e2
          rw [ha] at e3; cases e3
          exact ⟨a, e1, rfl⟩
        · cases d with
          | own n => exact hn.elim
          | f d => exact h1
          | sq s => exact h1
  refine ⟨[a], B1, [o], ds', _, ⟨S1.sub, rfl, by simp, fun b hb => ?_, fun n b x z1 z2 => ?_⟩, pv hd r1, h1, fun v m2 B2 H2 d l2 s2 S2 r2 ⟨o', t', e2, z⟩ => ?_⟩
  · have e : b = a := by simpa using hb
    subst e; exact S1.live b (List.mem_of_getElem? ha)
  · have hn : n = 0 := by
      have := (List.getElem?_eq_some_iff.mp z1).1
      simp at this
      exact this
    subst hn
    have e1 : a = b := by simpa using z1
    have e2 : o = x := by simpa using z2
    subst e1 e2
    exact ⟨OR.free_any hf ro, hb⟩
  · subst e2
    obtain ⟨tm, rfl, S3, s3⟩ := S1.back1 ha s2 S2
    refine q v _ _ _ _ _ (s1.trans s3) S3 ?_ z
    rw [← S1.len]
    exact r2.shift1 ha
theorem er_start {N : List Str} {vs : List V} {ds : List D} (h : Paired (VR K m B) vs ds) : ER K m B (L2.start N vs) (st0 N ds) := by
  have hl := pair_len h
  refine ⟨by simp [L2.start, st0, hl], fun i d e => ?_⟩
  unfold st0 at e
  by_cases hi : i < ds.length
  · rw [List.getElem?_append_left (by simpa using hi), List.getElem?_map] at e
    have go : ∀ {vs : List V} {ds : List D} {i : Nat}, Paired (VR K m B) vs ds → (ds[i]?).map some = some (some d) → ∃ v, vs[i]? = some v ∧ VR K m B v d := by
      intro vs ds
      induction ds generalizing vs with
      | nil => intro i _ e; simp at e
      | cons x ds ih =>
        intro i h e
        cases h with
        | cons h1 h2 =>
          cases i with
          | zero => simp at e; subst e; exact ⟨_, rfl, h1⟩
          | succ i => obtain ⟨v, a, b⟩ := ih h2 (by simpa using e); exact ⟨v, by simpa using a, b⟩
    obtain ⟨v, a, b⟩ := go h e
    refine ⟨v, ?_, b⟩
    unfold L2.start
    rw [List.getElem?_append_left (by simpa using (List.getElem?_eq_some_iff.mp a).1), List.getElem?_map, a]
    rfl
  · rw [List.getElem?_append_right (by simpa using hi), List.getElem?_replicate] at e
    split at e <;> simp at e
end
end L3
/-! L3e: operators that serve every kind of value, and what they do in a frame's view -/
namespace L3
open PySem L2
/-! ### operators whatever the operands are -/
section
variable {X : Cx}
theorem OpR.or {f : Value → Value → Sem Value} {r r' : R2} (h : OpR X f r) (h' : OpR X f r') : OpR X f (fun x y H Q => r x y H Q ∨ r' x y H Q) := by
  intro pins s σ H x y v u Q I rx ry q
  rcases q with q | q
  · exact h pins s σ H x y v u Q I rx ry q
  · exact h' pins s σ H x y v u Q I rx ry q
def rAddS : R2 := fun x y H Q => ∃ i j, x = .str i ∧ y = .str j ∧ i.length + j.length ≤ sizeLine ∧ Q (.str (i ++ j)) H
def rAddU (K : PySem.W.Frag) : R2 := fun x y H Q => rI0 (fun i j => .int (i + j)) x y H Q ∨ rAddS x y H Q ∨ rCat x y H Q ∨ rCatA K x y H Q
theorem u_add {K : PySem.W.Frag} (hK : X.K = K) : OpR X (binaryOp .Add) (rAddU K) := by
  subst hK
  exact OpR.or op_add (OpR.or op_add_str (OpR.or op_cat op_catA))
def rMulU : R2 := fun x y H Q => rI CMul (fun i j => .int (i * j)) x y H Q ∨ rRep x y H Q
theorem u_mul : OpR X (binaryOp .Mult) rMulU := OpR.or op_mul op_rep
def rEqU (K : PySem.W.Frag) : R2 := fun x y H Q => rEq x y H Q ∨ rEqD K x y H Q
def rNeU (K : PySem.W.Frag) : R2 := fun x y H Q => rNe x y H Q ∨ rNeD K x y H Q
theorem u_eq {K : PySem.W.Frag} (hK : X.K = K) (hu : X.A.units + 64 < cLine) : OpR X (compareOp .Eq) (rEqU K) := by
  subst hK
  exact OpR.or op_eq (op_eqD hu)
theorem u_ne {K : PySem.W.Frag} (hK : X.K = K) (hu : X.A.units + 64 < cLine) : OpR X (compareOp .NotEq) (rNeU K) := by
  subst hK
  exact OpR.or op_ne (op_neD hu)
/-- x in d, d a dict -/
def rInD (neg : Bool) : R2 := fun y x H Q => ∃ a o, x = .ref a ∧ DGet H a y o ∧ Q (.bl (if neg then !o.isSome else o.isSome)) H
theorem op_inD (hu : X.A.units + 1 < cLine) : OpR X (compareOp .In) (rInD false) := by
  intro pins s σ H y x v u Q I ry rx ⟨a, o, ex, g, q⟩
  subst ex
  obtain rfl : u = Value.ref a := rx
  exact d_in hu I g ry fun s3 I3 => ⟨.bl o.isSome, H, I3, rfl, q⟩
theorem op_notInD (hu : X.A.units + 1 < cLine) : OpR X (compareOp .NotIn) (rInD true) := by
  intro pins s σ H y x v u Q I ry rx ⟨a, o, ex, g, q⟩
  subst ex
  obtain rfl : u = Value.ref a := rx
  exact d_notIn hu I g ry fun s3 I3 => ⟨.bl (!o.isSome), H, I3, rfl, q⟩
/-- x in xs, data of any depth -/
def rInP (K : PySem.W.Frag) (neg : Bool) : R2 := fun x y H Q => ∃ d ds, Dp K H x d ∧ (Dp K H y (.list ds) ∨ Dp K H y (.tuple ds)) ∧ SeqAt.shaped d = true ∧ PyData.canLayAll0 ds = true ∧
  Q (.bl (if neg then !(ds.any fun e => PyData.eqv e d) else ds.any fun e => PyData.eqv e d)) H
theorem room_p {A : Around} {xs : List PyData} {d : PyData} (hd : SeqAt.shaped d = true) (hu : A.units + 65 < cLine) : A.units + 1 + min (PyData.depthAll xs) d.depth < cLine := by
  have h1 := SeqAt.depth_of_shaped hd
  have h2 : min (PyData.depthAll xs) d.depth ≤ d.depth := Nat.min_le_right _ _
  omega
theorem op_inP (hu : X.A.units + 65 < cLine) : OpR X (compareOp .In) (rInP X.K false) := by
  intro pins s σ H x y v u Q I rx ry ⟨d, ds, hd, hs, h1, h2, q⟩
  obtain ⟨as, r1⟩ := Dp.reads I d x v hd rx
  rcases hs with hs | hs
  · obtain ⟨bs, r2⟩ := Dp.reads I _ y u hs ry
    exact SeqAt.in_list_reads r2 r1 h2 (SeqAt.canLay_of_shaped h1) (room_p h1 hu) ⟨.bl _, H, I, rfl, q⟩
  · obtain ⟨bs, r2⟩ := Dp.reads I _ y u hs ry
    exact SeqAt.in_tuple_reads r2 r1 h2 (SeqAt.canLay_of_shaped h1) (room_p h1 hu) ⟨.bl _, H, I, rfl, q⟩
theorem op_notInP (hu : X.A.units + 65 < cLine) : OpR X (compareOp .NotIn) (rInP X.K true) := by
  intro pins s σ H x y v u Q I rx ry ⟨d, ds, hd, hs, h1, h2, q⟩
  obtain ⟨as, r1⟩ := Dp.reads I d x v hd rx
  rcases hs with hs | hs
  · obtain ⟨bs, r2⟩ := Dp.reads I _ y u hs ry
    exact SeqAt.notIn_list_reads r2 r1 h2 (SeqAt.canLay_of_shaped h1) (room_p h1 hu) ⟨.bl _, H, I, rfl, q⟩
  · obtain ⟨bs, r2⟩ := Dp.reads I _ y u hs ry
    exact SeqAt.notIn_tuple_reads r2 r1 h2 (SeqAt.canLay_of_shaped h1) (room_p h1 hu) ⟨.bl _, H, I, rfl, q⟩
def rInS (neg : Bool) : R2 := fun x y H Q => ∃ i j, x = .str i ∧ y = .str j ∧ Q (.bl (if neg then !(!(Builtin.Str.occurrences j i 0 j.length 1).isEmpty) else !(Builtin.Str.occurrences j i 0 j.length 1).isEmpty)) H
def rInU (K : PySem.W.Frag) (neg : Bool) : R2 := fun x y H Q => rIn K neg x y H Q ∨ rInD neg x y H Q ∨ rInP K neg x y H Q ∨ rInS neg x y H Q
theorem u_in {K : PySem.W.Frag} (hK : X.K = K) (hu : X.A.units + 65 < cLine) : OpR X (compareOp .In) (rInU K false) := by
  subst hK
  exact OpR.or op_in_seq (OpR.or (op_inD (by omega)) (OpR.or (op_inP hu) op_in_str))
theorem u_notIn {K : PySem.W.Frag} (hK : X.K = K) (hu : X.A.units + 65 < cLine) : OpR X (compareOp .NotIn) (rInU K true) := by
  subst hK
  exact OpR.or op_notIn_seq (OpR.or (op_notInD (by omega)) (OpR.or (op_notInP hu) op_notIn_str))
/-- d[y] as a subscript -/
def rIxD : R2 := fun x y H Q => ∃ a v, x = .ref a ∧ DGet H a y (some v) ∧ Q v H
theorem ix_dict (hu : X.A.units + 1 < cLine) : IxR X rIxD := by
  intro value slice pins s σ H x y v u Q I rx ry ⟨a, w, ex, g, q⟩ hs
  subst ex
  obtain rfl : v = Value.ref a := rx
  exact PyProof.Rows.tail_any (dict_typeIs I g) PySem.F.slot_dict_getitem.lookup (d_getItem hu I g ry fun w' s3 I3 rw' => ⟨w, H, I3, rw', q⟩) hs
def rIxU (K : PySem.W.Frag) : R2 := fun x y H Q => rIx K x y H Q ∨ rIxD x y H Q
theorem u_ix {K : PySem.W.Frag} (hK : X.K = K) (hu : X.A.units + 1 < cLine) : IxR X (rIxU K) := by
  subst hK
  exact ix_seq.or (ix_dict hu)
/-- len of a list, a tuple, a text, a dict -/
def rLenU (K : PySem.W.Frag) : List V → Hp → VK → Prop := fun xs H Q => (∃ p ys, xs = [.ref p] ∧ (SqL K H p ys ∨ SqT K H p ys) ∧ Q (.int ys.length) H) ∨ (∃ z, xs = [.str z] ∧ z.length ≤ sizeLine ∧ Q (.int z.length) H) ∨ ∃ a kvs, xs = [V.ref a] ∧ H a = some (.dK kvs) ∧ Q (.int kvs.length) H
theorem u_len {K : PySem.W.Frag} (hK : X.K = K) : CallR X (.builtin "len") (rLenU K) := by
  subst hK
  exact CallR.or call_len_seq (CallR.or call_len_str call_lenD)
end
/-! ### in a frame's view -/
section
variable {K : PySem.W.Frag} {m m' m2 : List Addr} {B B' B2 H H' H2 : Hp} {l : List O} {σ : St} {ρ : List (Option D)} {R R' : D → List O → Prop} {E E' : E3} {ta tb te tc : TE} {tt tu : TT} {t u : TS} {ty tz : TA} {g : TG} {gs : TGs}
/-- x is a list of the data ds | a list or a tuple -/
def IsL (l : List O) (x : D) (ds : List PyData) : Prop := x = .f (.list ds) ∨ ∃ n, x = .own n ∧ l[n]? = some (.lst ds)
def IsQ (l : List O) (x : D) (ds : List PyData) : Prop := IsL l x ds ∨ x = .f (.tuple ds)
theorem IsL.at (S : SR K m B H l) {v : V} {x : D} {ds : List PyData} (r : VR K m B v x) (h : IsL l x ds) : ∃ a xs, v = .ref a ∧ H a = some (.lst xs) ∧ FRs K B xs ds := by
  rcases h with rfl | ⟨n, rfl, hn⟩
  · cases r with
    | lst h1 h2 => exact ⟨_, _, rfl, S.sub _ _ h1, h2⟩
  · obtain ⟨a, rfl, ha⟩ := r
    obtain ⟨⟨xs, e, q⟩, _⟩ := S.obj n a _ ha hn
    exact ⟨a, xs, rfl, e, q⟩
theorem IsQ.at (S : SR K m B H l) {v : V} {x : D} {ds : List PyData} (r : VR K m B v x) (h : IsQ l x ds) : ∃ a xs, v = .ref a ∧ (SqL K H a xs ∨ SqT K H a xs) ∧ FRs K B xs ds := by
  rcases h with h | rfl
  · obtain ⟨a, xs, e, e1, q⟩ := h.at S r
    exact ⟨a, xs, e, .inl (SqL.of e1), q⟩
  · cases r with
    | tup h1 h2 => exact ⟨_, _, rfl, .inr (sqT_same S.sub h1.sq), h2⟩
/-- what a frame's view of a value is as plain data -/
def Asd (l : List O) (x : D) (d : PyData) : Prop := x = .f d ∨ (∃ n ds, x = .own n ∧ l[n]? = some (.lst ds) ∧ d = .list ds)
theorem nod_s {d : PyData} (h : SeqAt.shaped d = true) : d.hasDict = false := PyData.hasDict_of_canLay d (SeqAt.canLay_of_shaped h)
theorem nod_l {ds : List PyData} (h : PyData.canLayAll0 ds = true) : PyData.hasDict (.list ds) = false := PyData.hasDict_of_canLay (.list ds) (by simpa [PyData.canLay0] using h)
theorem nod_t {ds : List PyData} (h : PyData.canLayAll0 ds = true) : PyData.hasDict (.tuple ds) = false := PyData.hasDict_of_canLay (.tuple ds) (by simpa [PyData.canLay0] using h)
theorem Asd.dp (S : SR K m B H l) {v : V} {x : D} {d : PyData} (r : VR K m B v x) (h : Asd l x d) (nd : d.hasDict = false) : Dp K H v d := by
  rcases h with rfl | ⟨n, ds, rfl, hn, rfl⟩
  · exact FR.dp d v nd (FR.same S.sub d v r)
  · obtain ⟨a, xs, rfl, e, q⟩ := (show IsL l (.own n) ds from .inr ⟨n, rfl, hn⟩).at S r
    exact .lst (SqL.of e) (FRs.dp ds xs (by simpa [PyData.hasDict] using nd) (FRs.same S.sub ds xs q))
theorem ret0 {Q : VK} {v : V} {d : D} (S : SR K m B H l) (q : Post K m B H R Q) (r : VR K m B v d) (z : R d l) : Q v H := q v m B H d l (Step.refl _ _ _) S r z
theorem retF {Q : VK} {v : V} {d : PyData} (S : SR K m B H l) (q : Post K m B H R Q) (r : FR K B v d) (z : R (.f d) l) : Q v H := q v m B H (.f d) l (Step.refl _ _ _) S r z
/-- a new list | the same, left as it is -/
theorem retL {Q : VK} {xs : List V} {ds : List PyData} {p : Addr} (S : SR K m B H l) (q : Post K m B H R Q) (hp : H p = none) (r : FRs K B xs ds) (z : R (.own l.length) (l ++ [.lst ds])) : Q (.ref p) (upd H p (.lst xs)) := by
  obtain ⟨S2, s2, r2⟩ := S.alloc (u := .lst xs) (o := .lst ds) hp ⟨xs, upd_same, r⟩
  exact q _ _ _ _ _ _ s2 S2 r2 z
theorem retLF {Q : VK} {xs : List V} {ds : List PyData} {p : Addr} (S : SR K m B H l) (q : Post K m B H R Q) (hp : H p = none) (r : FRs K B xs ds) (z : R (.f (.list ds)) l) : Q (.ref p) (upd H p (.lst xs)) := by
  obtain ⟨S2, s2, e2⟩ := S.allocF (u := .lst xs) hp
  exact q _ m _ _ (.f (.list ds)) l s2 S2 (FR.lst e2 (FRs.same s2.sub ds xs r)) z
theorem retT {Q : VK} {xs : List V} {ds : List PyData} {p : Addr} (S : SR K m B H l) (q : Post K m B H R Q) (hp : H p = none) (r : FRs K B xs ds) (z : R (.f (.tuple ds)) l) : Q (.ref p) (upd H p (.tup xs)) := by
  obtain ⟨S2, s2, e2⟩ := S.allocF (u := .tup xs) hp
  exact q _ m _ _ (.f (.tuple ds)) l s2 S2 (FR.tup (.inl e2) (FRs.same s2.sub ds xs r)) z
/-! operators -/
theorem o_I0i {g : Int → Int → Int} {i j : Int} (z : R (.f (.int (g i j))) l) : OpS K (rI0 fun i j => .int (g i j)) (.f (.int i)) (.f (.int j)) l R := fun m B H vx vy S r1 r2 Q q =>
  ⟨i, j, int_of r1, int_of r2, retF S q (FR.int _) z⟩
theorem o_I0b {g : Int → Int → Bool} {i j : Int} (z : R (.f (.bool (g i j))) l) : OpS K (rI0 fun i j => .bl (g i j)) (.f (.int i)) (.f (.int j)) l R := fun m B H vx vy S r1 r2 Q q =>
  ⟨i, j, int_of r1, int_of r2, retF S q (FR.bl _) z⟩
theorem o_Ii {C : Int → Int → Prop} {g : Int → Int → Int} {i j : Int} (hc : C i j) (z : R (.f (.int (g i j))) l) : OpS K (rI C fun i j => .int (g i j)) (.f (.int i)) (.f (.int j)) l R := fun m B H vx vy S r1 r2 Q q =>
  ⟨i, j, int_of r1, int_of r2, hc, retF S q (FR.int _) z⟩
theorem o_addI {i j : Int} (z : R (.f (.int (i + j))) l) : OpS K (rAddU K) (.f (.int i)) (.f (.int j)) l R := fun m B H vx vy S r1 r2 Q q => .inl (o_I0i z m B H vx vy S r1 r2 Q q)
theorem o_addS {x y : Str} (hl : x.length + y.length ≤ 100000) (z : R (.f (.str (x ++ y))) l) : OpS K (rAddU K) (.f (.str x)) (.f (.str y)) l R := fun m B H vx vy S r1 r2 Q q =>
  .inr (.inl ⟨x, y, str_of r1, str_of r2, small hl, retF S q (FR.str _) z⟩)
theorem o_addL {x y : D} {ds es : List PyData} (h1 : IsL l x ds) (h2 : IsL l y es) (hl : ds.length + es.length ≤ 100000) (z : R (.own l.length) (l ++ [.lst (ds ++ es)])) : OpS K (rAddU K) x y l R := fun m B H vx vy S r1 r2 Q q => by
  obtain ⟨a, xs, e1, e2, q1⟩ := h1.at S r1
  obtain ⟨b, ys, e3, e4, q2⟩ := h2.at S r2
  refine .inr (.inr (.inl ⟨a, b, xs, ys, e1, e3, e2, e4, by rw [q1.length, q2.length]; exact small hl, fun p hp => ?_⟩))
  exact retL S q hp (q1.append q2) z
theorem o_addLF {x y : D} {ds es : List PyData} (h1 : IsL l x ds) (h2 : IsL l y es) (hl : ds.length + es.length ≤ 100000) (z : R (.f (.list (ds ++ es))) l) : OpS K (rAddU K) x y l R := fun m B H vx vy S r1 r2 Q q => by
  obtain ⟨a, xs, e1, e2, q1⟩ := h1.at S r1
  obtain ⟨b, ys, e3, e4, q2⟩ := h2.at S r2
  refine .inr (.inr (.inl ⟨a, b, xs, ys, e1, e3, e2, e4, by rw [q1.length, q2.length]; exact small hl, fun p hp => ?_⟩))
  exact retLF S q hp (q1.append q2) z
theorem o_addTA {ds es : List PyData} (hl : ds.length + es.length ≤ 100000) (z : R (.f (.tuple (ds ++ es))) l) : OpS K (rAddU K) (.f (.tuple ds)) (.f (.tuple es)) l R := fun m B H vx vy S r1 r2 Q q => by
  cases r1 with
  | @tup a xs _ h1 q1 =>
    cases r2 with
    | @tup b ys _ h2 q2 =>
      have h1' := sqT_same S.sub h1.sq
      have h2' := sqT_same S.sub h2.sq
      refine .inr (.inr (.inr ⟨a, b, xs, ys, rfl, rfl, h1', h2', by rw [q1.length, q2.length]; exact small hl, fun e => ?_, fun _ e => ?_, fun _ _ p hp => retT S q hp (q1.append q2) z⟩))
      · have := q1.length; rw [e] at this
        have e0 : ds = [] := List.length_eq_zero_iff.mp this.symm
        subst e0
        exact retF S q (FR.tup h2 q2) z
      · have := q2.length; rw [e] at this
        have e0 : es = [] := List.length_eq_zero_iff.mp this.symm
        subst e0
        rw [List.append_nil] at z
        exact retF S q (FR.tup h1 q1) z
theorem o_mulI {i j : Int} (hc : CMul i j) (z : R (.f (.int (i * j))) l) : OpS K rMulU (.f (.int i)) (.f (.int j)) l R := fun m B H vx vy S r1 r2 Q q => .inl (o_Ii hc z m B H vx vy S r1 r2 Q q)
theorem o_eqI {i j : Int} (z : R (.f (.bool (decide (i = j)))) l) : OpS K (rEqU K) (.f (.int i)) (.f (.int j)) l R := fun m B H vx vy S r1 r2 Q q => by
  refine .inl ?_
  rw [int_of r1, int_of r2]
  refine ⟨rfl, ?_⟩
  have e : decide (V.int i = V.int j) = decide (i = j) := decide_eq_decide.mpr ⟨fun h => V.int.inj h, fun h => by rw [h]⟩
  rw [e]
  exact retF S q (FR.bl _) z
theorem o_eqS {i j : Str} (z : R (.f (.bool (decide (i = j)))) l) : OpS K (rEqU K) (.f (.str i)) (.f (.str j)) l R := fun m B H vx vy S r1 r2 Q q => by
  refine .inl ?_
  rw [str_of r1, str_of r2]
  refine ⟨rfl, ?_⟩
  have e : decide (V.str i = V.str j) = decide (i = j) := decide_eq_decide.mpr ⟨fun h => V.str.inj h, fun h => by rw [h]⟩
  rw [e]
  exact retF S q (FR.bl _) z
theorem o_eqP {x y : D} {d e : PyData} (h1 : Asd l x d) (h2 : Asd l y e) (s1 : SeqAt.shaped d = true) (s2 : SeqAt.shaped e = true) (z : R (.f (.bool (PyData.eqv d e))) l) : OpS K (rEqU K) x y l R := fun m B H vx vy S r1 r2 Q q =>
  .inr ⟨d, e, h1.dp S r1 (nod_s s1), h2.dp S r2 (nod_s s2), s1, s2, retF S q (FR.bl _) z⟩
theorem o_neI {i j : Int} (z : R (.f (.bool (!decide (i = j)))) l) : OpS K (rNeU K) (.f (.int i)) (.f (.int j)) l R := fun m B H vx vy S r1 r2 Q q => by
  refine .inl ?_
  rw [int_of r1, int_of r2]
  refine ⟨rfl, ?_⟩
  have e : decide (V.int i = V.int j) = decide (i = j) := decide_eq_decide.mpr ⟨fun h => V.int.inj h, fun h => by rw [h]⟩
  rw [e]
  exact retF S q (FR.bl _) z
theorem o_neS {i j : Str} (z : R (.f (.bool (!decide (i = j)))) l) : OpS K (rNeU K) (.f (.str i)) (.f (.str j)) l R := fun m B H vx vy S r1 r2 Q q => by
  refine .inl ?_
  rw [str_of r1, str_of r2]
  refine ⟨rfl, ?_⟩
  have e : decide (V.str i = V.str j) = decide (i = j) := decide_eq_decide.mpr ⟨fun h => V.str.inj h, fun h => by rw [h]⟩
  rw [e]
  exact retF S q (FR.bl _) z
theorem o_neP {x y : D} {d e : PyData} (h1 : Asd l x d) (h2 : Asd l y e) (s1 : SeqAt.shaped d = true) (s2 : SeqAt.shaped e = true) (z : R (.f (.bool (!PyData.eqv d e))) l) : OpS K (rNeU K) x y l R := fun m B H vx vy S r1 r2 Q q =>
  .inr ⟨d, e, h1.dp S r1 (nod_s s1), h2.dp S r2 (nod_s s2), s1, s2, retF S q (FR.bl _) z⟩
/-! in -/
def sPy (xs : List Str) : List PyData := xs.map .str
theorem frs_str : ∀ {vs : List V} {xs : List Str}, FRs K B vs (sPy xs) → vs = xs.map V.str
  | _, [], h => by cases h; rfl
  | _, x :: xs, h => by
    cases h with
    | cons h1 h2 =>
      cases h1
      rw [frs_str (xs := xs) h2]; rfl
theorem inV_str (x : Str) (xs : List Str) : inV (.str x) (xs.map V.str) = decide (x ∈ xs) := by
  unfold inV
  rw [List.any_map]
  induction xs with
  | nil => simp
  | cons y ys ih =>
    rw [List.any_cons, ih]
    have e : ((fun z => eqV z (V.str x)) ∘ V.str) y = decide (y = x) := by
      show (y == x) = _
      by_cases h : y = x
      · subst h; simp
      · rw [decide_eq_false h]; exact beq_eq_false_iff_ne.mpr h
    rw [e]
    by_cases h : x = y
    · subst h; simp
    · have h' : ¬ y = x := fun e => h e.symm
      simp [h, h']
theorem flat_str (xs : List Str) : (xs.map V.str).all flatV = true := by
  induction xs with
  | nil => rfl
  | cons x xs ih => rw [List.map_cons, List.all_cons, ih]; rfl
theorem o_inQS {neg : Bool} {x : Str} {y : D} {xs : List Str} (h : IsQ l y (sPy xs)) (z : R (.f (.bool (if neg then !decide (x ∈ xs) else decide (x ∈ xs)))) l) : OpS K (rInU K neg) (.f (.str x)) y l R := fun m B H vx vy S r1 r2 Q q => by
  obtain ⟨a, us, e1, e2, q1⟩ := h.at S r2
  have eu := frs_str q1
  subst eu
  refine .inl ⟨a, _, e1, e2, by rw [str_of r1]; rfl, flat_str xs, ?_⟩
  rw [str_of r1, inV_str]
  exact retF S q (FR.bl _) z
theorem o_inP {neg : Bool} {x y : D} {d : PyData} {ds : List PyData} (h1 : Asd l x d) (h : IsQ l y ds) (s1 : SeqAt.shaped d = true) (s2 : PyData.canLayAll0 ds = true)
    (z : R (.f (.bool (if neg then !(ds.any fun e => PyData.eqv e d) else ds.any fun e => PyData.eqv e d))) l) : OpS K (rInU K neg) x y l R := fun m B H vx vy S r1 r2 Q q => by
  refine .inr (.inr (.inl ⟨d, ds, h1.dp S r1 (nod_s s1), ?_, s1, s2, retF S q (FR.bl _) z⟩))
  rcases h with h | rfl
  · refine .inl ?_
    rcases h with rfl | ⟨n, rfl, hn⟩
    · exact (show Asd l (.f (.list ds)) (.list ds) from .inl rfl).dp S r2 (nod_l s2)
    · exact (show Asd l (.own n) (.list ds) from .inr ⟨n, ds, rfl, hn, rfl⟩).dp S r2 (nod_l s2)
  · exact .inr ((show Asd l (.f (.tuple ds)) (.tuple ds) from .inl rfl).dp S r2 (nod_t s2))
/-! dicts: keys by value -/
def keyD : Key → PyData
  | .inl i => .int i
  | .inr x => .str x
theorem kv_of {v : V} {k : Key} (h : FR K B v (keyD k)) : v = kV k := by
  cases k with
  | inl i => cases h; rfl
  | inr x => cases h; rfl
def lookD {κ : Type} [DecidableEq κ] (kvs : List (κ × PyData)) (k : κ) : Option PyData := (kvs.find? fun p => decide (p.1 = k)).map (·.2)
theorem look_of {κ : Type} [DecidableEq κ] {ks : List (κ × V)} {kvs : List (κ × PyData)} (h : Paired (fun (p : κ × V) (q : κ × PyData) => p.1 = q.1 ∧ FR K B p.2 q.2) ks kvs) (k : κ) :
    (valV ks k = none ∧ lookD kvs k = none) ∨ ∃ v d, valV ks k = some v ∧ lookD kvs k = some d ∧ FR K B v d := by
  induction h with
  | nil => exact .inl ⟨rfl, rfl⟩
  | @cons p q ps qs h t ih =>
    by_cases e : p.1 = k
    · refine .inr ⟨p.2, q.2, valV_pos e, ?_, h.2⟩
      unfold lookD
      rw [List.find?_cons, decide_eq_true (h.1.symm.trans e)]
      rfl
    · have e' : ¬ q.1 = k := fun z => e (h.1.trans z)
      rw [valV_neg e]
      have : lookD (q :: qs) k = lookD qs k := by
        unfold lookD
        rw [List.find?_cons, decide_eq_false e']
      rw [this]
      exact ih
theorem o_ixDk {n : Nat} {k : Key} {d : PyData} {kvs : List (Key × PyData)} (h : l[n]? = some (.dct kvs)) (hk : lookD kvs k = some d) (z : R (.f d) l) : OpS K (rIxU K) (.own n) (.f (keyD k)) l R := fun m B H vx vy S r1 r2 Q q => by
  obtain ⟨a, rfl, ha⟩ := r1
  obtain ⟨⟨ks, e, pr⟩, _⟩ := S.obj n a _ ha h
  rw [kv_of (k := k) r2]
  rcases look_of pr k with ⟨e1, e2⟩ | ⟨v, d', e1, e2, r⟩
  · rw [hk] at e2; cases e2
  · rw [hk] at e2; cases e2
    exact .inr ⟨a, v, rfl, by rw [← e1]; exact DGet.k e, ret0 S q (show VR K m B v (.f d) from r) z⟩
/-! subscripts -/
theorem frs_at {vs : List V} {ds : List PyData} {i : Int} {d : PyData} (h : FRs K B vs ds) (e : atI ds i = some d) : ∃ v, atI vs i = some v ∧ FR K B v d := by
  unfold atI at e ⊢
  rw [h.length]
  cases e2 : ixN ds.length i with
  | none => rw [e2] at e; cases e
  | some j =>
    rw [e2] at e
    exact h.get e
theorem o_ixQ {x : D} {ds : List PyData} {i : Int} {d : PyData} (h : IsQ l x ds) (hd : atI ds i = some d) (z : R (.f d) l) : OpS K (rIxU K) x (.f (.int i)) l R := fun m B H vx vy S r1 r2 Q q => by
  obtain ⟨a, us, e1, e2, q1⟩ := h.at S r1
  obtain ⟨v, ev, rv⟩ := frs_at q1 hd
  have fin := ret0 (d := .f d) S q rv z
  rcases e2 with e2 | e2
  · exact .inl (.inl ⟨a, us, i, v, e1, int_of r2, e2, ev, fin⟩)
  · exact .inl (.inr (.inl ⟨a, us, i, v, e1, int_of r2, e2, ev, fin⟩))
theorem o_ixSq {s : List Int} {i : Int} {k : Int} (hd : atI s i = some k) (z : R (.f (.int k)) l) : OpS K (rIxU K) (.sq s) (.f (.int i)) l R := fun m B H vx vy S r1 r2 Q q => by
  obtain ⟨a, e, h⟩ := r1
  have h' := S.sub.seq h
  have ev : atI (s.map V.int) i = some (.int k) := by
    unfold atI at hd ⊢
    rw [List.length_map]
    cases e2 : ixN s.length i with
    | none => rw [e2] at hd; cases hd
    | some j =>
      rw [e2] at hd
      show (s.map V.int)[j]? = _
      rw [List.getElem?_map, show s[j]? = some k from hd]
      rfl
  exact .inl (.inl ⟨a, _, i, .int k, e, int_of r2, h', ev, retF S q (FR.int k) z⟩)
theorem pair_get : ∀ {vs : List V} {ds : List D} {j : Nat} {d : D}, Paired (VR K m B) vs ds → ds[j]? = some d → ∃ v, vs[j]? = some v ∧ VR K m B v d
  | _, [], _, _, h, e => by simp at e
  | _, _ :: _, 0, _, h, e => by
    cases h with
    | cons h1 h2 => simp at e; subst e; exact ⟨_, rfl, h1⟩
  | _, _ :: _, j + 1, _, h, e => by
    cases h with
    | cons h1 h2 =>
      obtain ⟨v, a, b⟩ := pair_get (j := j) h2 (by simpa using e)
      exact ⟨v, by simpa using a, b⟩
theorem pair_at {vs : List V} {ds : List D} {i : Int} {d : D} (h : Paired (VR K m B) vs ds) (e : atI ds i = some d) : ∃ v, atI vs i = some v ∧ VR K m B v d := by
  unfold atI at e ⊢
  rw [pair_len h]
  cases e2 : ixN ds.length i with
  | none => rw [e2] at e; cases e
  | some j =>
    rw [e2] at e
    exact pair_get h e
theorem o_ixR {n : Nat} {ds : List D} {i : Int} {d : D} (h : l[n]? = some (.rfs ds)) (hd : atI ds i = some d) (z : R d l) : OpS K (rIxU K) (.own n) (.f (.int i)) l R := fun m B H vx vy S r1 r2 Q q => by
  obtain ⟨a, rfl, ha⟩ := r1
  obtain ⟨⟨xs, e, pr⟩, _⟩ := S.obj n a _ ha h
  obtain ⟨v, ev, rv⟩ := pair_at pr hd
  exact .inl (.inl ⟨a, xs, i, v, rfl, int_of r2, SqL.of e, ev, ret0 S q rv z⟩)
theorem o_ixS {x : Str} {i : Int} {c : Nat} (hl : x.length ≤ 100000) (hd : atI x.cps.toList i = some c) (z : R (.f (.str ⟨#[c]⟩)) l) : OpS K (rIxU K) (.f (.str x)) (.f (.int i)) l R := fun m B H vx vy S r1 r2 Q q =>
  .inl (.inr (.inr ⟨x, i, c, str_of r1, int_of r2, small hl, hd, retF S q (FR.str _) z⟩))
/-! len -/
theorem c_lenQ {x : D} {ds : List PyData} (h : IsQ l x ds) (z : R (.f (.int ds.length)) l) : CaS K (rLenU K) [x] l R := fun m B H vs S r Q q => by
  cases r with
  | cons r1 r2 =>
    cases r2
    obtain ⟨a, us, e1, e2, q1⟩ := h.at S r1
    refine .inl ⟨a, us, by rw [e1], e2, ?_⟩
    rw [q1.length]
    exact retF S q (FR.int _) z
theorem c_lenSq {s : List Int} (z : R (.f (.int s.length)) l) : CaS K (rLenU K) [.sq s] l R := fun m B H vs S r Q q => by
  cases r with
  | cons r1 r2 =>
    cases r2
    obtain ⟨a, e, h⟩ := r1
    refine .inl ⟨a, _, by rw [e], .inl (S.sub.seq h), ?_⟩
    rw [List.length_map]
    exact retF S q (FR.int _) z
end
end L3
/-! L3f: what is walked, methods, slices, built-in calls -/
namespace L3
open PySem L2
/-! ### a list or a tuple is walked -/
section
variable {X : Cx} {tg : Expr}
def iSeq (K : PySem.W.Frag) (tl : TE) : TI := fun σ H R => tl σ H fun x H1 => ∃ a, x = .ref a ∧ (((∃ xs, SqL K H1 a xs) ∧ R (Itl K a) H1) ∨ ((∃ xs, SqT K H1 a xs) ∧ R (Itt K a) H1))
theorem u_seq {K : PySem.W.Frag} (hK : X.K = K) {e : Expr} {tl : TE} (he : PE X e tl) : PI X tg e (iSeq K tl) := by
  subst hK
  refine ⟨fun pins st σ H R I h => thn (he.run pins st σ H _ I h) fun v s1 ⟨x, H1, I1, r1, a, ex, q1⟩ => ?_⟩
  subst ex
  cases r1
  have fp : ∀ b ∈ [s1.heap.objs.size], FpOk X pins H1 b := fun b hb => by
    have eb : b = s1.heap.objs.size := by simpa using hb
    rw [eb]
    exact I1.fpOk (Nat.le_refl _) (I1.hok.fresh (Nat.le_refl _))
  rcases q1 with ⟨⟨xs, hq⟩, q1⟩ | ⟨⟨xs, hq⟩, q1⟩
  · obtain ⟨its, _, pl, _⟩ := I1.list hq
    exact wpAny_pyIter_list pl.isList ⟨_, _, _, _, H1, rfl, I1.kept (t' := s1.toks) fun _ _ z => Heap.get?_push_of_some _ z, turn_list a _, ⟨_, Heap.get?_push_size _ rfl, rfl, rfl⟩, fp, q1⟩
  · obtain ⟨its, _, pl, _⟩ := I1.tuple hq
    exact wpAny_pyIter_tuple (show s1.heap.IsTuple a its.toArray from pl) ⟨_, _, _, _, H1, rfl, I1.kept (t' := s1.toks) fun _ _ z => Heap.get?_push_of_some _ z, turn_tuple a _, ⟨_, Heap.get?_push_size _ rfl, rfl, rfl⟩, fp, q1⟩
/-- slices of lists, texts, tuples (a tuple's not the whole) -/
def rSlU (K : PySem.W.Frag) : V → Option Int → Option Int → Hp → VK → Prop := fun x lo hi H Q => rSlL K x lo hi H Q ∨ rSlS x lo hi H Q ∨ rSlT K x lo hi H Q
theorem u_sl {K : PySem.W.Frag} (hK : X.K = K) : SlR X (rSlU K) := by
  subst hK
  exact SlR.or sl_list (SlR.or sl_str sl_tup)
theorem u_tup {K : PySem.W.Frag} (hK : X.K = K) {es : List Expr} {k : Nat} {t : TGs} {n : Nat} {pos : Pos} (hc : X.calm = true) (h : PGs X es t)
    (hn : (assignEach es X.env).length = n := by rfl) (hst : (assignEach es X.env).findIdx? (·.1) = none := by rfl) : PG X (.Tuple es k pos) (gTup K n t) := by
  subst hK
  exact pg_tup hc h hn hst
theorem u_bm {K : PySem.W.Frag} (hK : X.K = K) {o e : Expr} {es : List Expr} {to : TE} {t : TA} {name : Str} {apos cpos : Pos} {T id : String} {r : V → List V → Hp → VK → Prop} (pa : PlainAttrs T) (slot : Slot T name id) (hty : typeOf (.builtin id) = pure (.type "method_descriptor")) (hm : MtR X id r) (ho : PE X o to) (ha : PA X (e :: es) t)
    (hbase : attributeBase o name X.env (eval o X.env) = eval o X.env := by rfl)
    (hfew : ((backTo cpos (starEach (e :: es) X.env)).all (fun x => !x.1) && (backToKw cpos (keywordEach [] X.env)).all (fun x => x.1.isSome)
      && decide ((e :: es).length + ([] : List Keyword).length + (if ([] : List Keyword).isEmpty then 0 else 1) < 30)) = true := by rfl)
    (hline : (apos.endLine == cpos.line) = true := by rfl) (hs : starEach (e :: es) X.env = (false, eval e X.env) :: starEach es X.env := by rfl) (hplain : (backTo cpos (starEach es X.env)).any (·.1) = false := by rfl) :
    PE X (.Call (.Attribute o name apos) (e :: es) [] cpos) (tBM K T r to t) := by
  subst hK
  exact pe_bm pa slot hty hm ho ha hbase hfew hline hs hplain
end
section
variable {K : PySem.W.Frag} {m m' m2 : List Addr} {B B' B2 H H' H2 : Hp} {l : List O} {σ : St} {ρ : List (Option D)} {R R' : D → List O → Prop} {E E' : E3} {ta tb te tc tl : TE} {tt tu : TT} {t u : TS} {ty tz : TA} {g : TG} {gs : TGs}
theorem itok_list {a : Addr} {xs : List V} {x : D} {ds : List PyData} (hx : VR K m B (.ref a) x) : (∀ l', IsL l' x ds → True) → ItOk K m B (Itl K a) (fun l' => IsL l' x ds) ds.length (fun i => .f (ds.getD i .none)) := fun _ i m' B' H' l' hs hp S P => by
  obtain ⟨a', us, e1, e2, q⟩ := P.at S (hx.up hs hp)
  cases e1
  have hl := q.length
  refine ⟨fun hi => ?_, fun hi => ⟨us, SqL.of e2, by omega⟩⟩
  have hd : ds[i]? = some ds[i] := by simp [hi]
  obtain ⟨v, hv, rv⟩ := q.get hd
  refine ⟨⟨us, v, SqL.of e2, hv⟩, fun y H3 ⟨eH, hy⟩ => ?_⟩
  subst eH
  have := hy us (SqL.of e2)
  rw [hv] at this; cases this
  refine ⟨B', Step.refl _ _ _, S, ?_⟩
  show FR K B' v (ds.getD i .none)
  rw [List.getD_eq_getElem?_getD, hd]
  exact rv
theorem itok_tup {a : Addr} {ds : List PyData} (hx : VR K m B (.ref a) (.f (.tuple ds))) : ItOk K m B (Itt K a) (fun l' => True) ds.length (fun i => .f (ds.getD i .none)) := fun i m' B' H' l' hs hp S _ => by
  have hx' := hx.up hs hp
  cases hx' with
  | @tup _ us _ h1 q =>
    have h1' := sqT_same S.sub h1.sq
    have hl := q.length
    refine ⟨fun hi => ?_, fun hi => ⟨us, h1', by omega⟩⟩
    have hd : ds[i]? = some ds[i] := by simp [hi]
    obtain ⟨v, hv, rv⟩ := q.get hd
    refine ⟨⟨us, v, h1', hv⟩, fun y H3 ⟨eH, hy⟩ => ?_⟩
    subst eH
    have := hy us h1'
    rw [hv] at this; cases this
    refine ⟨B', Step.refl _ _ _, S, ?_⟩
    show FR K B' v (ds.getD i .none)
    rw [List.getD_eq_getElem?_getD, hd]
    exact rv
theorem i_seq {R : (List O → Prop) → Nat → (Nat → D) → List O → Prop} (h : EvS K tl ρ l fun x l1 => ∃ ds, IsQ l1 x ds ∧ R (fun l' => IsQ l' x ds) ds.length (fun i => .f (ds.getD i .none)) l1) : EvI K (iSeq K tl) ρ l R := fun m B H σ S e Rt q => by
  refine h m B H σ S e _ fun v m1 B1 H1 x l1 s1 S1 r1 ⟨ds, hq, z⟩ => ?_
  rcases hq with hL | rfl
  · obtain ⟨a, us, rfl, e2, qq⟩ := hL.at S1 r1
    refine ⟨a, rfl, .inl ⟨⟨us, SqL.of e2⟩, q (Itl K a) m1 B1 H1 l1 _ _ _ s1 S1 (fun i m' B' H' l' hs hp S' P => ?_) z⟩⟩
    have P' : IsL l' x ds := by
      rcases P with P | rfl
      · exact P
      · rcases hL with e | ⟨n, e, _⟩ <;> cases e
    exact itok_list (xs := us) r1 (fun _ _ => trivial) i m' B' H' l' hs hp S' P'
  · obtain ⟨a, us, rfl, e2, qq⟩ := (show IsQ l1 (.f (.tuple ds)) ds from .inr rfl).at S1 r1
    refine ⟨a, rfl, .inr ⟨?_, q (Itt K a) m1 B1 H1 l1 _ _ _ s1 S1 (fun i m' B' H' l' hs hp S' P => itok_tup r1 i m' B' H' l' hs hp S' trivial) z⟩⟩
    cases r1 with
    | tup h1 h2 => exact ⟨_, sqT_same S1.sub h1.sq⟩
/-- FOR over a list or tuple of data -/
theorem x_forQ (h : EvS K tl ρ l fun x l1 => ∃ ds, IsQ l1 x ds ∧ ∃ I : Nat → List (Option D) → List O → Prop, I 0 ρ l1 ∧ (∀ i ρ' l', i ≤ ds.length → I i ρ' l' → IsQ l' x ds) ∧
      (∀ i d ρ' l', ds[i]? = some d → I i ρ' l' → AsS K g (.f d) ρ' l' fun ρ2 l2 => ExS K t ρ2 l2 ⟨I (i + 1), E.rt, E.nx, I (i + 1)⟩) ∧ ∀ ρ' l', I ds.length ρ' l' → E.nx ρ' l') : ExS K (tFor (iSeq K tl) g t) ρ l E :=
  x_for (i_seq (h.imp fun x l1 ⟨ds, hq, I, h0, hP, hs, hd⟩ => ⟨ds, hq, I, h0, hP, fun i ρ' l' hi z => by
    have e : ds[i]? = some (ds.getD i .none) := by rw [List.getD_eq_getElem?_getD]; simp [hi]
    exact hs i _ ρ' l' e z, hd⟩))
theorem i_rng1 {R : (List O → Prop) → Nat → (Nat → D) → List O → Prop} (h : EvA K ty ρ l fun ds l1 => ∃ j : Int, ds = [.f (.int j)] ∧ -(2 ^ 62) ≤ j ∧ j < 2 ^ 62 ∧ R (fun _ => True) j.toNat (fun i => .f (.int i)) l1) : EvI K (iRng1 ty) ρ l R := fun m B H σ S e Rt q => by
  refine h m B H σ S e _ fun vs m1 B1 H1 ds l1 s1 S1 r1 ⟨j, eds, h1, h2, z⟩ => ?_
  subst eds
  cases r1 with
  | cons r r' =>
    cases r'
    refine ⟨j, by rw [int_of r], h1, h2, q _ m1 B1 H1 l1 _ _ _ s1 S1 (fun i m' B' H' l' hs hp S' _ => ⟨fun hi => ⟨hi, fun y H3 ⟨eH, hy⟩ => ?_⟩, fun hi => Nat.le_of_eq hi.symm⟩) z⟩
    subst eH hy
    refine ⟨B', Step.refl _ _ _, S', ?_⟩
    rw [Int.zero_add]
    exact FR.int _
/-- FOR over range(n) -/
theorem x_forR (h : EvA K ty ρ l fun ds l1 => ∃ j : Int, ds = [.f (.int j)] ∧ -(2 ^ 62) ≤ j ∧ j < 2 ^ 62 ∧ ∃ I : Nat → List (Option D) → List O → Prop, I 0 ρ l1 ∧
      (∀ (i : Nat) ρ' l', i < j.toNat → I i ρ' l' → AsS K g (.f (.int i)) ρ' l' fun ρ2 l2 => ExS K t ρ2 l2 ⟨I (i + 1), E.rt, E.nx, I (i + 1)⟩) ∧ ∀ ρ' l', I j.toNat ρ' l' → E.nx ρ' l') : ExS K (tFor (iRng1 ty) g t) ρ l E :=
  x_for (i_rng1 fun m B H σ S e Q q => h m B H σ S e Q fun vs m' B' H' ds l' s S' r ⟨j, e1, e2, e3, I, h0, hs, hd⟩ => q vs m' B' H' ds l' s S' r ⟨j, e1, e2, e3, I, h0, fun _ _ _ _ _ => trivial, hs, hd⟩)
/-- a comprehension over a list or tuple of data -/
theorem e_lcQ {vs : List Nat} (hg : GG g vs) (h : EvS K tl ρ l fun x l1 => ∃ ds, IsQ l1 x ds ∧ ∃ I : Nat → List PyData → List O → Prop, I 0 [] l1 ∧ (∀ i acc l', i ≤ ds.length → I i acc l' → IsQ l' x ds ∧ acc.length ≤ 100000) ∧
      (∀ i d acc l', ds[i]? = some d → I i acc l' → AsS K g (.f d) (wipe3 ρ vs) l' fun ρ2 l2 => EvT K tt ρ2 l2 fun b l3 => if b = true then EvS K te ρ2 l3 fun d l4 => ∃ y, d = .f y ∧ I (i + 1) (acc ++ [y]) l4 else I (i + 1) acc l3) ∧
      ∀ acc l', I ds.length acc l' → R (.own l'.length) (l' ++ [.lst acc])) : EvS K (tLc (iSeq K tl) g tt te vs) ρ l R :=
  e_lc (good_of hg) (i_seq (h.imp fun x l1 ⟨ds, hq, I, h0, hP, hs, hd⟩ => ⟨ds, hq, I, h0, hP, fun i acc l' hi z => by
    have e : ds[i]? = some (ds.getD i .none) := by rw [List.getD_eq_getElem?_getD]; simp [hi]
    exact hs i _ acc l' e z, hd⟩))
/-- .. over range(n) -/
theorem e_lcR {vs : List Nat} (hg : GG g vs) (h : EvA K ty ρ l fun ds l1 => ∃ j : Int, ds = [.f (.int j)] ∧ -(2 ^ 62) ≤ j ∧ j < 2 ^ 62 ∧ ∃ I : Nat → List PyData → List O → Prop, I 0 [] l1 ∧ (∀ i acc l', i ≤ j.toNat → I i acc l' → acc.length ≤ 100000) ∧
      (∀ (i : Nat) acc l', i < j.toNat → I i acc l' → AsS K g (.f (.int i)) (wipe3 ρ vs) l' fun ρ2 l2 => EvT K tt ρ2 l2 fun b l3 => if b = true then EvS K te ρ2 l3 fun d l4 => ∃ y, d = .f y ∧ I (i + 1) (acc ++ [y]) l4 else I (i + 1) acc l3) ∧
      ∀ acc l', I j.toNat acc l' → R (.own l'.length) (l' ++ [.lst acc])) : EvS K (tLc (iRng1 ty) g tt te vs) ρ l R :=
  e_lc (good_of hg) (i_rng1 fun m B H σ S e Q q => h m B H σ S e Q fun vs m' B' H' ds l' s S' r ⟨j, e1, e2, e3, I, h0, hP, hs, hd⟩ => q vs m' B' H' ds l' s S' r ⟨j, e1, e2, e3, I, h0, fun i acc l' hi z => ⟨trivial, hP i acc l' hi z⟩, hs, hd⟩)
theorem t_yes {R : Bool → List O → Prop} (r : R true l) : EvT K tYes ρ l R := fun m B H σ S e Q q => q m B H true l (Step.refl _ _ _) S r
theorem take_next {α : Type} {ds : List α} {i : Nat} {d : α} (h : ds[i]? = some d) : ds.take (i + 1) = ds.take i ++ [d] := by
  rw [List.take_succ, h]; rfl
/-- a comprehension that reads alone -/
theorem e_lcF {vs : List Nat} (F : PyData → Option PyData) (hg : GG g vs) (h : EvS K tl ρ l fun x l1 => ∃ ds, IsQ l1 x ds ∧ ds.length ≤ 100000 ∧
      (∀ d, d ∈ ds → AsS K g (.f d) (wipe3 ρ vs) l1 fun ρ2 l2 => EvT K tt ρ2 l2 fun b l3 => if b = true then EvS K te ρ2 l3 fun z l4 => ∃ y, z = .f y ∧ F d = some y ∧ l4 = l1 else F d = none ∧ l3 = l1) ∧
      R (.own l1.length) (l1 ++ [.lst (ds.filterMap F)])) : EvS K (tLc (iSeq K tl) g tt te vs) ρ l R := by
  refine e_lcQ hg (h.imp fun x l1 ⟨ds, hq, hl, hs, hd⟩ => ⟨ds, hq, fun i acc l' => l' = l1 ∧ acc = (ds.take i).filterMap F, ⟨rfl, by simp⟩, ?_, ?_, ?_⟩)
  · rintro i acc l' hi ⟨rfl, rfl⟩
    refine ⟨hq, Nat.le_trans (List.length_filterMap_le _ _) ?_⟩
    rw [List.length_take]; omega
  · rintro i d acc l' hd' ⟨rfl, rfl⟩
    intro m B H σ v S e hv Q q
    refine hs d (List.mem_of_getElem? hd') m B H σ v S e hv Q fun σ' ρ' m' B' H' l2 s S' e' z => q σ' ρ' m' B' H' l2 s S' e' (z.imp fun b l3 w => ?_)
    cases b with
    | true => exact w.imp fun z l4 ⟨y, e1, e2, e3⟩ => ⟨y, e1, e3, by rw [take_next hd', List.filterMap_append]; simp [e2]⟩
    | false =>
      obtain ⟨e1, e2⟩ := w
      exact ⟨e2, by rw [take_next hd', List.filterMap_append]; simp [e1]⟩
  · rintro acc l' ⟨rfl, rfl⟩
    rw [List.take_length]
    exact hd
/-! ### methods -/
theorem e_bmL {r : V → List V → Hp → VK → Prop} {to : TE} (h : EvS K to ρ l fun x l1 => (∃ ds, IsL l1 x ds) ∧ EvA K ty ρ l1 fun es l2 => MeS K r x es l2 R) : EvS K (tBM K "list" r to ty) ρ l R := fun m B H σ S e Q q => by
  refine h m B H σ S e _ fun v m1 B1 H1 x l1 s1 S1 r1 ⟨⟨ds, hL⟩, z⟩ => ?_
  obtain ⟨a, us, rfl, e2, qq⟩ := hL.at S1 r1
  refine ⟨.inl ⟨rfl, us, SqL.of e2⟩, z m1 B1 H1 σ S1 (e.step s1) _ fun vs m2 B2 H2 es l2 s2 S2 r2 z2 => ?_⟩
  exact z2 m2 B2 H2 _ vs S2 (r1.step s2) r2 Q (q.step (s1.trans s2))
theorem e_bmR {r : V → List V → Hp → VK → Prop} {to : TE} (h : EvS K to ρ l fun x l1 => (∃ n ds, x = .own n ∧ l1[n]? = some (.rfs ds)) ∧ EvA K ty ρ l1 fun es l2 => MeS K r x es l2 R) : EvS K (tBM K "list" r to ty) ρ l R := fun m B H σ S e Q q => by
  refine h m B H σ S e _ fun v m1 B1 H1 x l1 s1 S1 r1 ⟨⟨n, ds, ex, hn⟩, z⟩ => ?_
  subst ex
  obtain ⟨a, rfl, ha⟩ := id r1
  obtain ⟨⟨us, e2, _⟩, _⟩ := S1.obj n a _ ha hn
  refine ⟨.inl ⟨rfl, us, SqL.of e2⟩, z m1 B1 H1 σ S1 (e.step s1) _ fun vs m2 B2 H2 es l2 s2 S2 r2 z2 => ?_⟩
  exact z2 m2 B2 H2 _ vs S2 (r1.step s2) r2 Q (q.step (s1.trans s2))
theorem writeL {Q : VK} {n : Nat} {a : Addr} {xs : List V} {ds : List PyData} {v : V} {d : PyData} (S : SR K m B H l) (q : Post K m B H R Q) (hn : m[n]? = some a) (hb : B a = none) (r : FRs K B xs ds) (rv : FR K B v d)
    (z : R (.f d) (l.set n (.lst ds))) : Q v (upd H a (.lst xs)) := by
  obtain ⟨S2, s2⟩ := S.write (u := .lst xs) (o := .lst ds) hn hb ⟨xs, upd_same, r⟩
  exact q _ _ _ _ (.f d) _ s2 S2 rv z
theorem m_append {n : Nat} {ds : List PyData} {d : PyData} (h : l[n]? = some (.lst ds)) (hl : ds.length ≤ 100000) (z : R (.f .none) (l.set n (.lst (ds ++ [d])))) : MeS K rAppend (.own n) [.f d] l R := fun m B H vx vs S r1 r2 Q q => by
  obtain ⟨a, rfl, ha⟩ := r1
  obtain ⟨⟨xs, e, pr⟩, hb⟩ := S.obj n a _ ha h
  cases r2 with
  | cons r2 r3 =>
    cases r3
    exact ⟨a, xs, _, rfl, rfl, e, small' (by rw [pr.length]; exact hl), writeL S q ha (hb (by simp)) (pr.append (FRs.one r2)) FR.non z⟩
def rInsert : V → List V → Hp → VK → Prop := fun x vs H Q => ∃ (l : Addr) (xs : List V) (i : Int) (y : V), x = .ref l ∧ vs = [.int i, y] ∧ H l = some (.lst xs) ∧ xs.length < sizeLine ∧ 0 ≤ i ∧ i < 2 ^ 63 ∧
    Q .non (upd H l (.lst (xs.take i.toNat ++ [y] ++ xs.drop i.toNat)))
theorem u_insert {X : Cx} : MtR X "list.insert" rInsert := mt_insert
theorem m_insert {n : Nat} {ds : List PyData} {i : Int} {d : PyData} (h : l[n]? = some (.lst ds)) (hl : ds.length ≤ 100000) (h0 : 0 ≤ i) (h1 : i < 2 ^ 63) (z : R (.f .none) (l.set n (.lst (ds.take i.toNat ++ [d] ++ ds.drop i.toNat)))) :
    MeS K rInsert (.own n) [.f (.int i), .f d] l R := fun m B H vx vs S r1 r2 Q q => by
  obtain ⟨a, rfl, ha⟩ := r1
  obtain ⟨⟨xs, e, pr⟩, hb⟩ := S.obj n a _ ha h
  cases r2 with
  | cons r2 r3 =>
    cases r3 with
    | cons r3 r4 =>
      cases r4
      exact ⟨a, xs, i, _, rfl, by rw [int_of r2], e, small' (by rw [pr.length]; exact hl), h0, h1, writeL S q ha (hb (by simp)) (((pr.take _).append (FRs.one r3)).append (pr.drop _)) FR.non z⟩
/-! texts -/
theorem e_m1 {r : V → List V → Hp → VK → Prop} (h : EvS K ta ρ l fun x l1 => (∃ s, x = .f (.str s)) ∧ EvS K tb ρ l1 fun y l2 => MeS K r x [y] l2 R) : EvS K (tM1 r ta tb) ρ l R := fun m B H σ S e Q q => by
  refine h m B H σ S e _ fun v m1 B1 H1 x l1 s1 S1 r1 ⟨⟨s, ex⟩, z⟩ => ?_
  subst ex
  refine ⟨⟨s, str_of r1⟩, z m1 B1 H1 σ S1 (e.step s1) _ fun w m2 B2 H2 y l2 s2 S2 r2 z2 => ?_⟩
  exact z2 m2 B2 H2 v [w] S2 (r1.step s2) (.cons r2 .nil) Q (q.step (s1.trans s2))
def rJoin (K : PySem.W.Frag) : V → List V → Hp → VK → Prop := fun x xs H Q => ∃ a p, ∃ ys : List Str, x = .str a ∧ xs = [.ref p] ∧ (SqL K H p (ys.map V.str) ∨ SqT K H p (ys.map V.str)) ∧
    (ys.map (·.length)).sum + ys.length * a.length ≤ 16777216 ∧ Q (.str (Txt.join a ys)) H
theorem m_join {s : Str} {y : D} {ys : List Str} (hy : IsQ l y (sPy ys)) (hl : (ys.map (·.length)).sum + ys.length * s.length ≤ 16777216) (z : R (.f (.str (Txt.join s ys))) l) : MeS K (rJoin K) (.f (.str s)) [y] l R := fun m B H vx vs S r1 r2 Q q => by
  cases r2 with
  | cons r2 r3 =>
    cases r3
    obtain ⟨a, us, rfl, e2, pr⟩ := hy.at S r2
    have eu := frs_str pr
    subst eu
    exact ⟨s, a, ys, str_of r1, rfl, e2, hl, retF S q (FR.str _) z⟩
/-! ### slices -/
def cutD (ds : List PyData) (lo hi : Option Int) : List PyData := (ds.drop (HT.sIx ds.length 0 lo)).take (HT.sIx ds.length ds.length hi - HT.sIx ds.length 0 lo)
theorem frs_cut {vs : List V} {ds : List PyData} {lo hi : Option Int} (h : FRs K B vs ds) : FRs K B (cutV vs lo hi) (cutD ds lo hi) := by
  unfold cutV cutD
  rw [h.length]
  exact (h.drop _).take _
def SlS (K : PySem.W.Frag) (r : V → Option Int → Option Int → Hp → VK → Prop) (x : D) (lo hi : Option Int) (l : List O) (R : D → List O → Prop) : Prop :=
  ∀ m B H vx, SR K m B H l → VR K m B vx x → ∀ Q : VK, Post K m B H R Q → r vx lo hi H Q
theorem e_sl {r : V → Option Int → Option Int → Hp → VK → Prop} {th tk : TO} (h : EvS K te ρ l fun x l1 => EvO K th ρ l1 fun lo l2 => EvO K tk ρ l2 fun hi l3 => SlS K r x lo hi l3 R) : EvS K (tSl r te th tk) ρ l R := fun m B H σ S e Q q => by
  refine h m B H σ S e _ fun v m1 B1 H1 x l1 s1 S1 r1 z1 => ?_
  refine z1 m1 B1 H1 σ S1 (e.step s1) _ fun m2 B2 H2 lo l2 s2 S2 z2 => ?_
  refine z2 m2 B2 H2 σ S2 (e.step (s1.trans s2)) _ fun m3 B3 H3 hi l3 s3 S3 z3 => ?_
  exact z3 m3 B3 H3 v S3 (r1.step (s2.trans s3)) Q (q.step ((s1.trans s2).trans s3))
theorem s_listF {x : D} {ds : List PyData} {lo hi : Option Int} (h : IsL l x ds) (z : R (.f (.list (cutD ds lo hi))) l) : SlS K (rSlU K) x lo hi l R := fun m B H vx S r1 Q q => by
  obtain ⟨a, us, rfl, e2, pr⟩ := h.at S r1
  exact .inl ⟨a, us, rfl, SqL.of e2, fun p hp => retLF S q hp (frs_cut pr) z⟩
theorem s_str {x : Str} {lo hi : Option Int} (hl : x.length ≤ 100000) (z : R (.f (.str (cutS x lo hi))) l) : SlS K (rSlU K) (.f (.str x)) lo hi l R := fun m B H vx S r1 Q q =>
  .inr (.inl ⟨x, str_of r1, small hl, retF S q (FR.str _) z⟩)
theorem s_tup {ds : List PyData} {lo hi : Option Int} (hw : ¬ (HT.sIx ds.length 0 lo = 0 ∧ HT.sIx ds.length ds.length hi = ds.length)) (z : R (.f (.tuple (cutD ds lo hi))) l) : SlS K (rSlU K) (.f (.tuple ds)) lo hi l R := fun m B H vx S r1 Q q => by
  cases r1 with
  | @tup a us _ h1 pr => exact .inr (.inr ⟨a, us, rfl, sqT_same S.sub h1.sq, by rw [pr.length]; exact hw, fun p hp => retT S q hp (frs_cut pr) z⟩)
/-! ### built-in calls -/
def rAbs : List V → Hp → VK → Prop := fun xs H Q => ∃ i, xs = [.int i] ∧ Q (.int (if i < 0 then -i else i)) H
theorem c_abs {i : Int} (z : R (.f (.int (if i < 0 then -i else i))) l) : CaS K rAbs [.f (.int i)] l R := fun m B H vs S r Q q => by
  cases r with
  | cons r1 r2 =>
    cases r2
    exact ⟨i, by rw [int_of r1], retF S q (FR.int _) z⟩
def rMin2 : List V → Hp → VK → Prop := fun xs H Q => ∃ i j, xs = [.int i, .int j] ∧ Q (.int (if j < i then j else i)) H
def rMax2 : List V → Hp → VK → Prop := fun xs H Q => ∃ i j, xs = [.int i, .int j] ∧ Q (.int (if j > i then j else i)) H
theorem c_min2 {i j : Int} (z : R (.f (.int (if j < i then j else i))) l) : CaS K rMin2 [.f (.int i), .f (.int j)] l R := fun m B H vs S r Q q => by
  cases r with
  | cons r1 r2 =>
    cases r2 with
    | cons r2 r3 =>
      cases r3
      exact ⟨i, j, by rw [int_of r1, int_of r2], retF S q (FR.int _) z⟩
theorem c_max2 {i j : Int} (z : R (.f (.int (if j > i then j else i))) l) : CaS K rMax2 [.f (.int i), .f (.int j)] l R := fun m B H vs S r Q q => by
  cases r with
  | cons r1 r2 =>
    cases r2 with
    | cons r2 r3 =>
      cases r3
      exact ⟨i, j, by rw [int_of r1, int_of r2], retF S q (FR.int _) z⟩
def rInt1 : List V → Hp → VK → Prop := fun xs H Q => (∃ i, xs = [.int i] ∧ Q (.int i) H) ∨ ∃ k, xs = [.bl k] ∧ Q (.int (if k then 1 else 0)) H
theorem c_intB {b : Bool} (z : R (.f (.int (if b then 1 else 0))) l) : CaS K rInt1 [.f (.bool b)] l R := fun m B H vs S r Q q => by
  cases r with
  | cons r1 r2 =>
    cases r2
    exact .inr ⟨b, by rw [bl_of r1], retF S q (FR.int _) z⟩
theorem u_join {X : Cx} {K : PySem.W.Frag} (hK : X.K = K) {o e : Expr} {to te : TE} {apos pos : Pos} (ho : PE X o to) (he : PE X e te) (hs : starEach [e] X.env = [(false, eval e X.env)] := by rfl) (hbase : attributeBase o "join" X.env (eval o X.env) = eval o X.env := by rfl) (hline : (apos.endLine == pos.line) = true := by rfl) :
    PE X (.Call (.Attribute o "join" apos) [e] [] pos) (tM1 (rJoin K) to te) := by
  subst hK
  exact pe_join ho he hs hbase hline
def rListOf (K : PySem.W.Frag) : List V → Hp → VK → Prop := fun xs H Q => ∃ p ys, xs = [.ref p] ∧ (SqL K H p ys ∨ SqT K H p ys) ∧ ∀ l, H l = none → Q (.ref l) (upd H l (.lst ys))
def rTupleOf (K : PySem.W.Frag) : List V → Hp → VK → Prop := fun xs H Q => ∃ p ys, xs = [.ref p] ∧ ((SqL K H p ys ∧ ∀ l, H l = none → Q (.ref l) (upd H l (.tup ys))) ∨ (SqT K H p ys ∧ Q (.ref p) H))
theorem u_list {X : Cx} {K : PySem.W.Frag} (hK : X.K = K) : CallR X (.type "list") (rListOf K) := by
  subst hK
  exact call_list_of
theorem u_tuple {X : Cx} {K : PySem.W.Frag} (hK : X.K = K) : CallR X (.type "tuple") (rTupleOf K) := by
  subst hK
  exact call_tuple_of
theorem u_abs {X : Cx} : CallR X (.builtin "abs") rAbs := call_abs
theorem u_min2 {X : Cx} (hc : X.calm = true) : CallR X (.builtin "min") rMin2 := call_min2 hc
theorem u_int {X : Cx} : CallR X (.type "int") rInt1 := call_int1
theorem c_tuple {x : D} {ds : List PyData} (h : IsQ l x ds) (z : R (.f (.tuple ds)) l) : CaS K (rTupleOf K) [x] l R := fun m B H vs S r Q q => by
  cases r with
  | cons r1 r2 =>
    cases r2
    rcases h with h | rfl
    · obtain ⟨a, us, rfl, e2, pr⟩ := h.at S r1
      exact ⟨a, us, rfl, .inl ⟨SqL.of e2, fun p hp => retT S q hp pr z⟩⟩
    · cases r1 with
      | tup h1 h2 => exact ⟨_, _, rfl, .inr ⟨sqT_same S.sub h1.sq, retF S q (FR.tup h1 h2) z⟩⟩
end
end L3
/-! L3g: a def of the text that keeps its promise, and its call -/
namespace L3
open PySem L2 PySem.Spec PyProof.Rows PySem.W
/-- what a def hands back: as it is; one own object, the rest forgotten; data, the rest forgotten; a tuple of two own lists -/
def Res (k : Nat) (R : D → List O → Prop) : D → List O → Prop := fun d l => R d l ∨
  (∃ n o, d = .own n ∧ l[n]? = some o ∧ o.free ∧ o ≠ .gone ∧ k ≤ n ∧ (∀ x ∈ l.take k, x.under k) ∧ R (.own k) (l.take k ++ [o])) ∨
  ((∃ x, d = .f x) ∧ (∀ x ∈ l.take k, x.under k) ∧ R d (l.take k))
theorem Res.own {k n : Nat} {o : O} {R : D → List O → Prop} {l : List O} (h : l[n]? = some o) (hf : o.free) (hg : o ≠ .gone) (hk : k ≤ n) (hu : ∀ x ∈ l.take k, x.under k) (z : R (.own k) (l.take k ++ [o])) : Res k R (.own n) l := .inr (.inl ⟨n, o, rfl, h, hf, hg, hk, hu, z⟩)
theorem Res.dat {k : Nat} {x : PyData} {R : D → List O → Prop} {l : List O} (hu : ∀ x ∈ l.take k, x.under k) (z : R (.f x) (l.take k)) : Res k R (.f x) l := .inr (.inr ⟨⟨x, rfl⟩, hu, z⟩)
section
variable {K : PySem.W.Frag} {m m' : List Addr} {B B' H H' : Hp} {l l' : List O} {R : D → List O → Prop}
theorem res_ok {Q : VK} {v : V} {d : D} (h4 : Post K m B H R Q) (s : Step m B H m' B' H') (S' : SR K m' B' H' l') (r : VR K m' B' v d) (z : Res m.length R d l') : Q v H' := by
  rcases z with z | ⟨n, o, rfl, hn, hf, hg, hk, hu, z⟩ | ⟨⟨x, rfl⟩, hu, z⟩
  · exact h4 v m' B' H' d l' s S' r z
  · obtain ⟨a, rfl, ha⟩ := r
    obtain ⟨ro, hb⟩ := S'.obj n a o ha hn
    have S2 := S'.cut m.length hu
    have s2 := s.cut S' (Nat.le_refl _)
    have hnot : a ∉ m'.take m.length := fun hm => by
      obtain ⟨j, hj⟩ := List.getElem?_of_mem hm
      have hjl : j < m.length := by
        have := (List.getElem?_eq_some_iff.mp hj).1
        rw [List.length_take] at this; omega
      rw [List.getElem?_take_of_lt hjl] at hj
      exact S'.ne hj ha (by omega) rfl
    have hl : H' a ≠ none := S'.live a (List.mem_of_getElem? ha)
    obtain ⟨S3, r3⟩ := S2.join (o := o) hnot hb hl (OR.free_any hf ro)
    have hH : H a = none := by
      cases e : H a with
      | none => rfl
      | some u =>
        obtain ⟨t, et⟩ := s.pre
        rcases s.new a (List.mem_of_getElem? ha) with w | w
        · exact absurd (by rw [et, List.take_left]; exact w) hnot
        · rw [w] at e; cases e
    have hlen : (l'.take m.length).length = m.length := by
      rw [List.length_take, ← S'.len]
      obtain ⟨t, et⟩ := s.pre
      rw [et, List.length_append]; omega
    refine h4 (.ref a) _ B' H' (.own m.length) _ (s2.join hH) S3 ?_ z
    rw [hlen] at r3
    exact r3
  · have S2 := S'.cut m.length hu
    have s2 := s.cut S' (Nat.le_refl _)
    exact h4 v _ B' H' (.f x) _ s2 S2 r z
end
/-- room for k more levels, and no guarded call below (what repr asks) -/
structure RoomG (k : Nat) (A : Around) : Prop where
  r : Room k A
  g : A.guards = some []
theorem RoomG.mono {j k : Nat} {A : Around} (h : RoomG k A) (hjk : j ≤ k) : RoomG j A := ⟨h.r.mono hjk, h.g⟩
theorem RoomG.units {k : Nat} {A : Around} (h : RoomG k A) : A.units + 64 < cLine := h.r.units
theorem RoomG.un {k : Nat} {A : Around} (h : RoomG k A) : A.units + 16 * k + 200 < cLine := h.r.un
/-- as the hand layer's FnOk, where no guarded call is below -/
structure FnG (P : Program) (w : World) (K : PySem.W.Frag) (mg : Str → Option Value) (base : Heap) (CX : CXT) (k : Nat) (f : Addr) (fd : FuncData) (ps : List Str) (sp : Sp) : Prop where
  size : ∀ {vs : List V} {H : Hp} {Q : VK} {E : XK}, sp vs H Q E → vs.length = ps.length
  go : ∀ {A : Around} {outer : List Env} {s : Shared} {H : Hp} {args : Args} {us : List Value} {vs : List V} {Q : VK} {E : XK},
    RoomG k A → Env0 P w K mg base A outer s H → BindsTo s fd args (ps.zip us) → Vals vs us → sp vs H Q E → codeAny (model P w) A (.call (.ref f) args) (CR CX outer P w H s Q E) s
theorem FnG.mono {P : Program} {w : World} {K : PySem.W.Frag} {mg : Str → Option Value} {base : Heap} {CX : CXT} {j k : Nat} {f : Addr} {fd : FuncData} {ps : List Str} {sp : Sp} (F : FnG P w K mg base CX j f fd ps sp) (hjk : j ≤ k) : FnG P w K mg base CX k f fd ps sp :=
  ⟨F.size, fun hr e b v z => F.go (hr.mono hjk) e b v z⟩
/-- a def of the text, by the reading of its body -/
theorem fnG {CX : CXT} {P : Program} {w : World} {K : PySem.W.Frag} {mg : Str → Option Value} {base : Heap} {k : Nat} {x qual : Str} {st : Stmt} {f : Addr} {fd : FuncData} {N ps : List Str} {sp : Sp} (F : Fun K x qual st f fd) (sc : FnScope N ps (defScope st))
    (size : ∀ {vs : List V} {H : Hp} {Q : VK} {E : XK}, sp vs H Q E → vs.length = ps.length)
    (body : ∀ (cdv : Value) (A : Around) (outer : List Env) (s : Shared) (H : Hp) (vs : List V) (Q : VK) (E : XK), RoomG k (A.deeper (PyProof.Rows.envOfC qual (defScope st) s.heap.objs.size f cdv)) → sp vs H Q E →
      ∃ t, PSs (cxOf CX P w K mg base N qual (defScope st) f cdv A outer s H E) (defBody st) t ∧ t { nx := fun _ H' => Q .non H', rt := Q } (start N vs) H) : FnG P w K mg base CX (k + 1) f fd ps sp := by
  obtain ⟨oc, od, kV, doc, pm, an, cdv, ct, osl, efd, lk, hcd⟩ := F.ex
  cases efd
  refine ⟨size, ?_⟩
  intro A outer s H args us vs Q E hr e0 hb rv hsp
  have inB : ∀ b o, base.get? b = some o → s.heap.get? b = some o := fun b o e => (e0.bs b o e).1
  have inK : K.In s.heap := e0.mod.kin.keeps inB
  have hkind : ∀ y, y ∈ ps.zip us → (defScope st).names.lookup y.1 = some .local ∨ ((defScope st).names.lookup y.1 = some .cell ∧ ((cellsFrom (s.heap.objs.size + 1) (defScope st).names []).lookup y.1).isSome = true) := by
    rintro ⟨n, v⟩ hy
    have hn := (List.of_mem_zip hy).1
    exact (sc.par n hn).imp id fun c => ⟨c, PySem.W.cellsFrom_some _ _ _ (Or.inl c)⟩
  apply codeAny_call_function hr.r.depth (inK f _ lk) rfl sc.co sc.gen rfl (PySem.W.codeRec_of inK hcd)
  apply hb
  refine wpAny_newFunctionEnv_cells sc.kind hkind ?_
  intro env henv s1 ic
  cases henv
  refine ⟨(e0.mod.nolimit.keeps inB).keeps ic.toInCall.keep, codeAny_func ?_⟩
  have hr2 : RoomG k (A.deeper (PyProof.Rows.envOfC qual (defScope st) s.heap.objs.size f cdv)) := ⟨hr.r.deeper _, hr.g⟩
  obtain ⟨t, ht, z⟩ := body cdv A outer s H vs Q E hr2 hsp
  refine wpAny_mono (ht.run [] s1 (start N vs) H _ (inv_start (E := E) sc hr.r.hd e0 (size hsp) rv ic) z) ?_ fun e s' h => h
  intro fl s' h
  cases fl with
  | next => obtain ⟨σ', H', J, q⟩ := h; exact ⟨.non, H', J.os, J.bare, J.base, J.hok, rfl, q⟩
  | ret u => obtain ⟨v, σ', H', J, r2, q⟩ := h; exact ⟨v, H', J.os, J.bare, J.base, J.hok, r2, q⟩
  | brk => exact h.elim fun _ h => h.elim fun _ h => h.2.elim
  | cont => exact h.elim fun _ h => h.elim fun _ h => h.2.elim
/-- the def at x keeps the promise S, by at most level k -/
structure Cal (P : Program) (w : World) (K : PySem.W.Frag) (mg : Str → Option Value) (base : Heap) (k : Nat) (x : Str) (ps : List Str) (S : Spec3) : Prop where
  ex : ∃ a fd, mg x = some (.ref a) ∧ PySem.W.keepIn K (.ref a) = true ∧ Binds K fd ps [] ∧ FnG P w K mg base CX0 k a fd ps (P3 K S)
/-- the def st stands at x -/
structure DefAt (K : PySem.W.Frag) (mg : Str → Option Value) (x : Str) (st : Stmt) (ps : List Str) : Prop where
  ex : ∃ f fd, mg x = some (.ref f) ∧ Fun K x x st f fd ∧ Binds K fd ps []
section
variable {P : Program} {w : World} {K : PySem.W.Frag} {mg : Str → Option Value} {base : Heap}
theorem ok4F {x : Str} {st : Stmt} {f : Addr} {fd : FuncData} {N ps : List Str} {k : Nat} {S : Spec3} (F : Fun K x x st f fd) (sc : FnScope N ps (defScope st)) (len : ∀ ds g R, S ds g R → ds.length = ps.length)
    (h : ∀ (cdv : Value) (A : Around) (outer : List Env) (s : Shared) (H : Hp) (E : XK), RoomG k (A.deeper (PyProof.Rows.envOfC x (defScope st) s.heap.objs.size f cdv)) →
      ∃ t, PSs (cxOf CX0 P w K mg base N x (defScope st) f cdv A outer s H E).nox (defBody st) t ∧ ∀ ds g R, S ds g R → ExS K t (st0 N ds) g ⟨fun _ l => Res g.length R (.f .none) l, Res g.length R, fun _ _ => False, fun _ _ => False⟩) : FnG P w K mg base CX0 (k + 1) f fd ps (P3 K S) := by
  refine fnG F sc (fun ⟨m, B, g, ds, R, h1, h2, h3, h4⟩ => by rw [pair_len h2]; exact len ds g R h3) (fun cdv A outer s H vs Q E hr ⟨m, B, g, ds, R, h1, h2, h3, h4⟩ => ?_)
  obtain ⟨t, ht, hx⟩ := h cdv A outer s H E hr
  have hg : g.length = m.length := h1.len.symm
  refine ⟨t, ht.nox, hx ds g R h3 m B H _ h1 (er_start h2) _ ⟨fun σ' ρ' m' B' H' l' s S' e z => ?_, fun v m' B' H' d l' s S' r z => ?_, fun _ _ _ _ _ _ _ _ _ z => z.elim, fun _ _ _ _ _ _ _ _ _ z => z.elim⟩⟩
  · rw [hg] at z
    exact res_ok (d := .f .none) h4 s S' FR.non z
  · rw [hg] at z
    exact res_ok h4 s S' r z
theorem ok4 {x : Str} {st : Stmt} {N ps : List Str} {k : Nat} {S : Spec3} (Df : DefAt K mg x st ps) (sc : FnScope N ps (defScope st)) (len : ∀ ds g R, S ds g R → ds.length = ps.length)
    (h : ∀ (cdv : Value) (A : Around) (outer : List Env) (s : Shared) (H : Hp) (E : XK) (f : Addr), RoomG k (A.deeper (PyProof.Rows.envOfC x (defScope st) s.heap.objs.size f cdv)) →
      ∃ t, PSs (cxOf CX0 P w K mg base N x (defScope st) f cdv A outer s H E).nox (defBody st) t ∧ ∀ ds g R, S ds g R → ExS K t (st0 N ds) g ⟨fun _ l => Res g.length R (.f .none) l, Res g.length R, fun _ _ => False, fun _ _ => False⟩) : Cal P w K mg base (k + 1) x ps S := by
  obtain ⟨f, fd, hm, F, b⟩ := Df.ex
  exact ⟨f, fd, hm, F.kp, b, ok4F F sc len fun cdv A outer s H E hr => h cdv A outer s H E f hr⟩
theorem Cal.mono {j k : Nat} {x : Str} {ps : List Str} {S : Spec3} (C : Cal P w K mg base j x ps S) (h : j ≤ k) : Cal P w K mg base k x ps S := by
  obtain ⟨a, fd, h1, h2, h3, h4⟩ := C.ex
  exact ⟨a, fd, h1, h2, h3, h4.mono h⟩
end
section
variable {X : Cx} {k : Nat} {ps : List Str} {S : Spec3} {x : Str} {p pos : Pos} {e : Expr} {es : List Expr} {t : TA}
/-- the call of a def with arguments -/
theorem pe_cal {K : PySem.W.Frag} (hK : X.K = K) (C : Cal X.prog X.w X.K X.mg X.base k x ps S) (hr : RoomG k X.A) (hg : Gl X x) (ha : PA X (e :: es) t) (hdb : (x == ("__debug__" : Str)) = false := by decide) (he : starEach (e :: es) X.env = (false, eval e X.env) :: starEach es X.env := by rfl)
    (hpl : (backTo pos (starEach es X.env)).any (·.1) = false := by rfl) : PE X (.Call (.Name x p) (e :: es) [] pos) (tCall (P3 K S) [] E0 t) := by
  subst hK
  obtain ⟨a, fd, hm, hk, hb, F⟩ := C.ex
  constructor
  intro pins s σ H Q I h
  apply wpAny_Call_Name_kw
  apply ld_glob I hg hm _ hdb
  refine PySem.W.callWith_K (h₀ := X.base) I.ok.mod.kin hk (thn (ha.run pos pins s σ H _ I h) ?_) he hpl
  rintro us s1 ⟨vs, H1, I1, r, q⟩
  refine ⟨I1.kIn, wpAny_call ?_⟩
  rw [List.append_nil] at q
  have hl : us.length = ps.length := by rw [← r.length]; exact F.size q
  have b := hb s1 us I1.kIn (by rw [List.append_nil]; exact hl)
  rw [List.append_nil] at b
  refine codeAny_mono (F.go hr I1.env0 b r q) ?_
  intro res s2 z
  match res, z with
  | .error _, z => exact z.elim
  | .ok (.ret u), z => exact I1.after z
end
/-- the law's def is called, at the heap behind the top -/
theorem law_callG {P : Program} {w : World} {K : PySem.W.Frag} {mg mb : Str → Option Value} {k : Nat} {fa a : Addr} {fd : FuncData} {x : Str} {sp : Sp} {s₁ : Shared} {vs : List Value} {ns : List Int} (KX : K.In s₁.heap) (hns : s₁.heap.Ns mainGlobals mg) (hb : s₁.heap.Ns builtinsNs mb)
    (hbb : ∀ y : Str, y ≠ "__name__" → mb y = bootBuiltins y) (hlim : s₁.heap.NoLimit) (hg : s₁.gens = #[]) (ha : s₁.heap.get? a = some { cls := .type "list", data := .seq vs.toArray }) (hi : IntsAre vs ns) (hl : ns.length ≤ sizeLine) (hr : Room k callerA)
    (F : ∀ base : Heap, K.In base → base.Ns mainGlobals mg → FnG P w K mg base CX0 k fa fd [x] sp) (hbind : ∀ (s : Shared) (u : Value), BindsTo s fd ⟨[u], []⟩ [(x, u)]) (hsp : ∀ H : Hp, SqL K H a (ns.map V.int) → sp [.ref a] H (fun v _ => v = .bl true) fun _ _ _ => False) :
    codeAny (model P w) callerA (.call (.ref fa) ⟨[.ref a], []⟩) (fun r s' => r = .ok (.ret (.bool true)) ∧ OldK s₁.heap s'.heap ∧ s'.os = s₁.os ∧ AllBare s'.gens) s₁ := by
  -- H tracks nothing, or the script alone
  have core : ∀ H : Hp, SqL K H a (ns.map V.int) → HOk P w H s₁.heap → (∀ b u, H b = some u → b = a ∧ K.lookup a = none ∧ ∃ ob xs, u = .frz ob (.lst xs)) →
      codeAny (model P w) callerA (.call (.ref fa) ⟨[.ref a], []⟩) (fun r s' => r = .ok (.ret (.bool true)) ∧ OldK s₁.heap s'.heap ∧ s'.os = s₁.os ∧ AllBare s'.gens) s₁ := by
    intro H hS hok only
    have inK : K.In (hidT s₁.heap H) := by
      intro b o e
      cases q : H b with
      | none => exact hidT_get (KX b o e) q
      | some u =>
        obtain ⟨rfl, hn, _⟩ := only b u q
        rw [hn] at e; cases e
    have nsOff : ∀ {b : Addr} {m : Str → Option Value}, s₁.heap.Ns b m → (hidT s₁.heap H).Ns b m := by
      rintro b m ⟨o, es, ep, e, d, r⟩
      refine ⟨o, es, ep, hidT_get e ?_, d, r⟩
      cases q : H b with
      | none => rfl
      | some u =>
        obtain ⟨rfl, _, _⟩ := only b u q
        rw [ha] at e; cases e; cases (show Data.seq vs.toArray _ = Data.dict es ep from d)
    obtain ⟨mc, lim1, lim2⟩ := hlim
    have e0 : Env0 P w K mg (hidT s₁.heap H) callerA [] s₁ H :=
      { frames := rfl, mod := ⟨inK, nsOff hns, ⟨mb, nsOff hb, hbb⟩, ⟨mc, nsOff lim1, lim2⟩⟩, bs := fun b o e => of_hidT e, bsz := Nat.le_of_eq (hidT_size _ _), funs := trivial,
        frf := fun b hm => (List.not_mem_nil hm).elim, hok := hok, bare := .of_eq hg }
    refine codeAny_mono ((F _ inK (nsOff hns)).go (us := [.ref a]) (vs := [.ref a]) ⟨hr, rfl⟩ e0 (hbind s₁ (.ref a)) (.cons rfl .nil) (hsp H hS)) ?_
    intro res s2 z
    match res, z with
    | .error _, z => exact z.elim
    | .ok (.ret u), z =>
      obtain ⟨v, H', os, bare, un, hok', rv, q⟩ := z
      cases (show v = .bl true from q)
      cases (show u = Value.bool true from rv)
      refine ⟨rfl, OldK.of_keep ?_, os, bare⟩
      intro b o e
      cases q2 : H b with
      | none => exact un.keep b o e q2 (fun hm => (List.not_mem_nil hm).elim) (fun hm => (List.not_mem_nil hm).elim)
      | some u =>
        obtain ⟨_, _, ob, xs, eu⟩ := only b u q2
        subst eu
        have h1 := (hok b _ q2).1
        have h2 := (hok' b _ (un.frzs b ob _ q2)).1
        rw [e] at h1; cases h1
        exact h2
  cases hk : K.lookup a with
  | some o =>
    have e := KX a o hk
    rw [ha] at e
    cases e
    refine core (fun _ => none) (.inr ⟨_, vs.toArray, _, hk, rfl, rfl, rfl, ?_, by simpa using vals_ints hi⟩) (fun b u z => ?_) fun b u z => ?_
    · rw [List.size_toArray, hi.length]; exact hl
    · cases (show (none : Option HO) = some u from z)
    · cases (show (none : Option HO) = some u from z)
  | none =>
    have sol : ∀ {b : Addr} {u : HO}, (if b = a then some (HO.frz { cls := .type "list", data := .seq vs.toArray } (.lst (ns.map V.int))) else none) = some u → b = a ∧ u = HO.frz { cls := .type "list", data := .seq vs.toArray } (.lst (ns.map V.int)) := by
      intro b u z
      by_cases hb : b = a
      · rw [if_pos hb] at z; exact ⟨hb, (Option.some.inj z).symm⟩
      · rw [if_neg hb] at z; cases z
    refine core (fun b => if b = a then some (.frz { cls := .type "list", data := .seq vs.toArray } (.lst (ns.map V.int))) else none) (.inl (.inr ⟨_, if_pos rfl⟩)) (fun b u z => ?_) fun b u z => ?_
    · obtain ⟨rfl, rfl⟩ := sol z
      exact ⟨ha, by rw [List.length_map]; exact hl, vs, _, vals_ints hi, ha⟩
    · obtain ⟨rfl, rfl⟩ := sol z
      exact ⟨rfl, hk, _, _, rfl⟩
/-- what the head leaves, from the law's promise -/
theorem walkG {l : PySem.W.OpenLaw} {n k : Nat} {q : Program} {loose : List Str} {XP : (Str → Option Value) → Heap → Prop} {YP : World → Heap → Prop} {d : DefRec} {K : Params → PySem.W.Frag} {sp : World → Sp} {x : Str} (hn : l.most = some n) (hn2 : n ≤ sizeLine) (hdf : d.params.defaults = []) (hr : Room k callerA)
    (hY : ∀ (w : World) (h : Heap), YP w h → (K w.params).In h) (hsp : ∀ (w : World) (H : Hp) (a : Addr) (ns : List Int), ns.length ≤ n → SqL (K w.params) H a (ns.map V.int) → sp w [.ref a] H (fun v _ => v = .bl true) fun _ _ _ => False)
    (F : ∀ (w : World) (mg : Str → Option Value) (fa : Addr) (h : Heap), (K w.params).In h → h.Ns mainGlobals mg → mg d.name = some (.ref fa) →
      ∃ fd : FuncData, (∀ (s : Shared) (u : Value), BindsTo s fd ⟨[u], []⟩ [(x, u)]) ∧ ∀ base : Heap, (K w.params).In base → base.Ns mainGlobals mg → FnG l.prog w (K w.params) mg base CX0 k fa fd [x] (sp w)) :
    PySem.W.WalkO q loose XP YP l.row.toRowW d [] (fun f vs => PySem.call f vs) := by
  apply Att.attach_call hn hdf
  intro w s₀ s₁ mg mb fa o pm cd doc a vs ns G Y ho hd hcd hmg hobj hints hlen hg
  obtain ⟨fd, hb, hF⟩ := F w mg fa s₁.heap (hY w _ Y) G.T.g hmg
  exact law_callG (hY w _ Y) G.T.g G.T.b G.T.builtins G.T.nolimit hg hobj hints (Nat.le_trans hlen hn2) hr hF hb fun H hS => hsp w H a ns hlen hS
end L3
/-! L3h: statements in a row, dicts written -/
namespace L3
open PySem L2
section
variable {K : PySem.W.Frag} {m m' m2 : List Addr} {B B' B2 H H' H2 : Hp} {l : List O} {σ : St} {ρ : List (Option D)} {R R' : D → List O → Prop} {E E' : E3} {ta tb te tc tl : TE} {tt tu : TT} {t u v w : TS} {ty tz : TA} {g : TG} {gs : TGs}
theorem xs_set {i : Nat} (h : EvS K te ρ l fun d l1 => ExS K u (ρ.set i (some d)) l1 E) : ExS K (tSeq (tAsg te (gName i)) u) ρ l E := x_seq (x_asg (h.imp fun d l1 z => g_name z))
theorem xs_asg (h : EvS K te ρ l fun d l1 => AsS K g d ρ l1 fun ρ2 l2 => ExS K u ρ2 l2 E) : ExS K (tSeq (tAsg te g) u) ρ l E := x_seq (x_asg h)
theorem x_set {i : Nat} (h : EvS K te ρ l fun d l1 => E.nx (ρ.set i (some d)) l1) : ExS K (tAsg te (gName i)) ρ l E := x_asg (h.imp fun d l1 z => g_name z)
theorem xs_drop (h : EvS K te ρ l fun _ l1 => ExS K u ρ l1 E) : ExS K (tSeq (tDrop te) u) ρ l E := x_seq (x_drop h)
theorem xs_next (h : ExS K u ρ l E) : ExS K (tSeq tNext u) ρ l E := x_seq (x_next h)
theorem xs_ret (h : EvS K te ρ l E.rt) : ExS K (tSeq (tRet te) u) ρ l E := x_seq (x_ret h)
theorem xs_seq (h : ExS K (tSeq t (tSeq u v)) ρ l E) : ExS K (tSeq (tSeq t u) v) ρ l E := fun m B H σ S e Dn F => h m B H σ S e Dn F
theorem xs_if (h : EvT K tt ρ l fun b l1 => if b = true then ExS K (tSeq t v) ρ l1 E else ExS K (tSeq u v) ρ l1 E) : ExS K (tSeq (tIfS tt t u) v) ρ l E := fun m B H σ S e Dn F => by
  refine h m B H σ S e _ fun m1 B1 H1 b l1 s1 S1 h1 => ?_
  cases b with
  | true => exact h1 m1 B1 H1 σ S1 (e.step s1) Dn (F.step s1)
  | false => exact h1 m1 B1 H1 σ S1 (e.step s1) Dn (F.step s1)
theorem o_ipI {f : Int → Int → Int} {i j : Int} (z : R (.f (.int (f i j))) l) : OpS K (ipI f) (.f (.int i)) (.f (.int j)) l R := fun m B H vx vy S r1 r2 Q q => ⟨i, j, int_of r1, int_of r2, retF S q (FR.int _) z⟩
/-- FOR over a list or tuple of data, then u -/
theorem xs_forQ (h : EvS K tl ρ l fun x l1 => ∃ ds, IsQ l1 x ds ∧ ∃ I : Nat → List (Option D) → List O → Prop, I 0 ρ l1 ∧ (∀ i ρ' l', i ≤ ds.length → I i ρ' l' → IsQ l' x ds) ∧
      (∀ i d ρ' l', ds[i]? = some d → I i ρ' l' → AsS K g (.f d) ρ' l' fun ρ2 l2 => ExS K t ρ2 l2 ⟨I (i + 1), E.rt, fun ρ3 l3 => ExS K u ρ3 l3 E, I (i + 1)⟩) ∧ ∀ ρ' l', I ds.length ρ' l' → ExS K u ρ' l' E) : ExS K (tSeq (tFor (iSeq K tl) g t) u) ρ l E :=
  x_seq (x_forQ h)
theorem xs_forR (h : EvA K ty ρ l fun ds l1 => ∃ j : Int, ds = [.f (.int j)] ∧ -(2 ^ 62) ≤ j ∧ j < 2 ^ 62 ∧ ∃ I : Nat → List (Option D) → List O → Prop, I 0 ρ l1 ∧
      (∀ (i : Nat) ρ' l', i < j.toNat → I i ρ' l' → AsS K g (.f (.int i)) ρ' l' fun ρ2 l2 => ExS K t ρ2 l2 ⟨I (i + 1), E.rt, fun ρ3 l3 => ExS K u ρ3 l3 E, I (i + 1)⟩) ∧ ∀ ρ' l', I j.toNat ρ' l' → ExS K u ρ' l' E) : ExS K (tSeq (tFor (iRng1 ty) g t) u) ρ l E :=
  x_seq (x_forR h)
theorem xs_while (I : List (Option D) → List O → Prop) (μ : List (Option D) → List O → Nat) (h0 : I ρ l)
    (hs : ∀ ρ' l', I ρ' l' → EvT K tt ρ' l' fun b l1 => if b = true then ExS K t ρ' l1 ⟨fun ρ2 l2 => I ρ2 l2 ∧ μ ρ2 l2 < μ ρ' l', E.rt, fun ρ3 l3 => ExS K u ρ3 l3 E, fun ρ2 l2 => I ρ2 l2 ∧ μ ρ2 l2 < μ ρ' l'⟩ else ExS K u ρ' l1 E) : ExS K (tSeq (tWhile tt t) u) ρ l E :=
  x_seq (x_while I μ h0 hs)
/-- if test: .. return: the rest stands once -/
theorem xs_gate (h1 : EvT K tt ρ l fun b l1 => if b = true then ExS K t ρ l1 ⟨fun _ _ => False, E.rt, E.bk, E.ct⟩ else l1 = l) (h2 : ExS K u ρ l E) : ExS K (tSeq (tIfS tt t tNext) u) ρ l E :=
  x_seq (x_if (h1.imp fun b l1 z => by
    cases b with
    | true => exact ExS.imp z (fun _ _ q => q.elim) (fun _ _ q => q) (fun _ _ q => q) fun _ _ q => q
    | false =>
      have e : l1 = l := z
      subst e
      exact x_next h2))
/-- what holds between two statements -/
theorem xs_mid (M : List (Option D) → List O → Prop) (h1 : ExS K t ρ l ⟨M, E.rt, E.bk, E.ct⟩) (h2 : ∀ ρ' l', M ρ' l' → ExS K u ρ' l' E) : ExS K (tSeq t u) ρ l E :=
  x_seq (h1.imp h2 (fun _ _ z => z) (fun _ _ z => z) fun _ _ z => z)
theorem b_both {b : Bool} {A A' : Prop} (h1 : b = true → A) (h2 : b = false → A') : if b = true then A else A' := by
  cases b with
  | true => exact h1 rfl
  | false => exact h2 rfl
theorem d_both {c : Prop} [Decidable c] {A A' : Prop} (h1 : c → A) (h2 : ¬ c → A') : if decide c = true then A else A' := by
  by_cases h : c
  · rw [decide_eq_true h]; exact h1 h
  · rw [decide_eq_false h]; exact h2 h
theorem nd_both {c : Prop} [Decidable c] {A A' : Prop} (h1 : ¬ c → A) (h2 : c → A') : if (!decide c) = true then A else A' := by
  by_cases h : c
  · rw [decide_eq_true h]; exact h2 h
  · rw [decide_eq_false h]; exact h1 h
/-! dicts -/
def putD {κ : Type} [DecidableEq κ] (kvs : List (κ × PyData)) (k : κ) (v : PyData) : List (κ × PyData) :=
  if (kvs.any fun kv => decide (kv.1 = k)) = true then kvs.map (fun kv => if kv.1 = k then (kv.1, v) else kv) else kvs ++ [(k, v)]
theorem put_any {κ : Type} [DecidableEq κ] {ks : List (κ × V)} {kvs : List (κ × PyData)} (h : Paired (fun (p : κ × V) (q : κ × PyData) => p.1 = q.1 ∧ FR K B p.2 q.2) ks kvs) (k : κ) :
    (ks.any fun kv => decide (kv.1 = k)) = kvs.any fun kv => decide (kv.1 = k) := by
  induction h with
  | nil => rfl
  | cons h t ih => rw [List.any_cons, List.any_cons, ih, h.1]
theorem put_map {κ : Type} [DecidableEq κ] (k : κ) {x : V} {d : PyData} (r : FR K B x d) : ∀ {ps : List (κ × V)} {qs : List (κ × PyData)}, Paired (fun (p : κ × V) (q : κ × PyData) => p.1 = q.1 ∧ FR K B p.2 q.2) ps qs →
    Paired (fun (p : κ × V) (q : κ × PyData) => p.1 = q.1 ∧ FR K B p.2 q.2) (ps.map fun kv => if kv.1 = k then (kv.1, x) else kv) (qs.map fun kv => if kv.1 = k then (kv.1, d) else kv)
  | _, _, .nil => .nil
  | _, _, @Paired.cons _ _ _ p q _ _ h t => by
    refine .cons ?_ (put_map k r t)
    by_cases e : p.1 = k
    · have e' : q.1 = k := h.1.symm.trans e
      simp only [e, e', if_true]
      exact ⟨trivial, r⟩
    · have e' : ¬ q.1 = k := fun z => e (h.1.trans z)
      simp only [e, e', if_false]
      exact h
theorem put_app {κ : Type} {k : κ} {x : V} {d : PyData} (r : FR K B x d) : ∀ {ps : List (κ × V)} {qs : List (κ × PyData)}, Paired (fun (p : κ × V) (q : κ × PyData) => p.1 = q.1 ∧ FR K B p.2 q.2) ps qs → Paired (fun (p : κ × V) (q : κ × PyData) => p.1 = q.1 ∧ FR K B p.2 q.2) (ps ++ [(k, x)]) (qs ++ [(k, d)])
  | _, _, .nil => .cons ⟨rfl, r⟩ .nil
  | _, _, .cons h t => .cons h (put_app r t)
theorem put_of {κ : Type} [DecidableEq κ] {ks : List (κ × V)} {kvs : List (κ × PyData)} (h : Paired (fun (p : κ × V) (q : κ × PyData) => p.1 = q.1 ∧ FR K B p.2 q.2) ks kvs) (k : κ) {x : V} {d : PyData} (r : FR K B x d) :
    Paired (fun (p : κ × V) (q : κ × PyData) => p.1 = q.1 ∧ FR K B p.2 q.2) (putK ks k x) (putD kvs k d) := by
  unfold putK putD
  rw [put_any h k]
  split
  · exact put_map k r h
  · exact put_app r h
/-- d[k] = v, k an int or a text -/
theorem x_dput (h : EvS K tc ρ l fun x l1 => EvS K ta ρ l1 fun o l2 => EvS K tb ρ l2 fun y l3 => ∃ n kvs k d, x = .f d ∧ o = .own n ∧ y = .f (keyD k) ∧ l3[n]? = some (.dct kvs) ∧ kvs.length ≤ 100000 ∧ E.nx ρ (l3.set n (.dct (putD kvs k d)))) : ExS K (sDPut ta tb tc) ρ l E := fun m B H σ S e Dn F => by
  refine h m B H σ S e _ fun vx m1 B1 H1 x l1 s1 S1 r1 z1 => ?_
  refine z1 m1 B1 H1 σ S1 (e.step s1) _ fun vo m2 B2 H2 o l2 s2 S2 r2 z2 => ?_
  refine z2 m2 B2 H2 σ S2 (e.step (s1.trans s2)) _ fun vy m3 B3 H3 y l3 s3 S3 r3 ⟨n, kvs, k, d, ex, eo, ey, hn, hl, z3⟩ => ?_
  subst ex eo ey
  have r1' : FR K B3 vx d := r1.step (s2.trans s3)
  obtain ⟨a, rfl, ha⟩ := r2.step s3
  obtain ⟨⟨ks, e1, pr⟩, hb⟩ := S3.obj n a _ ha hn
  have pr' := put_of pr k r1'
  obtain ⟨S4, s4⟩ := S3.write (u := .dK (putK ks k vx)) (o := .dct (putD kvs k d)) ha (hb (by simp)) ⟨_, upd_same, pr'⟩
  refine ⟨a, upd H3 a (.dK (putK ks k vx)), rfl, ?_, F.nx _ _ _ _ _ _ (((s1.trans s2).trans s3).trans s4) S4 (e.step (((s1.trans s2).trans s3).trans s4)) z3⟩
  rw [kv_of (k := k) r3]
  exact DPut.k e1 (small' (by rw [pr.length]; exact hl))
theorem xs_dput (h : EvS K tc ρ l fun x l1 => EvS K ta ρ l1 fun o l2 => EvS K tb ρ l2 fun y l3 => ∃ n kvs k d, x = .f d ∧ o = .own n ∧ y = .f (keyD k) ∧ l3[n]? = some (.dct kvs) ∧ kvs.length ≤ 100000 ∧ ExS K u ρ (l3.set n (.dct (putD kvs k d))) E) : ExS K (tSeq (sDPut ta tb tc) u) ρ l E := x_seq (x_dput h)
theorem pairs_set {vs : List V} {ds : List D} {v : V} {d : D} (j : Nat) (hv : VR K m B v d) (h : Paired (VR K m B) vs ds) : Paired (VR K m B) (vs.set j v) (ds.set j d) := by
  induction h generalizing j with
  | nil => exact .nil
  | cons h t ih =>
    cases j with
    | zero => exact .cons hv t
    | succ j => exact .cons h (ih j)
/-- .. with references -/
theorem g_setR {d : D} {R : List (Option D) → List O → Prop} (h : EvS K ta ρ l fun o l1 => EvS K tb ρ l1 fun y l2 => ∃ n ds i j, o = .own n ∧ y = .f (.int i) ∧ l2[n]? = some (.rfs ds) ∧ ixN ds.length i = some j ∧ R ρ (l2.set n (.rfs (ds.set j d)))) : AsS K (gSub ta tb rSetL) d ρ l R := fun m B H σ v S e hv Q q => by
  refine h m B H σ S e _ fun vo m1 B1 H1 o l1 s1 S1 r1 z1 => ?_
  refine z1 m1 B1 H1 σ S1 (e.step s1) _ fun vy m2 B2 H2 y l2 s2 S2 r2 ⟨n, ds, i, j, eo, ey, hn, hj, z2⟩ => ?_
  subst eo ey
  obtain ⟨a, rfl, ha⟩ := r1.step s2
  obtain ⟨⟨xs, e1, pr⟩, hb⟩ := S2.obj n a _ ha hn
  have hv' := hv.step (s1.trans s2)
  obtain ⟨S4, s4⟩ := S2.write (u := .lst (xs.set j v)) (o := .rfs (ds.set j d)) ha (hb (by simp)) ⟨_, upd_same, pairs_set j hv' pr⟩
  exact ⟨a, xs, i, j, rfl, int_of r2, e1, by rw [pair_len pr]; exact hj, q _ _ _ _ _ _ ((s1.trans s2).trans s4) S4 (e.step ((s1.trans s2).trans s4)) z2⟩
end
end L3
/-! L3i: plain laws of the data: dicts, encodings -/
namespace L3
open PySem L2
section
variable {κ : Type} [DecidableEq κ]
theorem lookD_nil (k : κ) : lookD ([] : List (κ × PyData)) k = none := rfl
theorem lookD_cons (p : κ × PyData) (r : List (κ × PyData)) (k : κ) : lookD (p :: r) k = if p.1 = k then some p.2 else lookD r k := by
  unfold lookD
  rw [List.find?_cons]
  by_cases h : p.1 = k
  · rw [decide_eq_true h, if_pos h]; rfl
  · rw [decide_eq_false h, if_neg h]
theorem lookD_any (r : List (κ × PyData)) (k : κ) : (r.any fun kv => decide (kv.1 = k)) = (lookD r k).isSome := by
  induction r with
  | nil => rfl
  | cons p r ih =>
    rw [List.any_cons, lookD_cons, ih]
    by_cases h : p.1 = k
    · rw [decide_eq_true h, if_pos h]; rfl
    · rw [decide_eq_false h, if_neg h]; rfl
theorem lookD_app (r : List (κ × PyData)) (p : κ × PyData) (k : κ) : lookD (r ++ [p]) k = match lookD r k with | some d => some d | none => if p.1 = k then some p.2 else none := by
  induction r with
  | nil => rw [List.nil_append, lookD_cons]; rfl
  | cons q r ih =>
    rw [List.cons_append, lookD_cons, lookD_cons, ih]
    by_cases h : q.1 = k
    · rw [if_pos h, if_pos h]
    · rw [if_neg h, if_neg h]
theorem lookD_map (r : List (κ × PyData)) (k k' : κ) (d : PyData) : lookD (r.map fun kv => if kv.1 = k then (kv.1, d) else kv) k' = if k = k' then (lookD r k').map fun _ => d else lookD r k' := by
  induction r with
  | nil => simp [lookD_nil]
  | cons q r ih =>
    rw [List.map_cons, lookD_cons, ih]
    by_cases h : q.1 = k
    · rw [if_pos h]
      by_cases h2 : k = k'
      · have h3 : q.1 = k' := h.trans h2
        simp [lookD_cons, h2, h3]
      · have h3 : ¬ q.1 = k' := fun z => h2 (h.symm.trans z)
        simp [lookD_cons, h2, h3]
    · rw [if_neg h]
      by_cases h2 : k = k'
      · have h3 : ¬ q.1 = k' := fun z => h (z.trans h2.symm)
        simp [lookD_cons, h2, h3]
      · simp [lookD_cons, h2]
theorem lookD_put (r : List (κ × PyData)) (k k' : κ) (d : PyData) : lookD (putD r k d) k' = if k = k' then some d else lookD r k' := by
  unfold putD
  rw [lookD_any]
  by_cases h : (lookD r k).isSome = true
  · rw [if_pos h, lookD_map]
    by_cases h2 : k = k'
    · subst h2
      rw [if_pos rfl, if_pos rfl]
      cases e : lookD r k with
      | none => rw [e] at h; cases h
      | some x => rfl
    · rw [if_neg h2, if_neg h2]
  · rw [if_neg h, lookD_app]
    have hn : lookD r k = none := by simpa using h
    by_cases h2 : k = k'
    · subst h2
      rw [hn, if_pos rfl]
    · cases e : lookD r k' with
      | none => simp [h2]
      | some x => simp [h2]
theorem putD_len (r : List (κ × PyData)) (k : κ) (d : PyData) : (putD r k d).length ≤ r.length + 1 := by
  unfold putD
  split
  · rw [List.length_map]; omega
  · rw [List.length_append]; simp
end
/-! encodings -/
def pPy (es : List (Str × Str)) : List PyData := es.map fun e => .tuple [.str e.1, .str e.2]
theorem map_get {α β : Type} {f : α → β} {xs : List α} {i : Nat} {d : β} (h : (xs.map f)[i]? = some d) : ∃ x, xs[i]? = some x ∧ d = f x := by
  rw [List.getElem?_map] at h
  cases e : xs[i]? with
  | none => rw [e] at h; cases h
  | some x => rw [e] at h; exact ⟨x, rfl, (Option.some.inj h).symm⟩
theorem sPy_get {xs : List Str} {i : Nat} {d : PyData} (h : (sPy xs)[i]? = some d) : ∃ x, xs[i]? = some x ∧ d = .str x := map_get h
theorem pPy_get {xs : List (Str × Str)} {i : Nat} {d : PyData} (h : (pPy xs)[i]? = some d) : ∃ x, xs[i]? = some x ∧ d = .tuple [.str x.1, .str x.2] := map_get h
theorem sPy_mem {xs : List Str} {d : PyData} (h : d ∈ sPy xs) : ∃ x, x ∈ xs ∧ d = .str x := by
  obtain ⟨x, h1, h2⟩ := List.mem_map.mp h
  exact ⟨x, h1, h2.symm⟩
theorem sPy_len (xs : List Str) : (sPy xs).length = xs.length := List.length_map ..
theorem pPy_len (xs : List (Str × Str)) : (pPy xs).length = xs.length := List.length_map ..
def strF (p : Str → Bool) : PyData → Option PyData
  | .str x => if p x = true then some (.str x) else none
  | _ => none
theorem sPy_filter (f : Str → Bool) (xs : List Str) : (sPy xs).filterMap (strF f) = sPy (xs.filter f) := by
  induction xs with
  | nil => rfl
  | cons x xs ih =>
    show (PyData.str x :: sPy xs).filterMap _ = _
    rw [List.filterMap_cons, List.filter_cons, ih]
    cases h : f x <;> simp [strF, h, sPy]
end L3
/-! L3j: the pen of a law, and what is drawn -/
namespace L3
open PySem L2
/-- the pen: the script, the place, the digits left -/
def penO (s : List Int) (at_ dg : Int) : O := .rfs [.sq s, .f (.int at_), .f (.int dg)]
structure IsPen (o : O) : Prop where
  ex : ∃ s at_ dg, o = penO s at_ dg ∧ s.length ≤ 63 ∧ 0 ≤ at_ ∧ 0 ≤ dg
theorem IsPen.under {o : O} {k : Nat} (h : IsPen o) : o.under k := by
  obtain ⟨s, a, b, rfl, _⟩ := h.ex
  intro d hd
  simp only [List.mem_cons, List.not_mem_nil, or_false] at hd
  rcases hd with rfl | rfl | rfl <;> trivial
theorem IsPen.free {o : O} (h : IsPen o) : o.free := by
  obtain ⟨s, a, b, rfl, _⟩ := h.ex
  trivial
theorem IsPen.shift1 {o : O} (h : IsPen o) (i k : Nat) : o.shift1 i k = o := by
  obtain ⟨s, a, b, rfl, _⟩ := h.ex
  rfl
def S_pen : Spec3 := fun ds g R => ∃ s, ds = [.sq s] ∧ g = [] ∧ s.length ≤ 63 ∧ ∀ o, IsPen o → R (.own 0) [o]
def S_draw : Spec3 := fun ds g R => ∃ o most, ds = [.own 0, .f (.int most)] ∧ g = [o] ∧ IsPen o ∧ 0 < most ∧ most < 1000000000000000000000000 ∧ ∀ r o', 0 ≤ r → r < most → IsPen o' → R (.f (.int r)) [o']
theorem at_mod {s : List Int} {i : Int} (h : 0 < (s.length : Int)) : ∃ k, atI s (i % (s.length : Int)) = some k := by
  have h1 := Int.emod_nonneg i (Int.ne_of_gt h)
  have h2 := Int.emod_lt_of_pos i h
  obtain ⟨j, hj⟩ := Int.eq_ofNat_of_zero_le h1
  have hl : j < s.length := by omega
  refine ⟨s[j], ?_⟩
  rw [hj]
  exact atI_nat (by simp [hl])
section
variable {K : PySem.W.Frag} {l : List O} {ρ : List (Option D)} {R : D → List O → Prop} {ty : TA}
theorem e_draw (i : Nat) {X : XK} (h : EvA K ty ρ l fun ds l1 => ∃ most o, ds = [.own i, .f (.int most)] ∧ l1[i]? = some o ∧ IsPen o ∧ 0 < most ∧ most < 1000000000000000000000000 ∧ ∀ r o', 0 ≤ r → r < most → IsPen o' → R (.f (.int r)) (l1.set i o')) :
    EvS K (tCall (P3 K S_draw) [] X ty) ρ l R := e_call1 i fun m B H σ S e Q q => h m B H σ S e Q fun vs m' B' H' ds l' s S' r z => q vs m' B' H' ds l' s S' r (by
  obtain ⟨most, o, rfl, ho, hp, h1, h2, z⟩ := z
  refine ⟨o, [.own 0, .f (.int most)], ho, hp.free, by simp [backs], o, most, rfl, rfl, hp, h1, h2, fun r o' h3 h4 h5 => ⟨o', [], rfl, ?_⟩⟩
  rw [h5.shift1]
  have w := z r o' h3 h4 h5
  rw [List.map_nil, List.append_nil]
  exact w)
end
end L3
/-! L3k: texts of small letters -/
namespace L3
open PySem L2
def cs (x : Str) : List Nat := x.cps.toList
theorem cs_app (x y : Str) : cs (x ++ y) = cs x ++ cs y := TL.tl_append x y
theorem cs_len (x : Str) : (cs x).length = x.length := by simp [cs, Str.length]
theorem cs_ext {x y : Str} (h : cs x = cs y) : x = y := Str.ext' (Array.toList_inj.mp h)
theorem len_app (x y : Str) : (x ++ y).length = x.length + y.length := by rw [← cs_len, cs_app, List.length_append, cs_len, cs_len]
def Low (x : Str) : Prop := ∀ c ∈ cs x, 97 ≤ c ∧ c ≤ 122
instance lowDec (x : Str) : Decidable (Low x) := inferInstanceAs (Decidable (∀ c ∈ cs x, 97 ≤ c ∧ c ≤ 122))
theorem Low.app {x y : Str} (h1 : Low x) (h2 : Low y) : Low (x ++ y) := fun c h => by
  rw [cs_app] at h
  rcases List.mem_append.mp h with h | h
  · exact h1 c h
  · exact h2 c h
theorem cs_cut (x : Str) (lo hi : Option Int) : cs (cutS x lo hi) = ((cs x).drop (HT.sIx x.length 0 lo)).take (HT.sIx x.length x.length hi - HT.sIx x.length 0 lo) := by
  show (List.toArray _).toList = _
  rfl
theorem Low.cut {x : Str} (h : Low x) (lo hi : Option Int) : Low (cutS x lo hi) := fun c hc => by
  rw [cs_cut] at hc
  exact h c (List.mem_of_mem_drop (List.mem_of_mem_take hc))
theorem cut_len (x : Str) (lo hi : Option Int) : (cutS x lo hi).length ≤ x.length := cutS_length x lo hi
theorem Low.one {c : Nat} (h1 : 97 ≤ c) (h2 : c ≤ 122) : Low ⟨#[c]⟩ := fun d hd => by
  have e : d = c := by simpa [cs] using hd
  subst e; exact ⟨h1, h2⟩
theorem one_len (c : Nat) : (⟨#[c]⟩ : Str).length = 1 := rfl
theorem Low.ok {x : Str} (h : Low x) : PyData.strOk x = true := by
  unfold PyData.strOk
  rw [Array.all_eq_true']
  intro c hc
  have := h c (by simpa [cs] using hc)
  exact decide_eq_true (by omega)
def lets : Str := "abcdefghijklmnopqrstuvwxyz"
theorem lets_len : lets.length = 26 := by decide +kernel
theorem lets_all : ∀ j : Fin 26, (cs lets)[j.val]? = some (97 + j.val) := by decide +kernel
theorem lets_at {r : Int} (h0 : 0 ≤ r) (h1 : r < 26) : atI lets.cps.toList r = some (97 + r.toNat) := by
  obtain ⟨j, rfl⟩ := Int.eq_ofNat_of_zero_le h0
  exact atI_nat (lets_all ⟨j, by omega⟩)
theorem join_cons (x y : Str) (r : List Str) : Txt.join "" (x :: y :: r) = x ++ Str.ofString "" ++ Txt.join "" (y :: r) := by
  rw [TL.join_eq, TL.join_eq]; rfl
theorem join_one (x : Str) : Txt.join "" [x] = x := by rw [TL.join_eq]; rfl
theorem cs_join : ∀ ys : List Str, cs (Txt.join "" ys) = (ys.map cs).flatten
  | [] => by rfl
  | [x] => by
    rw [join_one]; simp
  | x :: y :: r => by
    rw [join_cons, cs_app, cs_app, cs_join (y :: r)]
    have e : cs (Str.ofString "") = [] := by decide +kernel
    rw [e]
    simp
theorem Low.join {ys : List Str} (h : ∀ y ∈ ys, Low y) : Low (Txt.join "" ys) := fun c hc => by
  rw [cs_join] at hc
  obtain ⟨l, hl, hc⟩ := List.mem_flatten.mp hc
  obtain ⟨y, hy, rfl⟩ := List.mem_map.mp hl
  exact h y hy c hc
theorem join_len (ys : List Str) (k : Nat) (h : ∀ y ∈ ys, y.length = k) : (Txt.join "" ys).length = k * ys.length := by
  rw [← cs_len, cs_join]
  induction ys with
  | nil => rfl
  | cons y r ih =>
    rw [List.map_cons, List.flatten_cons, List.length_append, ih fun z hz => h z (List.mem_cons_of_mem _ hz), cs_len, h y List.mem_cons_self, List.length_cons, Nat.mul_add]
    omega
theorem sum_len (ys : List Str) (k : Nat) (h : ∀ y ∈ ys, y.length = k) : (ys.map (·.length)).sum = k * ys.length := by
  induction ys with
  | nil => rfl
  | cons y r ih =>
    rw [List.map_cons, List.sum_cons, ih fun z hz => h z (List.mem_cons_of_mem _ hz), h y List.mem_cons_self, List.length_cons, Nat.mul_add]
    omega
theorem sPy_app (xs ys : List Str) : sPy (xs ++ ys) = sPy xs ++ sPy ys := List.map_append ..
theorem pPy_app (xs ys : List (Str × Str)) : pPy (xs ++ ys) = pPy xs ++ pPy ys := List.map_append ..
end L3
/-! L3l: comprehensions whose items are told by what holds of them -/
namespace L3
open PySem L2
section
variable {K : PySem.W.Frag} {l : List O} {ρ : List (Option D)} {R : D → List O → Prop} {te tl : TE} {tt : TT} {ty : TA} {g : TG}
/-- over a range; the store stays -/
theorem e_lcRp {vs : List Nat} (G : Nat → PyData → Prop) (hg : GG g vs) (h : EvA K ty ρ l fun ds l1 => ∃ j : Int, ds = [.f (.int j)] ∧ -(2 ^ 62) ≤ j ∧ j ≤ 100000 ∧
      (∀ i : Nat, i < j.toNat → AsS K g (.f (.int i)) (wipe3 ρ vs) l1 fun ρ2 l2 => EvT K tt ρ2 l2 fun b l3 => b = true ∧ EvS K te ρ2 l3 fun d l4 => ∃ y, d = .f y ∧ G i y ∧ l4 = l1) ∧
      ∀ acc, acc.length = j.toNat → (∀ (i : Nat) d, acc[i]? = some d → G i d) → R (.own l1.length) (l1 ++ [.lst acc])) : EvS K (tLc (iRng1 ty) g tt te vs) ρ l R :=
  e_lcR hg fun m B H σ S e Q q => h m B H σ S e Q fun us m' B' H' ds l' s S' r ⟨j, e1, e2, e3, hs, hd⟩ => q us m' B' H' ds l' s S' r ⟨j, e1, e2, by omega, fun i acc l2 => l2 = l' ∧ acc.length = i ∧ ∀ (k : Nat) d, acc[k]? = some d → G k d, ⟨rfl, rfl, fun _ _ h => by simp at h⟩,
    fun i acc l2 hi ⟨_, z, _⟩ => by omega,
    fun i acc l2 hi ⟨e4, e5, e6⟩ => by
      subst e4
      intro m B H σ v S e hv Q q
      refine hs i hi m B H σ v S e hv Q fun σ' ρ' m' B' H' l3 s S' e' z => q σ' ρ' m' B' H' l3 s S' e' (z.imp fun b l4 ⟨hb, w⟩ => ?_)
      subst hb
      exact w.imp fun d l5 ⟨y, ey, hG, el⟩ => ⟨y, ey, el, by rw [List.length_append, e5]; rfl, fun k d hk => by
        by_cases hki : k < acc.length
        · rw [List.getElem?_append_left hki] at hk; exact e6 k d hk
        · have hlt := (List.getElem?_eq_some_iff.mp hk).1
          rw [List.length_append] at hlt
          have hk2 : k = acc.length := by simp at hlt; omega
          subst hk2
          rw [List.getElem?_append_right (Nat.le_refl _)] at hk
          have : y = d := by simpa using hk
          subst this
          rw [e5]; exact hG⟩,
    fun acc l2 ⟨e4, e5, e6⟩ => by subst e4; exact hd acc e5 e6⟩
/-- over a list or tuple; the store stays -/
theorem e_lcQp {vs : List Nat} (G : PyData → PyData → Prop) (hg : GG g vs) (h : EvS K tl ρ l fun x l1 => ∃ ds, IsQ l1 x ds ∧ ds.length ≤ 100000 ∧
      (∀ d, d ∈ ds → AsS K g (.f d) (wipe3 ρ vs) l1 fun ρ2 l2 => EvT K tt ρ2 l2 fun b l3 => b = true ∧ EvS K te ρ2 l3 fun z l4 => ∃ y, z = .f y ∧ G d y ∧ l4 = l1) ∧
      ∀ acc, acc.length = ds.length → (∀ (i : Nat) d y, ds[i]? = some d → acc[i]? = some y → G d y) → R (.own l1.length) (l1 ++ [.lst acc])) : EvS K (tLc (iSeq K tl) g tt te vs) ρ l R :=
  e_lcQ hg (h.imp fun x l' ⟨ds, hq, e3, hs, hd⟩ => ⟨ds, hq, fun i acc l2 => l2 = l' ∧ acc.length = i ∧ ∀ (k : Nat) d y, ds[k]? = some d → acc[k]? = some y → G d y, ⟨rfl, rfl, fun _ _ _ _ h => by simp at h⟩,
    fun i acc l2 hi ⟨z0, z, _⟩ => ⟨by subst z0; exact hq, by omega⟩,
    fun i d acc l2 hdi ⟨e4, e5, e6⟩ => by
      subst e4
      intro m B H σ v S e hv Q q
      refine hs d (List.mem_of_getElem? hdi) m B H σ v S e hv Q fun σ' ρ' m' B' H' l3 s S' e' z => q σ' ρ' m' B' H' l3 s S' e' (z.imp fun b l4 ⟨hb, w⟩ => ?_)
      subst hb
      exact w.imp fun d' l5 ⟨y, ey, hG, el⟩ => ⟨y, ey, el, by rw [List.length_append, e5]; rfl, fun k dk yk hdk hk => by
        by_cases hki : k < acc.length
        · rw [List.getElem?_append_left hki] at hk; exact e6 k dk yk hdk hk
        · have hlt := (List.getElem?_eq_some_iff.mp hk).1
          rw [List.length_append] at hlt
          have hk2 : k = acc.length := by simp at hlt; omega
          subst hk2
          rw [List.getElem?_append_right (Nat.le_refl _)] at hk
          have e7 : y = yk := by simpa using hk
          subst e7
          rw [e5] at hdk
          rw [hdi] at hdk
          cases hdk
          exact hG⟩,
    fun acc l2 ⟨e4, e5, e6⟩ => by subst e4; exact hd acc e5 e6⟩)
end
end L3
/-! L3m: an own list is left as it is from now on -/
namespace L3
open PySem L2
section
variable {K : PySem.W.Frag} {m : List Addr} {B H : Hp} {l : List O} {ρ : List (Option D)} {R : D → List O → Prop} {te : TE}
theorem SR.frz (S : SR K m B H l) {n : Nat} {a : Addr} {xs : List V} {ds : List PyData} (ha : m[n]? = some a) (hl : l[n]? = some (.lst ds)) (hH : H a = some (.lst xs)) (r : FRs K B xs ds) :
    SR K m (upd B a (.lst xs)) H (l.set n .gone) ∧ Step m B H m (upd B a (.lst xs)) H ∧ FR K (upd B a (.lst xs)) (.ref a) (.list ds) := by
  have hb : B a = none := (S.obj n a _ ha hl).2 (by simp)
  have hsame : Same B (upd B a (.lst xs)) := same_new hb
  refine ⟨⟨fun b o e => ?_, by simp [S.len], S.nd, S.live, fun j b o h1 h2 => ?_⟩, ⟨hsame, ⟨[], by simp⟩, fun _ _ h _ => h, fun _ h => h, fun b h1 h2 h3 => ?_, fun _ h => .inl h⟩, FR.lst upd_same (FRs.same hsame ds xs r)⟩
  · by_cases h : b = a
    · subst h; rw [upd_same] at e; rw [← e]; exact hH
    · rw [upd_ne h] at e; exact S.sub b o e
  · by_cases hj : n = j
    · subst hj
      have hlen : n < l.length := (List.getElem?_eq_some_iff.mp hl).1
      rw [List.getElem?_set_self hlen] at h2
      cases h2
      exact ⟨trivial, fun h => absurd rfl h.1⟩
    · rw [List.getElem?_set_ne hj] at h2
      obtain ⟨q, c⟩ := S.obj j b o h1 h2
      have ne : b ≠ a := fun z => S.ne ha h1 hj z.symm
      exact ⟨q.up hsame ⟨[], by simp⟩ fun _ e => e, fun z => by rw [upd_ne ne]; exact c z⟩
  · have ne : b ≠ a := fun z => h3 (z ▸ List.mem_of_getElem? ha)
    rw [upd_ne ne]; exact h2
/-- what comes out as an own list is data from now on -/
theorem e_frz (h : EvS K te ρ l fun d l1 => ∃ n ds, d = .own n ∧ l1[n]? = some (.lst ds) ∧ R (.f (.list ds)) (l1.set n .gone)) : EvS K te ρ l R := fun m B H σ S e Q q => by
  refine h m B H σ S e _ fun v m1 B1 H1 d l1 s1 S1 r1 ⟨n, ds, ed, hn, z⟩ => ?_
  subst ed
  obtain ⟨a, rfl, ha⟩ := r1
  obtain ⟨⟨xs, e1, r⟩, _⟩ := S1.obj n a _ ha hn
  obtain ⟨S2, s2, r2⟩ := S1.frz ha hn e1 r
  exact q (.ref a) m1 _ H1 (.f (.list ds)) _ (s1.trans s2) S2 r2 z
end
end L3
/-! L3n: small words -/
namespace L3
open PySem L2
theorem iteNT {A A' : Prop} (h : A') : if (!true) = true then A else A' := h
theorem iteNF {A A' : Prop} (h : A) : if (!false) = true then A else A' := h
theorem shape_nil : SeqAt.shaped (.list []) = true := by simp [SeqAt.shaped, PyData.canLay0, PyData.canLayAll0, PyData.depth, PyData.depthAll]
theorem IsPen.shift {o : O} (h : IsPen o) (k : Nat) : o.shift k = o := by
  obtain ⟨s, a, b, rfl, _⟩ := h.ex
  rfl
theorem isq_list {l : List O} {ds : List PyData} : IsQ l (.f (.list ds)) ds := .inl (.inl rfl)
theorem isq_tup {l : List O} {ds : List PyData} : IsQ l (.f (.tuple ds)) ds := .inr rfl
theorem isq_own {l : List O} {n : Nat} {ds : List PyData} (h : l[n]? = some (.lst ds)) : IsQ l (.own n) ds := .inl (.inr ⟨n, rfl, h⟩)
theorem isl_list {l : List O} {ds : List PyData} : IsL l (.f (.list ds)) ds := .inl rfl
theorem isl_own {l : List O} {n : Nat} {ds : List PyData} (h : l[n]? = some (.lst ds)) : IsL l (.own n) ds := .inr ⟨n, rfl, h⟩
theorem asd_f {l : List O} {d : PyData} : Asd l (.f d) d := .inl rfl
theorem asd_own {l : List O} {n : Nat} {ds : List PyData} (h : l[n]? = some (.lst ds)) : Asd l (.own n) (.list ds) := .inr ⟨n, ds, rfl, h, rfl⟩
theorem sPy_at {xs : List Str} {i : Int} (h0 : 0 ≤ i) (h1 : i < xs.length) : ∃ x, x ∈ xs ∧ atI (sPy xs) i = some (.str x) := by
  obtain ⟨j, rfl⟩ := Int.eq_ofNat_of_zero_le h0
  have hj : j < xs.length := by omega
  refine ⟨xs[j], List.getElem_mem hj, atI_nat ?_⟩
  show (xs.map PyData.str)[j]? = _
  rw [List.getElem?_map]
  simp [hj]
theorem lay_pPy : ∀ {es : List (Str × Str)}, (∀ e ∈ es, PyData.strOk e.1 = true ∧ PyData.strOk e.2 = true) → PyData.canLayAll0 (pPy es) = true
  | [], _ => by simp [pPy, PyData.canLayAll0]
  | x :: xs, h => by
    have ih := lay_pPy (es := xs) fun y hy => h y (List.mem_cons_of_mem _ hy)
    have e : pPy (x :: xs) = .tuple [.str x.1, .str x.2] :: pPy xs := rfl
    rw [e]
    simp [PyData.canLayAll0, PyData.canLay0, ih, h x List.mem_cons_self]
theorem dep_sPy : ∀ xs : List Str, PyData.depthAll (sPy xs) = 0
  | [] => by simp [sPy, PyData.depthAll]
  | x :: xs => by
    have ih := dep_sPy xs
    have e : sPy (x :: xs) = .str x :: sPy xs := rfl
    rw [e]
    simp [PyData.depthAll, PyData.depth, ih]
theorem dep_pPy : ∀ es : List (Str × Str), PyData.depthAll (pPy es) ≤ 1
  | [] => by simp [pPy, PyData.depthAll]
  | x :: xs => by
    have ih := dep_pPy xs
    have e : pPy (x :: xs) = .tuple [.str x.1, .str x.2] :: pPy xs := rfl
    rw [e]
    simp [PyData.depthAll, PyData.depth]
    omega
theorem shape_pair {a b : Str} (h1 : PyData.strOk a = true) (h2 : PyData.strOk b = true) : SeqAt.shaped (.tuple [.str a, .str b]) = true := by
  simp [SeqAt.shaped, PyData.canLayAll0, PyData.canLay0, PyData.depth, PyData.depthAll, h1, h2]
end L3
/-! L3o: dict(list of pairs), keys that are tuples, isinstance, lists with references -/
namespace L3
open PySem L2
section
variable {X : Cx}
def mergeT (kvs more : List (List Key × V)) : List (List Key × V) := more.foldl (fun acc kv => putK acc kv.1 kv.2) kvs
theorem KT.merge {H : Hp} : ∀ {more : List (List Key × V)} {rs : List (List Key × Addr × Value)} {kvs : List (List Key × V)} {vs : List (List Key × Addr × Value)}, KT H more rs → KT H kvs vs → KT H (mergeT kvs more) (storedAllH vs rs) := by
  intro more rs kvs vs r
  induction r generalizing kvs vs with
  | nil => exact fun h => h
  | @cons p q ps qs h t ih =>
    intro h2
    have e : KT H (putK kvs p.1 p.2) (storedH vs q.1 q.2.1 q.2.2) := by
      rw [← h.1]
      exact L2.KT.put h2 p.1 h.2.1 h.2.2
    exact ih e
end
section
variable {K : PySem.W.Frag} {m m' : List Addr} {B B' H H' : Hp} {l : List O} {ρ : List (Option D)} {R : D → List O → Prop} {E : E3} {te tl : TE} {tt : TT} {t u : TS} {ty : TA} {g : TG}
def mergeD {κ : Type} [DecidableEq κ] (kvs more : List (κ × PyData)) : List (κ × PyData) := more.foldl (fun acc kv => putD acc kv.1 kv.2) kvs
theorem merge_of {κ : Type} [DecidableEq κ] : ∀ {ms : List (κ × V)} {ns : List (κ × PyData)} {ks : List (κ × V)} {kvs : List (κ × PyData)},
    Paired (fun (p : κ × V) (q : κ × PyData) => p.1 = q.1 ∧ FR K B p.2 q.2) ms ns → Paired (fun (p : κ × V) (q : κ × PyData) => p.1 = q.1 ∧ FR K B p.2 q.2) ks kvs →
    Paired (fun (p : κ × V) (q : κ × PyData) => p.1 = q.1 ∧ FR K B p.2 q.2) (ms.foldl (fun acc kv => putK acc kv.1 kv.2) ks) (mergeD kvs ns)
  | _, _, _, _, .nil, h => h
  | _, _, _, _, .cons (a := p) (b := q) h t, h2 => by
    have e := put_of h2 p.1 h.2
    have := merge_of t e
    rw [List.foldl_cons]
    show Paired _ _ (mergeD (putD _ q.1 q.2) _)
    rw [← h.1]
    exact this
def prK (q : Key × PyData) : PyData := .tuple [keyD q.1, q.2]
theorem prK_of (sub : Same B H) : ∀ {prs : List (Key × PyData)} {vs : List V}, FRs K B vs (prs.map prK) →
    ∃ (ps : List Addr) (kvs : List (Key × V)), vs = ps.map V.ref ∧ Paired (fun p kv => SqT K H p [kV kv.1, kv.2]) ps kvs ∧ Paired (fun (p : Key × V) (q : Key × PyData) => p.1 = q.1 ∧ FR K B p.2 q.2) kvs prs
  | [], _, h => by cases h; exact ⟨[], [], rfl, .nil, .nil⟩
  | q :: prs, _, h => by
    cases h with
    | cons h1 h2 =>
      obtain ⟨ps, kvs, e1, e2, e3⟩ := prK_of sub (prs := prs) h2
      cases h1 with
      | @tup a xs _ t1 f1 =>
        cases f1 with
        | cons f1 f2 =>
          cases f2 with
          | cons f2 f3 =>
            cases f3
            rw [kv_of f1] at t1
            exact ⟨a :: ps, (q.1, _) :: kvs, by rw [e1]; rfl, .cons (sqT_same sub t1.sq) e2, .cons ⟨rfl, f2⟩ e3⟩
/-! isinstance -/
def tyF : PyData → String
  | .none => "NoneType"
  | .bool _ => "bool"
  | .int _ => "int"
  | .str _ => "str"
  | .list _ => "list"
  | .tuple _ => "tuple"
  | .dict [(.none, _)] => "tuple"
  | .dict _ => "dict"
def TyD (l : List O) : D → String → Prop
  | .f (.dict [(.tuple _, _)]), _ => False
  | .f d, t => t = tyF d
  | .own n, t => (∃ o, l[n]? = some o ∧ match o with | .lst _ => t = "list" | .rfs _ => t = "list" | .tpr _ => t = "tuple" | .dct _ => t = "dict" | .dctT _ => t = "dict" | _ => False)
  | .sq _, _ => False
theorem ty_of {v : V} {d : D} {t : String} (S : SR K m B H l) (r : VR K m B v d) (h : TyD l d t) : TyX K H v (.type t) := by
  cases d with
  | f d =>
    cases d with
    | none => cases (show t = _ from h); cases r; exact .base .non
    | bool b => cases (show t = _ from h); cases r; exact .base (.bl _)
    | int i => cases (show t = _ from h); cases r; exact .base (.int _)
    | str x => cases (show t = _ from h); cases r; exact .base (.str _)
    | list ds =>
      cases r with
      | lst h1 h2 => cases (show t = _ from h); exact .base (.lst (S.sub _ _ h1))
    | tuple ds =>
      cases r with
      | tup h1 h2 =>
        cases (show t = _ from h)
        rcases sqT_same S.sub h1.sq with (h3 | ⟨o, h3⟩) | ⟨o, its, n, h3, h4, _⟩
        · exact .base (.tup h3)
        · exact .fTuple h3
        · exact .kTuple h3 h4
    | dict kvs =>
      cases r with
      | plt h1 h2 =>
        cases (show t = _ from h)
        obtain ⟨o, h3, _⟩ := h1
        exact .fTuple (S.sub _ _ h3)
      | dk0 h1 => cases (show t = _ from h); exact .base (.dK (S.sub _ _ h1))
      | dk1 h1 h2 => cases (show t = _ from h); exact .base (.dK (S.sub _ _ h1))
      | dki h1 h2 => cases (show t = _ from h); exact .base (.dK (S.sub _ _ h1))
      | dkn h1 => cases (show t = _ from h); exact .base (.dK (S.sub _ _ h1))
      | exc h0 h1 h2 h3 h4 => exact h.elim
  | own n =>
    obtain ⟨o, ho, hm⟩ := h
    obtain ⟨a, rfl, ha⟩ := r
    obtain ⟨ro, _⟩ := S.obj n a _ ha ho
    cases o with
    | lst ds => cases (show t = _ from hm); obtain ⟨xs, e, _⟩ := ro; exact .base (.lst e)
    | rfs ds => cases (show t = _ from hm); obtain ⟨xs, e, _⟩ := ro; exact .base (.lst e)
    | tpr ds => cases (show t = _ from hm); obtain ⟨xs, e, _⟩ := ro; exact .base (.tup e)
    | dct ds => cases (show t = _ from hm); obtain ⟨xs, e, _⟩ := ro; exact .base (.dK e)
    | dctT ds => cases (show t = _ from hm); obtain ⟨xs, e, _⟩ := ro; exact .base (.dT e)
    | dctL od ks ds => exact hm.elim
    | ins C fs => exact hm.elim
    | dctD kvs => exact hm.elim
    | gone => exact hm.elim
  | sq s => exact h.elim
def rIsiU (K : PySem.W.Frag) : List V → Hp → VK → Prop := fun xs H Q => rIsi K xs H Q ∨ rIsiT K xs H Q
theorem u_isi {X : Cx} {K : PySem.W.Frag} (hK : X.K = K) : CallR X (.builtin "isinstance") (rIsiU K) := by
  subst hK
  exact CallR.or call_isi call_isiT
theorem e_isi {n : String} (h : EvS K te ρ l fun x l1 => ∃ t b, TyD l1 x t ∧ kitB t n = some b ∧ R (.f (.bool b)) l1) : EvS K (tCB (rIsiU K) (tCons te (tCons (tC (.ty n)) tNil))) ρ l R := fun m B H σ S e Q q => by
  refine h m B H σ S e _ fun v m1 B1 H1 x l1 s1 S1 r1 ⟨t, b, ht, hk, z⟩ => ?_
  exact .inl ⟨v, .ty n, _, _, b, rfl, .ty n, ty_of S1 r1 ht, kit_ty hk, q _ _ _ _ (.f (.bool b)) _ s1 S1 (FR.bl b) z⟩
/-! a list with references, as data -/
def Asdd (l : List O) (x : D) (d : PyData) : Prop := Asd l x d ∨ ∃ n ys es, x = .own n ∧ l[n]? = some (.rfs ys) ∧ d = .list es ∧ Paired (Asd l) ys es
theorem dps_of (S : SR K m B H l) : ∀ {vs : List V} {ys : List D} {es : List PyData}, Paired (VR K m B) vs ys → Paired (Asd l) ys es → PyData.hasDictAll es = false → DpAll K H vs es
  | _, _, _, .nil, h, _ => by cases h; exact .nil
  | _, _, e :: es, .cons h1 t1, h, nd => by
    have n' : e.hasDict = false ∧ PyData.hasDictAll es = false := by simpa [PyData.hasDictAll] using nd
    cases h with
    | cons h2 t2 => exact .cons (h2.dp S h1 n'.1) (dps_of S t1 t2 n'.2)
  | _, _, [], .cons h1 t1, h, nd => by cases h
theorem Asdd.dp (S : SR K m B H l) {v : V} {x : D} {d : PyData} (r : VR K m B v x) (h : Asdd l x d) (nd : d.hasDict = false) : Dp K H v d := by
  rcases h with h | ⟨n, ys, es, rfl, hn, rfl, hp⟩
  · exact h.dp S r nd
  · obtain ⟨a, rfl, ha⟩ := r
    obtain ⟨⟨xs, e, pr⟩, _⟩ := S.obj n a _ ha hn
    exact .lst (SqL.of e) (dps_of S pr hp (by simpa [PyData.hasDict] using nd))
theorem o_eqPP {x y : D} {d e : PyData} (h1 : Asdd l x d) (h2 : Asdd l y e) (s1 : SeqAt.shaped d = true) (s2 : SeqAt.shaped e = true) (z : R (.f (.bool (PyData.eqv d e))) l) : OpS K (rEqU K) x y l R := fun m B H vx vy S r1 r2 Q q =>
  .inr ⟨d, e, h1.dp S r1 (nod_s s1), h2.dp S r2 (nod_s s2), s1, s2, retF S q (FR.bl _) z⟩
theorem o_nePP {x y : D} {d e : PyData} (h1 : Asdd l x d) (h2 : Asdd l y e) (s1 : SeqAt.shaped d = true) (s2 : SeqAt.shaped e = true) (z : R (.f (.bool (!PyData.eqv d e))) l) : OpS K (rNeU K) x y l R := fun m B H vx vy S r1 r2 Q q =>
  .inr ⟨d, e, h1.dp S r1 (nod_s s1), h2.dp S r2 (nod_s s2), s1, s2, retF S q (FR.bl _) z⟩
/-! a list with references is walked -/
theorem i_seqR {R : (List O → Prop) → Nat → (Nat → D) → List O → Prop} (h : EvS K tl ρ l fun x l1 => ∃ n ds, x = .own n ∧ l1[n]? = some (.rfs ds) ∧ R (fun l' => l'[n]? = some (.rfs ds)) ds.length (fun i => ds.getD i (.f .none)) l1) : EvI K (iSeq K tl) ρ l R := fun m B H σ S e Rt q => by
  refine h m B H σ S e _ fun v m1 B1 H1 x l1 s1 S1 r1 ⟨n, ds, ex, hn, z⟩ => ?_
  subst ex
  obtain ⟨a, rfl, ha⟩ := r1
  obtain ⟨⟨us, e2, pr⟩, _⟩ := S1.obj n a _ ha hn
  refine ⟨a, rfl, .inl ⟨⟨us, SqL.of e2⟩, q (Itl K a) m1 B1 H1 l1 _ _ _ s1 S1 (fun i m' B' H' l' hs hp S' P => ?_) z⟩⟩
  have ha' : m'[n]? = some a := get_pre hp ha
  obtain ⟨⟨ws, e3, pr'⟩, _⟩ := S'.obj n a _ ha' P
  have hl : ws.length = ds.length := pr'.length
  refine ⟨fun hi => ?_, fun hi => ⟨ws, SqL.of e3, by omega⟩⟩
  have hd : ds[i]? = some ds[i] := by simp [hi]
  obtain ⟨v, hv, rv⟩ := pair_get pr' hd
  refine ⟨⟨ws, v, SqL.of e3, hv⟩, fun y H3 ⟨eH, hy⟩ => ?_⟩
  subst eH
  have := hy ws (SqL.of e3)
  rw [hv] at this; cases this
  refine ⟨B', Step.refl _ _ _, S', ?_⟩
  show VR K m' B' v (ds.getD i (.f .none))
  rw [List.getD_eq_getElem?_getD, hd]
  exact rv
/-- a comprehension over a list with references -/
theorem e_lcRf {vs : List Nat} (hg : GG g vs) (h : EvS K tl ρ l fun x l1 => ∃ n ds, x = .own n ∧ l1[n]? = some (.rfs ds) ∧ ∃ I : Nat → List PyData → List O → Prop, I 0 [] l1 ∧ (∀ i acc l', i ≤ ds.length → I i acc l' → l'[n]? = some (.rfs ds) ∧ acc.length ≤ 100000) ∧
      (∀ i d acc l', ds[i]? = some d → I i acc l' → AsS K g d (wipe3 ρ vs) l' fun ρ2 l2 => EvT K tt ρ2 l2 fun b l3 => if b = true then EvS K te ρ2 l3 fun d l4 => ∃ y, d = .f y ∧ I (i + 1) (acc ++ [y]) l4 else I (i + 1) acc l3) ∧
      ∀ acc l', I ds.length acc l' → R (.own l'.length) (l' ++ [.lst acc])) : EvS K (tLc (iSeq K tl) g tt te vs) ρ l R :=
  e_lc (good_of hg) (i_seqR (h.imp fun x l1 ⟨n, ds, ex, hq, I, h0, hP, hs, hd⟩ => ⟨n, ds, ex, hq, I, h0, hP, fun i acc l' hi z => by
    have e : ds[i]? = some (ds.getD i (.f .none)) := by rw [List.getD_eq_getElem?_getD]; simp [hi]
    exact hs i _ acc l' e z, hd⟩))
/-! the store is cut, slots are forgotten -/
theorem wipe3_get {ρ : List (Option D)} {i : Nat} {d : D} : ∀ {vs : List Nat}, (wipe3 ρ vs)[i]? = some (some d) → ρ[i]? = some (some d)
  | [], h => h
  | j :: vs, h => by
    unfold wipe3 at h
    by_cases e : j = i
    · subst e
      have hl : j < (wipe3 ρ vs).length := by simpa using (List.getElem?_eq_some_iff.mp h).1
      rw [List.getElem?_set_self hl] at h; cases h
    · rw [List.getElem?_set_ne e] at h; exact wipe3_get h
def UndS (k : Nat) : List (Option D) → Prop
  | [] => True
  | none :: r => UndS k r
  | some d :: r => d.under k ∧ UndS k r
def UndO (k : Nat) : List O → Prop
  | [] => True
  | o :: r => o.under k ∧ UndO k r
theorem UndS.all {k : Nat} : ∀ {ρ : List (Option D)}, UndS k ρ → ∀ (i : Nat) (d : D), ρ[i]? = some (some d) → d.under k
  | [], _, _, _, h => by simp at h
  | none :: r, u, 0, _, h => by simp at h
  | none :: r, u, i + 1, d, h => UndS.all (ρ := r) u i d (by simpa using h)
  | some e :: r, u, 0, d, h => by
    have : e = d := by simpa using h
    subst this; exact u.1
  | some e :: r, u, i + 1, d, h => UndS.all (ρ := r) u.2 i d (by simpa using h)
theorem UndO.all {k : Nat} : ∀ {l : List O}, UndO k l → ∀ o ∈ l, o.under k
  | [], _, _, h => by cases h
  | e :: r, u, o, h => by
    rcases List.mem_cons.mp h with rfl | h
    · exact u.1
    · exact UndO.all (l := r) u.2 o h
def Tidy (k : Nat) (vs : List Nat) (P : List (Option D) → List O → Prop) (ρ : List (Option D)) (l : List O) : Prop := UndS k (wipe3 ρ vs) ∧ UndO k (l.take k) ∧ P (wipe3 ρ vs) (l.take k)
theorem x_tidy (k : Nat) (vs : List Nat) (hk : l.length ≤ k) (h : ExS K t ρ l ⟨Tidy k vs E.nx, E.rt, Tidy k vs E.bk, Tidy k vs E.ct⟩) : ExS K t ρ l E := fun m B H σ S e Dn F => by
  have key : ∀ {σ' : St} {ρ' : List (Option D)} {m' : List Addr} {B' H' : Hp} {l' : List O}, Step m B H m' B' H' → SR K m' B' H' l' → ER K m' B' σ' ρ' → UndS k (wipe3 ρ' vs) → UndO k (l'.take k) →
      Step m B H (m'.take k) B' H' ∧ SR K (m'.take k) B' H' (l'.take k) ∧ ER K (m'.take k) B' σ' (wipe3 ρ' vs) := fun s S' e' hd hb =>
    ⟨s.cut S' (by rw [S.len]; exact hk), S'.cut k hb.all, by rw [wipe3_len]; exact e'.1, fun i d z => let ⟨v, a, b⟩ := e'.2 i d (wipe3_get z); ⟨v, a, b.cut (hd.all i d z)⟩⟩
  refine h m B H σ S e Dn ⟨fun σ' ρ' m' B' H' l' s S' e' ⟨hd, hb, z⟩ => ?_, F.rt, fun σ' ρ' m' B' H' l' s S' e' ⟨hd, hb, z⟩ => ?_, fun σ' ρ' m' B' H' l' s S' e' ⟨hd, hb, z⟩ => ?_⟩
  · obtain ⟨a, b, c⟩ := key s S' e' hd hb
    exact F.nx _ _ _ _ _ _ a b c z
  · obtain ⟨a, b, c⟩ := key s S' e' hd hb
    exact F.bk _ _ _ _ _ _ a b c z
  · obtain ⟨a, b, c⟩ := key s S' e' hd hb
    exact F.ct _ _ _ _ _ _ a b c z
end
end L3
/-! L3p: repr of data -/
namespace L3
open PySem L2 PySem.Spec PyProof.Rows
mutual
/-- data whose text is short by its size: texts of real signs, ints of at most forty figures, no dict -/
def brief : PyData → Bool
  | .none | .bool _ => true
  | .int i => decide (i.natAbs < 10 ^ 40)
  | .str x => PyData.strOk x
  | .list xs | .tuple xs => briefAll xs
  | .dict _ => false
def briefAll : List PyData → Bool
  | [] => true
  | x :: xs => brief x && briefAll xs
end
mutual
def wt : PyData → Nat
  | .none | .bool _ => 5
  | .int _ => 42
  | .str x => 10 * x.length + 2
  | .list xs | .tuple xs => 3 + wtAll xs
  | .dict _ => 0
def wtAll : List PyData → Nat
  | [] => 0
  | x :: xs => wt x + 2 + wtAll xs
end
theorem str_len_add (x y : Str) : (x ++ y).length = x.length + y.length := len_app x y
theorem textFrom_le : ∀ (ts : List Str) (k : Nat) (acc : Str), (textFrom k acc ts).length ≤ acc.length + piled ts
  | [], k, acc => by show acc.length ≤ _; omega
  | t :: r, k, acc => by
    have h := textFrom_le r (k + 1) (acc ++ (if k > 0 then ", " else "" : String) ++ t)
    have e : (acc ++ (if k > 0 then ", " else "" : String) ++ t).length ≤ acc.length + 2 + t.length := by
      rw [str_len_add, str_len_add]
      have : (Str.ofString (if k > 0 then ", " else "" : String)).length ≤ 2 := by split <;> decide
      omega
    rw [piled_cons]
    show (textFrom (k + 1) _ r).length ≤ _
    omega
theorem listText_le (ts : List Str) : (listText ts).length ≤ 2 + piled ts := by
  unfold listText
  rw [str_len_add]
  have h := textFrom_le ts 0 "["
  have e1 : (Str.ofString "[").length = 1 := by decide
  have e2 : (Str.ofString "]").length = 1 := by decide
  omega
theorem tupleText_le (ts : List Str) : (tupleText ts).length ≤ 3 + piled ts := by
  unfold tupleText
  rw [str_len_add, str_len_add]
  have e1 : (Str.ofString "(").length = 1 := by decide
  have e2 : (Str.ofString (if ts.length == 1 then ",)" else ")" : String)).length ≤ 2 := by split <;> decide
  cases ts with
  | nil =>
    have e3 : (Str.join ", " ([] : List Str)).length = 0 := by decide
    omega
  | cons t r =>
    have h := join_length_add (t :: r) (by simp)
    omega
mutual
theorem shown_le : ∀ d : PyData, brief d = true → d.shown.length ≤ wt d
  | .none, _ => by decide
  | .bool b, _ => by cases b <;> decide
  | .int i, h => by
    have h' : i.natAbs < 10 ^ 40 := of_decide_eq_true (by simpa [brief] using h)
    have e := int_text_length_le10 (k := 40) (by decide) h'
    show (Str.ofString (toString i)).length ≤ 42
    rw [PySem.ofString_length]
    omega
  | .str x, h => by
    have h' : PyData.strOk x = true := by simpa [brief] using h
    show (reprText x).length ≤ 10 * x.length + 2
    refine StrLaws.reprText_len x fun c hc => ?_
    unfold PyData.strOk at h'
    rw [Array.all_eq_true'] at h'
    have := of_decide_eq_true (h' c (by simpa using hc))
    omega
  | .list xs, h => by
    have ih := shownAll_le xs (by simpa [brief] using h)
    have := listText_le (PyData.shownAll xs)
    simp only [PyData.shown, wt]
    omega
  | .tuple xs, h => by
    have ih := shownAll_le xs (by simpa [brief] using h)
    have := tupleText_le (PyData.shownAll xs)
    simp only [PyData.shown, wt]
    omega
  | .dict _, h => by simp [brief] at h
theorem shownAll_le : ∀ xs : List PyData, briefAll xs = true → piled (PyData.shownAll xs) ≤ wtAll xs
  | [], _ => by simp [PyData.shownAll, piled, wtAll]
  | x :: xs, h => by
    have h' : brief x = true ∧ briefAll xs = true := by simpa [briefAll] using h
    have h1 := shown_le x h'.1
    have h2 := shownAll_le xs h'.2
    simp only [PyData.shownAll, wtAll, piled_cons]
    omega
end
mutual
theorem brief_shows : ∀ d : PyData, brief d = true → d.showable = true ∧ d.hasDict = false
  | .none, _ => ⟨rfl, rfl⟩
  | .bool b, _ => ⟨rfl, rfl⟩
  | .int i, h => by
    have h' : i.natAbs < 10 ^ 40 := of_decide_eq_true (by simpa [brief] using h)
    refine ⟨?_, rfl⟩
    have : i.natAbs.log2 < 1920 := by
      by_cases h0 : i.natAbs = 0
      · rw [h0]; decide
      · exact (Nat.log2_lt h0).mpr (Nat.lt_trans h' (by decide +kernel))
    simpa [PyData.showable] using this
  | .str x, _ => ⟨rfl, rfl⟩
  | .list xs, h => by
    have ih := briefAll_shows xs (by simpa [brief] using h)
    simpa [PyData.showable, PyData.hasDict] using ih
  | .tuple xs, h => by
    have ih := briefAll_shows xs (by simpa [brief] using h)
    simpa [PyData.showable, PyData.hasDict] using ih
  | .dict _, h => by simp [brief] at h
theorem briefAll_shows : ∀ xs : List PyData, briefAll xs = true → PyData.showableAll xs = true ∧ PyData.hasDictAll xs = false
  | [], _ => ⟨rfl, rfl⟩
  | x :: xs, h => by
    have h' : brief x = true ∧ briefAll xs = true := by simpa [briefAll] using h
    have h1 := brief_shows x h'.1
    have h2 := briefAll_shows xs h'.2
    simp [PyData.showableAll, PyData.hasDictAll, h1.1, h1.2, h2.1, h2.2]
end
/-- repr(x) of data -/
def rRepr (K : PySem.W.Frag) : List V → Hp → VK → Prop := fun xs H Q => ∃ x d, xs = [x] ∧ Dp K H x d ∧ brief d = true ∧ wt d ≤ 1000000 ∧ d.depth ≤ 60 ∧ Q (.str d.shown) H
theorem u_repr {X : Cx} {K : PySem.W.Frag} (hK : X.K = K) (hg : X.A.guards = some []) (hu : X.A.units + 64 < cLine) : CallR X (.builtin "repr") (rRepr K) := by
  subst hK
  rintro pins s σ H xs us Q I r ⟨x, d, rfl, hd, hb, hw, hdp, q⟩
  obtain ⟨u, rfl, rx⟩ := vals1 r
  have hsz : d.shown.length ≤ sizeLine := Nat.le_trans (shown_le d hb) (Nat.le_trans hw (by decide))
  obtain ⟨hs, hn⟩ := brief_shows d hb
  have fin : ∀ t tk, EP X pins σ Q (.str d.shown t) { s with toks := tk } := fun t tk => ⟨.str d.shown, H, I.tok tk, ⟨t, rfl⟩, q⟩
  have byRef : ∀ a, u = .ref a → wpAny (model X.prog X.w) X.A (call (.builtin "repr") [u]) (EP X pins σ Q) X.xe s := by
    rintro a rfl
    obtain ⟨as, rd⟩ := Dp.reads I d x _ hd rx
    refine repr_of_reads' rd hs (fun z => by rw [hn] at z; cases z) hg (by omega) (fun _ _ e => e) (fun h' u tk hk => ?_) hsz
    exact ⟨.str d.shown, H, I.kept (t' := tk) hk, ⟨u, rfl⟩, q⟩
  cases hd with
  | non => cases (show u = Value.none from rx); exact PySem.P.repr_of_none (fin _ _)
  | bl b => cases (show u = Value.bool b from rx); exact PySem.P.repr_of_bool (by cases b <;> exact fin _ _)
  | int i =>
    obtain ⟨t, rfl⟩ := rx
    have h' : i.natAbs.log2 < 1920 := by simpa [PyData.showable] using hs
    exact PySem.P.repr_of_int h' (fin _ _)
  | str y => obtain ⟨t, rfl⟩ := rx; exact PySem.P.repr_of_str (fin _ _) hsz
  | lst _ _ => exact byRef _ rx
  | tup _ _ => exact byRef _ rx
section
variable {K : PySem.W.Frag} {m : List Addr} {B H : Hp} {l : List O} {R : D → List O → Prop}
theorem c_repr {x : D} {d : PyData} (h : Asdd l x d) (hb : brief d = true) (hw : wt d ≤ 1000000) (hdp : d.depth ≤ 60) (z : R (.f (.str d.shown)) l) : CaS K (rRepr K) [x] l R := fun m B H vs S r Q q => by
  cases r with
  | cons r1 r2 =>
    cases r2
    exact ⟨_, d, rfl, h.dp S r1 (brief_shows d hb).2, hb, hw, hdp, retF S q (FR.str _) z⟩
end
/-! the sizes of lists of texts -/
theorem brief_sPy {xs : List Str} (h : ∀ x ∈ xs, PyData.strOk x = true) : briefAll (sPy xs) = true := by
  induction xs with
  | nil => rfl
  | cons x xs ih =>
    show briefAll (.str x :: sPy xs) = true
    simp [briefAll, brief, h x List.mem_cons_self, ih fun y hy => h y (List.mem_cons_of_mem _ hy)]
theorem wt_sPy {xs : List Str} {k : Nat} (h : ∀ x ∈ xs, x.length ≤ k) : wtAll (sPy xs) ≤ (10 * k + 4) * xs.length := by
  induction xs with
  | nil => simp [sPy, wtAll]
  | cons x xs ih =>
    have i1 := ih fun y hy => h y (List.mem_cons_of_mem _ hy)
    have i2 := h x List.mem_cons_self
    show wtAll (.str x :: sPy xs) ≤ _
    simp only [wtAll, wt, List.length_cons, Nat.mul_add]
    omega
theorem brief_pPy {es : List (Str × Str)} (h : ∀ e ∈ es, PyData.strOk e.1 = true ∧ PyData.strOk e.2 = true) : briefAll (pPy es) = true := by
  induction es with
  | nil => rfl
  | cons e es ih =>
    show briefAll (.tuple [.str e.1, .str e.2] :: pPy es) = true
    simp [briefAll, brief, h e List.mem_cons_self, ih fun y hy => h y (List.mem_cons_of_mem _ hy)]
theorem wt_pPy {es : List (Str × Str)} {k : Nat} (h : ∀ e ∈ es, e.1.length ≤ k ∧ e.2.length ≤ k) : wtAll (pPy es) ≤ (20 * k + 13) * es.length := by
  induction es with
  | nil => simp [pPy, wtAll]
  | cons e es ih =>
    have i1 := ih fun y hy => h y (List.mem_cons_of_mem _ hy)
    have i2 := h e List.mem_cons_self
    show wtAll (.tuple [.str e.1, .str e.2] :: pPy es) ≤ _
    simp only [wtAll, wt, List.length_cons, Nat.mul_add]
    omega
end L3
/-! L3q: is None, list(range(..)), sorted, slices of the script, dict displays, numbers -/
namespace L3
open PySem L2
section
variable {K : PySem.W.Frag} {m m' : List Addr} {B B' H H' : Hp} {l : List O} {σ : St} {ρ : List (Option D)} {R : D → List O → Prop} {E : E3} {ta te tl : TE} {tt : TT} {t u : TS} {ty : TA} {g : TG}
def isNon : D → Bool
  | .f .none => true
  | _ => false
theorem isNon_iff {v : V} {x : D} (r : VR K m B v x) : decide (v = .non) = isNon x := by
  cases x with
  | own n => obtain ⟨a, rfl, _⟩ := r; rfl
  | sq s => obtain ⟨a, rfl, _⟩ := r; rfl
  | f d => cases d <;> cases r <;> rfl
theorem o_isN {x : D} (z : R (.f (.bool (isNon x))) l) : OpS K rIsN x (.f .none) l R := fun m B H vx vy S r1 r2 Q q => by
  refine ⟨by cases r2; rfl, ?_⟩
  rw [isNon_iff r1]
  exact retF S q (FR.bl _) z
theorem o_notN {x : D} (z : R (.f (.bool (!isNon x))) l) : OpS K rNotN x (.f .none) l R := fun m B H vx vy S r1 r2 Q q => by
  refine ⟨by cases r2; rfl, ?_⟩
  rw [isNon_iff r1]
  exact retF S q (FR.bl _) z
/-- as xs_gate, and what is known where the test fails -/
theorem xs_gateC (C : Prop) (h1 : EvT K tt ρ l fun b l1 => if b = true then ExS K t ρ l1 ⟨fun _ _ => False, E.rt, E.bk, E.ct⟩ else l1 = l ∧ C) (h2 : C → ExS K u ρ l E) : ExS K (tSeq (tIfS tt t tNext) u) ρ l E :=
  x_seq (x_if (h1.imp fun b l1 z => by
    cases b with
    | true => exact ExS.imp z (fun _ _ q => q.elim) (fun _ _ q => q) (fun _ _ q => q) fun _ _ q => q
    | false =>
      obtain ⟨e, c⟩ := z
      subst e
      exact x_next (h2 c)))
/-! numbers -/
/-- 0, 1, .. below n -/
def upto (n : Nat) : List Int := (List.range n).map fun i : Nat => (Int.ofNat i)
theorem upto_len (n : Nat) : (upto n).length = n := by simp [upto]
/-! dict displays -/
def EvP (K : PySem.W.Frag) : List (TE × TE) → List (Option D) → List O → (List (Key × PyData) → List O → Prop) → Prop
  | [], _, l, R => R [] l
  | (tk, tv) :: r, ρ, l, R => EvS K tk ρ l fun x l1 => EvS K tv ρ l1 fun y l2 => ∃ k d, x = .f (keyD k) ∧ y = .f d ∧ EvP K r ρ l2 fun ps l3 => R ((k, d) :: ps) l3
theorem evp_run : ∀ {trs : List (TE × TE)} {R : List (Key × PyData) → List O → Prop} {l : List O} {m : List Addr} {B H : Hp}, EvP K trs ρ l R → SR K m B H l → ER K m B σ ρ → ∀ Q : List (V × V) → Hp → Prop,
    (∀ (m' : List Addr) (B' H' : Hp) (l' : List O) (kvs : List (Key × V)) (ps : List (Key × PyData)), Step m B H m' B' H' → SR K m' B' H' l' → Paired (fun (p : Key × V) (q : Key × PyData) => p.1 = q.1 ∧ FR K B' p.2 q.2) kvs ps → R ps l' → Q (kvs.map fun kv => (kV kv.1, kv.2)) H') → tPairs trs σ H Q
  | [], R, l, m, B, H, h, S, e, Q, q => q m B H l [] [] (Step.refl _ _ _) S .nil h
  | (tk, tv) :: r, R, l, m, B, H, h, S, e, Q, q => by
    refine h m B H σ S e _ fun vx m1 B1 H1 x l1 s1 S1 r1 z1 => ?_
    refine z1 m1 B1 H1 σ S1 (e.step s1) _ fun vy m2 B2 H2 y l2 s2 S2 r2 ⟨k, d, ex, ey, z2⟩ => ?_
    subst ex ey
    refine evp_run z2 S2 (e.step (s1.trans s2)) _ fun m3 B3 H3 l3 kvs ps s3 S3 pr z3 => ?_
    have ek := kv_of (k := k) (r1.step (s2.trans s3))
    have := q m3 B3 H3 l3 ((k, vy) :: kvs) ((k, d) :: ps) ((s1.trans s2).trans s3) S3 (.cons ⟨rfl, r2.step s3⟩ pr) z3
    rw [ek]
    exact this
theorem e_disp {trs : List (TE × TE)} (hn : trs.length ≤ 15) (h : EvP K trs ρ (l ++ [.dct []]) fun ps l1 => ps.length ≤ 15 ∧ l1[l.length]? = some (.dct []) ∧ R (.own l.length) (l1.set l.length (.dct (mergeD [] ps)))) : EvS K (tDisp trs) ρ l R := fun m B H σ S e Q q => by
  intro p hp
  obtain ⟨S1, s1, r1⟩ := S.alloc (u := .dK []) (o := .dct []) hp ⟨[], upd_same, .nil⟩
  refine evp_run h S1 (e.step s1) _ fun m2 B2 H2 l2 kvs ps s2 S2 pr ⟨h15, hd, z⟩ => ?_
  obtain ⟨a, ea, ha⟩ := r1.step s2
  cases ea
  obtain ⟨⟨ks, e3, pr3⟩, hb⟩ := S2.obj l.length p _ ha hd
  cases pr3
  refine ⟨e3, kvs, rfl, by rw [pr.length]; exact h15, ?_⟩
  have mg := merge_of pr (ks := []) (kvs := []) .nil
  obtain ⟨S4, s4⟩ := S2.write (u := .dK (mergeK [] kvs)) (o := .dct (mergeD [] ps)) ha (hb (by simp)) ⟨_, upd_same, mg⟩
  exact q (.ref p) m2 B2 _ (.own l.length) _ ((s1.trans s2).trans s4) S4 ⟨p, rfl, ha⟩ z
end
/-! pairs of numbers -/
def nPy (es : List (Int × Int)) : List PyData := es.map fun e => .tuple [.int e.1, .int e.2]
theorem eqv_nil {ds : List PyData} : PyData.eqv (.list ds) (.list []) = ds.isEmpty := by
  cases ds <;> simp [PyData.eqv, PyData.eqvAll]
theorem mem_ins {α : Type} {xs : List α} {x y : α} {n : Nat} (h : y ∈ xs.take n ++ [x] ++ xs.drop n) : y ∈ xs ∨ y = x := by
  rcases List.mem_append.mp h with h | h
  · rcases List.mem_append.mp h with h | h
    · exact .inl (List.mem_of_mem_take h)
    · exact .inr (by simpa using h)
  · exact .inl (List.mem_of_mem_drop h)
theorem len_ins {α : Type} {xs : List α} {x : α} {n : Nat} : (xs.take n ++ [x] ++ xs.drop n).length = xs.length + 1 := by
  rw [List.length_append, List.length_append, List.length_take, List.length_drop]
  simp
  omega
theorem lets_le : lets.length ≤ 100000 := by rw [lets_len]; decide
theorem sPy_get_of {xs : List Str} {i : Nat} {x : Str} (h : xs[i]? = some x) : (sPy xs)[i]? = some (.str x) := by
  show (xs.map PyData.str)[i]? = _
  rw [List.getElem?_map, h]; rfl
end L3
/-! L3r: what a thing reaches: the search in rounds, as plain lists -/
namespace L3
open PySem L2
/-- the number in a slot -/
def slotI (ρ : List (Option D)) (i : Nat) : Nat := match ρ[i]? with
  | some (some (D.f (PyData.int a))) => a.toNat
  | _ => 0
def nextsM (ts : List Str) (es : List (Str × Str)) (one : Str) : List Str := ts.filter fun n => es.any fun e => decide (e.1 = one) && decide (e.2 = n)
def priorsM (ts : List Str) (es : List (Str × Str)) (one : Str) : List Str := ts.filter fun n => es.any fun e => decide (e.2 = one) && decide (e.1 = n)
theorem mem_nextsM {ts : List Str} {es : List (Str × Str)} {one n : Str} : n ∈ nextsM ts es one ↔ n ∈ ts ∧ (one, n) ∈ es := by
  unfold nextsM
  rw [List.mem_filter, List.any_eq_true]
  constructor
  · rintro ⟨h, e, he, h2⟩
    simp only [Bool.and_eq_true, decide_eq_true_eq] at h2
    refine ⟨h, ?_⟩
    have : e = (one, n) := Prod.ext h2.1 h2.2
    rw [← this]; exact he
  · rintro ⟨h, he⟩
    exact ⟨h, (one, n), he, by simp⟩
theorem mem_priorsM {ts : List Str} {es : List (Str × Str)} {one n : Str} : n ∈ priorsM ts es one ↔ n ∈ ts ∧ (n, one) ∈ es := by
  unfold priorsM
  rw [List.mem_filter, List.any_eq_true]
  constructor
  · rintro ⟨h, e, he, h2⟩
    simp only [Bool.and_eq_true, decide_eq_true_eq] at h2
    refine ⟨h, ?_⟩
    have : e = (n, one) := Prod.ext h2.2 h2.1
    rw [← this]; exact he
  · rintro ⟨h, he⟩
    exact ⟨h, (n, one), he, by simp⟩
/-- the things come to, in order, each with the one it was come to from -/
abbrev Came := List (Str × Option Str)
def hasK (c : Came) (o : Str) : Bool := c.any fun p => decide (p.1 = o)
def metAdd (x : Str) (c : Came) (o : Str) : Came := if hasK c o = true then c else c ++ [(o, some x)]
def metGo (nx : Str → List Str) : Nat → Came → Nat → Came
  | 0, c, _ => c
  | n + 1, c, a => match c[a]? with
    | none => c
    | some p => metGo nx n ((nx p.1).foldl (metAdd p.1) c) (a + 1)
def stepM (ts : List Str) (es : List (Str × Str)) (back : Bool) (x : Str) : List Str := if back = true then priorsM ts es x else nextsM ts es x
def metM (ts : List Str) (es : List (Str × Str)) (one : Str) (back : Bool) : Came := metGo (stepM ts es back) (ts.length + 2) [(one, none)] 0
def fromD : Option Str → PyData
  | none => .none
  | some x => .str x
def camePy (c : Came) : List (Key × PyData) := c.map fun p => (.inr p.1, fromD p.2)
theorem hasK_iff {c : Came} {o : Str} : hasK c o = true ↔ o ∈ c.map (·.1) := by
  unfold hasK
  rw [List.any_eq_true, List.mem_map]
  constructor
  · rintro ⟨p, h, e⟩; exact ⟨p, h, of_decide_eq_true e⟩
  · rintro ⟨p, h, e⟩; exact ⟨p, h, decide_eq_true e⟩
theorem nodup_le {α : Type} [DecidableEq α] : ∀ {xs ys : List α}, xs.Nodup → (∀ x ∈ xs, x ∈ ys) → xs.length ≤ ys.length
  | [], _, _, _ => Nat.zero_le _
  | x :: xs, ys, h, hs => by
    rw [List.nodup_cons] at h
    have hx := hs x List.mem_cons_self
    have ih := nodup_le (ys := ys.erase x) h.2 fun y hy => (List.mem_erase_of_ne (fun (e : y = x) => h.1 (by rw [← e]; exact hy))).mpr (hs y (List.mem_cons_of_mem _ hy))
    rw [List.length_erase_of_mem hx] at ih
    have : 0 < ys.length := List.length_pos_of_mem hx
    rw [List.length_cons]
    omega
structure CameOk (one : Str) (ts : List Str) (c : Came) : Prop where
  nd : (c.map (·.1)).Nodup
  sub : ∀ p ∈ c, p.1 = one ∨ p.1 ∈ ts
theorem CameOk.len {one : Str} {ts : List Str} {c : Came} (h : CameOk one ts c) : c.length ≤ ts.length + 1 := by
  have := nodup_le (ys := one :: ts) h.nd fun x hx => by
    obtain ⟨p, hp, rfl⟩ := List.mem_map.mp hx
    exact List.mem_cons.mpr (h.sub p hp)
  simpa using this
theorem CameOk.snoc {one : Str} {ts : List Str} {c : Came} (h : CameOk one ts c) {x o : Str} (ho : o ∈ ts) (hk : hasK c o = false) : CameOk one ts (c ++ [(o, some x)]) := by
  refine ⟨?_, fun p hp => ?_⟩
  · rw [List.map_append, List.nodup_append]
    refine ⟨h.nd, by simp, fun a ha b hb e => ?_⟩
    have : b = o := by simpa using hb
    subst this e
    rw [hasK_iff.mpr ha] at hk; cases hk
  · rcases List.mem_append.mp hp with hp | hp
    · exact h.sub p hp
    · have : p = (o, some x) := by simpa using hp
      subst this; exact .inr ho
theorem CameOk.add {one : Str} {ts : List Str} {c : Came} (h : CameOk one ts c) {x o : Str} (ho : o ∈ ts) : CameOk one ts (metAdd x c o) := by
  unfold metAdd
  cases hk : hasK c o with
  | true => simpa using h
  | false => simpa using h.snoc ho hk
theorem hasK_app {c d : Came} {o : Str} : hasK (c ++ d) o = (hasK c o || hasK d o) := List.any_append ..
theorem metAdd_has (x : Str) (c : Came) (o : Str) : hasK (metAdd x c o) o = true := by
  unfold metAdd
  cases hk : hasK c o with
  | true => simpa using hk
  | false => simp [hasK]
theorem metAdd_pre (x : Str) (c : Came) (o : Str) : ∃ t, metAdd x c o = c ++ t ∧ ∀ p ∈ t, p = (o, some x) := by
  unfold metAdd
  cases hk : hasK c o with
  | true => exact ⟨[], by simp, nofun⟩
  | false => exact ⟨[(o, some x)], by simp, fun p hp => by simpa using hp⟩
theorem metFold {x : Str} : ∀ {os : List Str} {c : Came}, ∃ t, os.foldl (metAdd x) c = c ++ t ∧ (∀ p ∈ t, p.1 ∈ os ∧ p.2 = some x) ∧ ∀ o ∈ os, hasK (os.foldl (metAdd x) c) o = true
  | [], c => ⟨[], by simp, nofun, nofun⟩
  | o :: os, c => by
    obtain ⟨t1, e1, h1⟩ := metAdd_pre x c o
    obtain ⟨t2, e2, h2, h3⟩ := metFold (x := x) (os := os) (c := metAdd x c o)
    refine ⟨t1 ++ t2, by rw [List.foldl_cons, e2, e1, List.append_assoc], fun p hp => ?_, fun p hp => ?_⟩
    · rcases List.mem_append.mp hp with hp | hp
      · rw [h1 p hp]; exact ⟨List.mem_cons_self, rfl⟩
      · exact ⟨List.mem_cons_of_mem _ (h2 p hp).1, (h2 p hp).2⟩
    · rw [List.foldl_cons]
      rcases List.mem_cons.mp hp with rfl | hp
      · rw [e2, hasK_app, metAdd_has]; rfl
      · exact h3 p hp
theorem CameOk.fold {one : Str} {ts : List Str} {x : Str} : ∀ {os : List Str} {c : Came}, CameOk one ts c → (∀ o ∈ os, o ∈ ts) → CameOk one ts (os.foldl (metAdd x) c)
  | [], _, h, _ => h
  | o :: os, c, h, ho => by
    rw [List.foldl_cons]
    exact CameOk.fold (h.add (ho o List.mem_cons_self)) fun p hp => ho p (List.mem_cons_of_mem _ hp)
/-- going along ties -/
inductive Goes (nx : Str → List Str) : Str → Str → Prop
  | refl (a : Str) : Goes nx a a
  | tail {a b c : Str} : Goes nx a b → c ∈ nx b → Goes nx a c
theorem metGo_ok {nx : Str → List Str} {one : Str} {ts : List Str} (hs : ∀ x o, o ∈ nx x → o ∈ ts) : ∀ (fuel : Nat) (c : Came) (a : Nat), CameOk one ts c → (∀ p ∈ c, Goes nx one p.1) → (∀ (i : Nat) p, i < a → c[i]? = some p → ∀ o ∈ nx p.1, hasK c o = true) →
    ts.length + 1 < fuel + a → a ≤ c.length → hasK c one = true →
    CameOk one ts (metGo nx fuel c a) ∧ (∀ p ∈ metGo nx fuel c a, Goes nx one p.1) ∧ (∀ p ∈ metGo nx fuel c a, ∀ o ∈ nx p.1, hasK (metGo nx fuel c a) o = true) ∧ hasK (metGo nx fuel c a) one = true
  | 0, c, a, hc, hg, hd, hf, ha, h1 => by have := hc.len; omega
  | n + 1, c, a, hc, hg, hd, hf, ha, h1 => by
    unfold metGo
    cases e : c[a]? with
    | none =>
      refine ⟨hc, hg, fun p hp => ?_, h1⟩
      have hp : p ∈ c := hp
      obtain ⟨i, hi⟩ := List.getElem?_of_mem hp
      have hl := (List.getElem?_eq_some_iff.mp hi).1
      have := List.getElem?_eq_none_iff.mp e
      exact hd i p (by omega) hi
    | some p =>
      have hl := (List.getElem?_eq_some_iff.mp e).1
      obtain ⟨t, et, ht, hh⟩ := metFold (x := p.1) (os := nx p.1) (c := c)
      refine metGo_ok hs n _ (a + 1) (hc.fold fun o ho => hs _ o ho) (fun q hq => ?_) (fun i q hi hq o ho => ?_) (by omega) (by rw [et, List.length_append]; omega) (by rw [et, hasK_app, h1]; rfl)
      · rw [et] at hq
        rcases List.mem_append.mp hq with hq | hq
        · exact hg q hq
        · exact .tail (hg p (List.mem_of_getElem? e)) (ht q hq).1
      · rw [et, List.getElem?_append_left (show i < c.length by omega)] at hq
        by_cases hia : i < a
        · rw [et, hasK_app, hd i q hia hq o ho]; rfl
        · have : i = a := by omega
          subst this
          rw [e] at hq; cases hq
          exact hh o ho
theorem metGo_end {nx : Str → List Str} {n : Nat} {c : Came} {a : Nat} (h : c.length ≤ a) : metGo nx n c a = c := by
  cases n with
  | zero => rfl
  | succ n =>
    unfold metGo
    rw [List.getElem?_eq_none h]
theorem metGo_next {nx : Str → List Str} {n : Nat} {c : Came} {a : Nat} {p : Str × Option Str} (h : c[a]? = some p) : metGo nx (n + 1) c a = metGo nx n ((nx p.1).foldl (metAdd p.1) c) (a + 1) := by
  show (match c[a]? with | none => c | some p => metGo nx n ((nx p.1).foldl (metAdd p.1) c) (a + 1)) = _
  rw [h]
theorem stepM_sub {ts : List Str} {es : List (Str × Str)} {back : Bool} (x o : Str) (h : o ∈ stepM ts es back x) : o ∈ ts := by
  unfold stepM at h
  cases back
  · exact (mem_nextsM.mp h).1
  · exact (mem_priorsM.mp h).1
theorem metM_ok (ts : List Str) (es : List (Str × Str)) (one : Str) (back : Bool) : CameOk one ts (metM ts es one back) ∧ ∀ o, hasK (metM ts es one back) o = true ↔ Goes (stepM ts es back) one o := by
  have h := metGo_ok (nx := stepM ts es back) (one := one) (ts := ts) stepM_sub (ts.length + 2) [(one, none)] 0 ⟨by simp, fun p hp => by simp at hp; subst hp; exact .inl rfl⟩ (fun p hp => by simp at hp; subst hp; exact .refl _) (fun i p hi _ => by omega) (by omega) (by simp) (by simp [hasK])
  refine ⟨h.1, fun o => ⟨fun ho => ?_, fun ho => ?_⟩⟩
  · obtain ⟨p, hp, rfl⟩ := List.mem_map.mp (hasK_iff.mp ho)
    exact h.2.1 p hp
  · induction ho with
    | refl => exact h.2.2.2
    | tail h1 h2 ih =>
      obtain ⟨p, hp, rfl⟩ := List.mem_map.mp (hasK_iff.mp ih)
      exact h.2.2.1 p hp _ h2
end L3
/-! L3s: numbers and their names: going along ties, either way told -/
namespace L3
open PySem L2
def InR (size a : Int) : Prop := 0 ≤ a ∧ a < size
def nm (xs : List Str) (a : Int) : Str := xs.getD a.toNat ""
theorem nm_get {xs : List Str} {j : Nat} {x : Str} (h : xs[j]? = some x) : nm xs (j : Int) = x := by
  show xs.getD ((j : Int).toNat) "" = _
  rw [Int.toNat_natCast, List.getD_eq_getElem?_getD, h]; rfl
def swapF : PyData → Option PyData
  | .tuple [.int a, .int b] => some (.tuple [.int b, .int a])
  | _ => none
def swapN (es : List (Int × Int)) : List (Int × Int) := es.map fun e => (e.2, e.1)
theorem swapF_eq (es : List (Int × Int)) : (nPy es).filterMap swapF = nPy (swapN es) := by
  induction es with
  | nil => rfl
  | cons e es ih =>
    show (PyData.tuple [.int e.1, .int e.2] :: nPy es).filterMap _ = _
    rw [List.filterMap_cons, ih]
    rfl
/-- going along ties of numbers -/
inductive GoesI (es : List (Int × Int)) : Int → Int → Prop
  | refl (a : Int) : GoesI es a a
  | tail {a b c : Int} : GoesI es a b → (b, c) ∈ es → GoesI es a c
theorem GoesI.inR {es : List (Int × Int)} {size a b : Int} (he : ∀ e ∈ es, InR size e.1 ∧ InR size e.2) (ha : InR size a) (h : GoesI es a b) : InR size b := by
  cases h with
  | refl => exact ha
  | tail _ h2 => exact (he _ h2).2
theorem mem_upto {n : Nat} {k : Int} : k ∈ upto n ↔ InR n k := by
  unfold upto InR
  rw [List.mem_map]
  constructor
  · rintro ⟨i, hi, rfl⟩
    have := List.mem_range.mp hi
    show (0 : Int) ≤ (i : Int) ∧ (i : Int) < n
    omega
  · rintro ⟨h0, h1⟩
    exact ⟨k.toNat, List.mem_range.mpr (by omega), by show ((k.toNat : Nat) : Int) = k; omega⟩
end L3
/-! L3t: the ways of the search: of the fewest things, the first by places -/
namespace L3
open PySem L2
/-- reversed walks: shorter ones first, then by the places, what is nearer to the start first -/
inductive SLt (pl : Str → Int) : List Str → List Str → Prop
  | nil {c : Str} {q : List Str} : SLt pl [] (c :: q)
  | deep {b c : Str} {p q : List Str} : SLt pl p q → SLt pl (b :: p) (c :: q)
  | head {b c : Str} {p : List Str} : pl b < pl c → SLt pl (b :: p) (c :: p)
variable {pl : Str → Int}
theorem SLt.trans : ∀ {p q r : List Str}, SLt pl p q → SLt pl q r → SLt pl p r
  | _, _, _, .nil, .deep _ => .nil
  | _, _, _, .nil, .head _ => .nil
  | _, _, _, .deep h, .deep h' => .deep (SLt.trans h h')
  | _, _, _, .deep h, .head _ => .deep h
  | _, _, _, .head _, .deep h' => .deep h'
  | _, _, _, .head h, .head h' => .head (by omega)
theorem SLt.len {p q : List Str} (h : SLt pl p q) : p.length ≤ q.length := by
  induction h with
  | nil => simp
  | deep _ ih => simpa using ih
  | head _ => simp
/-- a walk from one, the last thing first -/
inductive RW (nx : Str → List Str) (one : Str) : List Str → Prop
  | base : RW nx one [one]
  | step {a b : Str} {p : List Str} : RW nx one (a :: p) → b ∈ nx a → RW nx one (b :: a :: p)
def toC (p : List Str) : Str × Option Str := (p.headD "", p.tail.head?)
abbrev Ways := List (List Str)
def hasW (Q : Ways) (o : Str) : Bool := hasK (Q.map toC) o
def wayAdd (P : List Str) (Q : Ways) (o : Str) : Ways := if hasW Q o = true then Q else Q ++ [o :: P]
def wayGo (nx : Str → List Str) : Nat → Ways → Nat → Ways
  | 0, Q, _ => Q
  | n + 1, Q, a => match Q[a]? with
    | none => Q
    | some P => wayGo nx n ((nx (P.headD "")).foldl (wayAdd P) Q) (a + 1)
theorem wayAdd_map {a : Str} {P : List Str} {Q : Ways} {o : Str} : (wayAdd (a :: P) Q o).map toC = metAdd a (Q.map toC) o := by
  unfold wayAdd metAdd hasW
  cases hasK (Q.map toC) o <;> simp [toC]
theorem wayFold_map {a : Str} {P : List Str} : ∀ {os : List Str} {Q : Ways}, (os.foldl (wayAdd (a :: P)) Q).map toC = os.foldl (metAdd a) (Q.map toC)
  | [], _ => rfl
  | o :: os, Q => by rw [List.foldl_cons, List.foldl_cons, wayFold_map, wayAdd_map]
/-- what holds of the ways so far: those at places below a are done; m: how much of a's is done -/
structure WOk (pl : Str → Int) (nx : Str → List Str) (one : Str) (a : Nat) (Q : Ways) : Prop where
  root : Q[0]? = some [one]
  rw : ∀ p ∈ Q, RW nx one p
  srt : Q.Pairwise (SLt pl)
  par : ∀ p ∈ Q, p = [one] ∨ ∃ (j : Nat) (P : List Str), j < a ∧ Q[j]? = some P ∧ p.tail = P
  cl : ∀ (j : Nat) (P : List Str), j < a → Q[j]? = some P → ∀ v ∈ nx (P.headD ""), ∃ p, p ∈ Q ∧ p.head? = some v ∧ (p = v :: P ∨ SLt pl p (v :: P))
theorem RW.ne {nx : Str → List Str} {one : Str} {p : List Str} (h : RW nx one p) : ∃ a q, p = a :: q := by
  cases h with
  | base => exact ⟨_, _, rfl⟩
  | step h1 h2 => exact ⟨_, _, rfl⟩
theorem hasW_iff {Q : Ways} {o : Str} (hne : ∀ p ∈ Q, ∃ a q, p = a :: q) : hasW Q o = true ↔ ∃ p, p ∈ Q ∧ p.head? = some o := by
  unfold hasW
  rw [hasK_iff, List.map_map, List.mem_map]
  constructor
  · rintro ⟨p, hp, e⟩
    obtain ⟨a, q, rfl⟩ := hne p hp
    exact ⟨_, hp, congrArg some e⟩
  · rintro ⟨p, hp, e⟩
    obtain ⟨a, q, rfl⟩ := hne p hp
    exact ⟨_, hp, Option.some.inj e⟩
/-- the things behind P are added, from the left -/
theorem wok_fold {nx : Str → List Str} {one : Str} {a : Nat} {P : List Str} {x : Str} {P' : List Str} (eP : P = x :: P') : ∀ (os done : List Str) (Q : Ways), nx x = done ++ os → (nx x).Pairwise (fun u v => pl u < pl v) → Q[a]? = some P →
    Q[0]? = some [one] → (∀ p ∈ Q, RW nx one p) → Q.Pairwise (SLt pl) → (∀ p ∈ Q, p = [one] ∨ (∃ (j : Nat) (R : List Str), j < a ∧ Q[j]? = some R ∧ p.tail = R) ∨ (p.tail = P ∧ ∃ v, v ∈ done ∧ p.head? = some v)) →
    (∀ (j : Nat) (R : List Str), j < a → Q[j]? = some R → ∀ v ∈ nx (R.headD ""), ∃ p, p ∈ Q ∧ p.head? = some v ∧ (p = v :: R ∨ SLt pl p (v :: R))) →
    (∀ v ∈ done, ∃ p, p ∈ Q ∧ p.head? = some v ∧ (p = v :: P ∨ SLt pl p (v :: P))) → WOk pl nx one (a + 1) (os.foldl (wayAdd P) Q) ∧ ∃ t, os.foldl (wayAdd P) Q = Q ++ t
  | [], done, Q, hd, hs, ha, h0, hr, hq, hp, hc, hv => by
    show WOk pl nx one (a + 1) Q ∧ ∃ t, Q = Q ++ t
    refine ⟨⟨h0, hr, hq, fun p h => ?_, fun j R hj hR v hvR => ?_⟩, [], by simp⟩
    · rcases hp p h with h1 | ⟨j, R, h1, h2, h3⟩ | ⟨h1, _⟩
      · exact .inl h1
      · exact .inr ⟨j, R, by omega, h2, h3⟩
      · exact .inr ⟨a, P, by omega, ha, h1⟩
    · by_cases hja : j < a
      · exact hc j R hja hR v hvR
      · have : j = a := by omega
        subst this
        rw [ha] at hR
        cases hR
        rw [eP] at hvR
        have hvR : v ∈ nx x := hvR
        rw [hd, List.append_nil] at hvR
        exact hv v hvR
  | o :: os, done, Q, hd, hs, ha, h0, hr, hq, hp, hc, hv => by
    have hon : o ∈ nx x := by rw [hd]; simp
    have hd' : nx x = (done ++ [o]) ++ os := by rw [hd]; simp
    have ne : ∀ p ∈ Q, ∃ a q, p = a :: q := fun p h => (hr p h).ne
    have before : ∀ v ∈ done, pl v < pl o := fun v hv => by
      rw [hd, List.pairwise_append] at hs
      exact hs.2.2 v hv o List.mem_cons_self
    -- whatever stands in Q stands before o :: P
    have less : ∀ p ∈ Q, SLt pl p (o :: P) := fun p h => by
      rcases hp p h with rfl | ⟨j, R, h1, h2, h3⟩ | ⟨h1, v, hv1, hv2⟩
      · rw [eP]; exact .deep .nil
      · obtain ⟨b, q, rfl⟩ := ne p h
        have e3 : q = R := h3
        subst e3
        have lj := (List.getElem?_eq_some_iff.mp h2).1
        have la := (List.getElem?_eq_some_iff.mp ha).1
        have := List.pairwise_iff_getElem.mp hq j a lj la h1
        rw [List.getElem?_eq_getElem lj] at h2
        rw [List.getElem?_eq_getElem la] at ha
        rw [Option.some.inj h2, Option.some.inj ha] at this
        exact .deep this
      · obtain ⟨b, q, rfl⟩ := ne p h
        have e1 : q = P := h1
        have e2 : b = v := Option.some.inj hv2
        subst e1 e2
        exact .head (before _ hv1)
    have ew : wayAdd P Q o = if hasW Q o = true then Q else Q ++ [o :: P] := rfl
    rw [List.foldl_cons, ew]
    cases hk : hasW Q o with
    | true =>
      rw [if_pos rfl]
      obtain ⟨p, hpQ, hpo⟩ := (hasW_iff ne).mp hk
      refine wok_fold eP os (done ++ [o]) Q hd' hs ha h0 hr hq (fun p h => ?_) hc (fun v hv1 => ?_)
      · rcases hp p h with h1 | h1 | ⟨h1, v, hv1, hv2⟩
        · exact .inl h1
        · exact .inr (.inl h1)
        · exact .inr (.inr ⟨h1, v, by simp [hv1], hv2⟩)
      · rcases List.mem_append.mp hv1 with hv1 | hv1
        · exact hv v hv1
        · have : v = o := by simpa using hv1
          subst this
          exact ⟨p, hpQ, hpo, .inr (less p hpQ)⟩
    | false =>
      rw [if_neg (by decide)]
      have la := (List.getElem?_eq_some_iff.mp ha).1
      have keep : ∀ {j : Nat} {R : List Str}, Q[j]? = some R → (Q ++ [o :: P])[j]? = some R := fun {j R} e => by
        rw [List.getElem?_append_left (List.getElem?_eq_some_iff.mp e).1]; exact e
      have nxt := wok_fold eP os (done ++ [o]) (Q ++ [o :: P]) hd' hs (keep ha) (keep h0) (fun p h => ?_) ?_ (fun p h => ?_) (fun j R hj hR v hvR => ?_) (fun v hv1 => ?_)
      · obtain ⟨w, t, et⟩ := nxt
        exact ⟨w, [o :: P] ++ t, by rw [et, List.append_assoc]⟩
      · rcases List.mem_append.mp h with h | h
        · exact hr p h
        · have : p = o :: P := by simpa using h
          subst this
          have hP := hr P (List.mem_of_getElem? ha)
          rw [eP] at hP ⊢
          exact .step hP hon
      · rw [List.pairwise_append]
        exact ⟨hq, by simp, fun p h q h' => by have : q = o :: P := by simpa using h'
                                               subst this; exact less p h⟩
      · rcases List.mem_append.mp h with h | h
        · rcases hp p h with h1 | ⟨j, R, h1, h2, h3⟩ | ⟨h1, v, hv1, hv2⟩
          · exact .inl h1
          · exact .inr (.inl ⟨j, R, h1, keep h2, h3⟩)
          · exact .inr (.inr ⟨h1, v, by simp [hv1], hv2⟩)
        · have : p = o :: P := by simpa using h
          subst this
          exact .inr (.inr ⟨rfl, o, by simp, rfl⟩)
      · rw [List.getElem?_append_left (by omega)] at hR
        obtain ⟨p, h1, h2, h3⟩ := hc j R hj hR v hvR
        exact ⟨p, List.mem_append_left _ h1, h2, h3⟩
      · rcases List.mem_append.mp hv1 with hv1 | hv1
        · obtain ⟨p, h1, h2, h3⟩ := hv v hv1
          exact ⟨p, List.mem_append_left _ h1, h2, h3⟩
        · have : v = o := by simpa using hv1
          subst this
          exact ⟨v :: P, by simp, rfl, .inl rfl⟩
theorem way_go {nx : Str → List Str} {one : Str} {ts : List Str} (hs : ∀ x o, o ∈ nx x → o ∈ ts) (hp : ∀ x, (nx x).Pairwise fun u v => pl u < pl v) : ∀ (fuel : Nat) (Q : Ways) (a : Nat), WOk pl nx one a Q → CameOk one ts (Q.map toC) → ts.length + 1 < fuel + a →
    (wayGo nx fuel Q a).map toC = metGo nx fuel (Q.map toC) a ∧ ∃ a', WOk pl nx one a' (wayGo nx fuel Q a) ∧ (wayGo nx fuel Q a).length ≤ a'
  | 0, Q, a, w, hc, hf => ⟨rfl, a, w, by have := hc.len; rw [List.length_map] at this; show Q.length ≤ a; omega⟩
  | n + 1, Q, a, w, hc, hf => by
    unfold wayGo
    cases e : Q[a]? with
    | none =>
      have hl := List.getElem?_eq_none_iff.mp e
      exact ⟨(metGo_end (by rw [List.length_map]; exact hl)).symm, a, w, hl⟩
    | some P =>
      obtain ⟨x, P', rfl⟩ := (w.rw P (List.mem_of_getElem? e)).ne
      have em : (Q.map toC)[a]? = some (toC (x :: P')) := by rw [List.getElem?_map, e]; rfl
      obtain ⟨w2, t, et⟩ := wok_fold (pl := pl) (nx := nx) (one := one) (x := x) rfl (nx x) [] Q rfl (hp x) e w.root w.rw w.srt (fun p h => (w.par p h).imp id fun h => .inl h) w.cl nofun
      rw [metGo_next em]
      have ef : (nx (toC (x :: P')).1).foldl (metAdd (toC (x :: P')).1) (Q.map toC) = ((nx x).foldl (wayAdd (x :: P')) Q).map toC := wayFold_map.symm
      rw [ef]
      refine way_go hs hp n _ (a + 1) w2 ?_ (by omega)
      show CameOk one ts (((nx x).foldl (wayAdd (x :: P')) Q).map toC)
      rw [← ef]
      exact hc.fold fun o ho => hs _ o ho
def wayQ (ts : List Str) (es : List (Str × Str)) (one : Str) (back : Bool) : Ways := wayGo (stepM ts es back) (ts.length + 2) [[one]] 0
/-- the place of a thing -/
def place (ts : List Str) (x : Str) : Int := (ts.idxOf x : Nat)
theorem place_filter {ts : List Str} (hn : ts.Nodup) (f : Str → Bool) : (ts.filter f).Pairwise fun u v => place ts u < place ts v := by
  refine List.Pairwise.filter f ?_
  rw [List.pairwise_iff_getElem]
  intro i j hi hj hij
  unfold place
  rw [hn.idxOf_getElem i hi, hn.idxOf_getElem j hj]
  omega
structure WaysOk (ts : List Str) (es : List (Str × Str)) (one : Str) (back : Bool) (Q : Ways) : Prop where
  came : Q.map toC = metM ts es one back
  ok : ∃ a, WOk (place ts) (stepM ts es back) one a Q ∧ Q.length ≤ a
theorem wayQ_ok {ts : List Str} (hn : ts.Nodup) (es : List (Str × Str)) (one : Str) (back : Bool) : WaysOk ts es one back (wayQ ts es one back) := by
  have w0 : WOk (place ts) (stepM ts es back) one 0 [[one]] := ⟨rfl, fun p h => by simp at h; subst h; exact .base, by simp, fun p h => by simp at h; exact .inl h, fun j P h => by omega⟩
  obtain ⟨h1, h2⟩ := way_go (pl := place ts) (nx := stepM ts es back) (one := one) (ts := ts) stepM_sub (fun x => by
    unfold stepM priorsM nextsM
    split <;> exact place_filter hn _) (ts.length + 2) [[one]] 0 w0 ⟨by simp, fun p hp => by simp [toC] at hp; subst hp; exact .inl rfl⟩ (by omega)
  exact ⟨h1, h2⟩
end L3
/-! L3u: the ways found, as the program reads them back -/
namespace L3
open PySem L2
/-- the length of the own list n -/
def lenI (l : List O) (n : Nat) : Nat := match l[n]? with
  | some (O.lst ds) => ds.length
  | _ => 0
theorem came_get : ∀ {c : Came} {v x : Str}, (c.map (·.1)).Nodup → (v, some x) ∈ c → lookD (camePy c) (.inr v) = some (.str x)
  | [], _, _, _, h => by cases h
  | p :: c, v, x, hn, h => by
    rw [List.map_cons, List.nodup_cons] at hn
    unfold lookD camePy
    rw [List.map_cons, List.find?_cons]
    rcases List.mem_cons.mp h with e | h
    · subst e
      simp [fromD]
    · have ne : p.1 ≠ v := fun e => hn.1 (by rw [e]; exact List.mem_map.mpr ⟨_, h, rfl⟩)
      have : decide ((Sum.inr p.1 : Key) = Sum.inr v) = false := decide_eq_false fun e => ne (Sum.inr.inj e)
      rw [this]
      exact came_get hn.2 h
section
variable {ts : List Str} {es : List (Str × Str)} {one : Str} {back : Bool} {Q : Ways}
theorem WaysOk.ne (h : WaysOk ts es one back Q) {p : List Str} (hp : p ∈ Q) : ∃ a q, p = a :: q := by
  obtain ⟨a, ok, _⟩ := h.ok
  exact (ok.rw p hp).ne
theorem WaysOk.cameOk (h : WaysOk ts es one back Q) : CameOk one ts (Q.map toC) := by rw [h.came]; exact (metM_ok ts es one back).1
theorem WaysOk.up (h : WaysOk ts es one back Q) {x : Str} {r : List Str} (hp : x :: r ∈ Q) (hx : x ≠ one) : ∃ y r', r = y :: r' ∧ y :: r' ∈ Q ∧ lookD (camePy (metM ts es one back)) (.inr x) = some (.str y) := by
  obtain ⟨a, ok, _⟩ := h.ok
  rcases ok.par _ hp with e | ⟨j, P, h1, h2, h3⟩
  · exact absurd (List.cons.inj e).1 hx
  · have hP := List.mem_of_getElem? h2
    obtain ⟨y, r', e⟩ := h.ne hP
    have er : r = P := h3
    rw [e] at er hP
    refine ⟨y, r', er, hP, ?_⟩
    rw [← h.came]
    refine came_get h.cameOk.nd ?_
    rw [er] at hp
    exact List.mem_map.mpr ⟨_, hp, rfl⟩
theorem WaysOk.uniq (h : WaysOk ts es one back Q) {p q : List Str} (hp : p ∈ Q) (hq : q ∈ Q) (e : p.head? = q.head?) : p = q := by
  have nd := h.cameOk.nd
  obtain ⟨i, hi⟩ := List.getElem?_of_mem hp
  obtain ⟨j, hj⟩ := List.getElem?_of_mem hq
  have li := (List.getElem?_eq_some_iff.mp hi).1
  have lj := (List.getElem?_eq_some_iff.mp hj).1
  obtain ⟨a, p', rfl⟩ := h.ne hp
  obtain ⟨b, q', rfl⟩ := h.ne hq
  have eab : a = b := Option.some.inj e
  have hi2 : ((Q.map toC).map (·.1))[i]? = some a := by rw [List.getElem?_map, List.getElem?_map, hi]; rfl
  have hj2 : ((Q.map toC).map (·.1))[j]? = some a := by rw [List.getElem?_map, List.getElem?_map, hj, eab]; rfl
  obtain ⟨l1, e1⟩ := List.getElem?_eq_some_iff.mp hi2
  obtain ⟨l2, e2⟩ := List.getElem?_eq_some_iff.mp hj2
  have := (List.getElem_inj nd).mp (e1.trans e2.symm)
  subst this
  rw [hi] at hj
  exact Option.some.inj hj
theorem WaysOk.lenAt (h : WaysOk ts es one back Q) : ∀ (i : Nat) (p : List Str), Q[i]? = some p → p.length ≤ i + 1 := by
  obtain ⟨a, ok, hl⟩ := h.ok
  intro i
  induction i using Nat.strongRecOn with
  | ind i ih =>
    intro p hp
    rcases ok.par p (List.mem_of_getElem? hp) with e | ⟨j, P, h1, h2, h3⟩
    · subst e; simp
    · obtain ⟨b, q, rfl⟩ := h.ne (List.mem_of_getElem? hp)
      have eq : q = P := h3
      subst eq
      have li := (List.getElem?_eq_some_iff.mp hp).1
      have lj := (List.getElem?_eq_some_iff.mp h2).1
      by_cases hji : j < i
      · have := ih j hji q h2
        simp only [List.length_cons]
        omega
      · exfalso
        rw [List.getElem?_eq_getElem li] at hp
        rw [List.getElem?_eq_getElem lj] at h2
        by_cases e : i = j
        · subst e
          have := (Option.some.inj hp).symm.trans (Option.some.inj h2)
          have := congrArg List.length this
          simp at this
        · have s := List.pairwise_iff_getElem.mp ok.srt i j li lj (by omega)
          rw [Option.some.inj hp, Option.some.inj h2] at s
          have := s.len
          simp at this
          omega
theorem WaysOk.len (h : WaysOk ts es one back Q) {p : List Str} (hp : p ∈ Q) : p.length ≤ ts.length + 1 := by
  obtain ⟨i, hi⟩ := List.getElem?_of_mem hp
  have l1 := h.lenAt i p hi
  have l2 := h.cameOk.len
  rw [List.length_map] at l2
  have := (List.getElem?_eq_some_iff.mp hi).1
  omega
end
end L3
/-! L3v: how far it is to a goal, and the ways by least numbers -/
namespace L3
open PySem L2
inductive StepsTo (es : List (Int × Int)) (g : Int) : Int → Nat → Prop
  | zero : StepsTo es g g 0
  | succ {a b : Int} {n : Nat} : (a, b) ∈ es → StepsTo es g b n → StepsTo es g a (n + 1)
structure Far (es : List (Int × Int)) (g k : Int) (d : Nat) : Prop where
  st : StepsTo es g k d
  no : ∀ d' : Nat, d' < d → ¬ StepsTo es g k d'
variable {es : List (Int × Int)} {g : Int}
theorem Far.uniq {k : Int} {d d' : Nat} (h : Far es g k d) (h' : Far es g k d') : d = d' := by
  by_cases h1 : d < d'
  · exact absurd h.st (h'.no d h1)
  · by_cases h2 : d' < d
    · exact absurd h'.st (h.no d' h2)
    · omega
theorem far_of {k : Int} : ∀ {d : Nat}, StepsTo es g k d → ∃ d', d' ≤ d ∧ Far es g k d' := by
  intro d
  induction d using Nat.strongRecOn with
  | ind d ih =>
    intro h
    by_cases hm : ∃ d', d' < d ∧ StepsTo es g k d'
    · obtain ⟨d', h1, h2⟩ := hm
      obtain ⟨d2, h3, h4⟩ := ih d' h1 h2
      exact ⟨d2, by omega, h4⟩
    · exact ⟨d, Nat.le_refl _, h, fun d' h1 h2 => hm ⟨d', h1, h2⟩⟩
theorem Far.zero {k : Int} (h : Far es g k 0) : k = g := by
  cases h.st; rfl
theorem far_goal : Far es g g 0 := ⟨.zero, fun d h => by omega⟩
/-- one tie nearer -/
theorem Far.next {k : Int} {d : Nat} (h : Far es g k (d + 1)) : ∃ b, (k, b) ∈ es ∧ Far es g b d := by
  cases h.st with
  | @succ _ b _ h1 h2 =>
    refine ⟨b, h1, h2, fun d' hd h3 => h.no (d' + 1) (by omega) (.succ h1 h3)⟩
theorem Far.inR {size k : Int} {d : Nat} (he : ∀ e ∈ es, InR size e.1 ∧ InR size e.2) (hg : InR size g) (h : Far es g k d) : InR size k := by
  cases h.st with
  | zero => exact hg
  | succ h1 _ => exact (he _ h1).1
/-- nothing is farther than there are things -/
theorem Far.le {n : Nat} {k : Int} {d : Nat} (he : ∀ e ∈ es, InR n e.1 ∧ InR n e.2) (hg : InR n g) (h : Far es g k d) : d + 1 ≤ n := by
  have go : ∀ (d : Nat) (k : Int), Far es g k d → ∃ xs : List Int, xs.length = d + 1 ∧ xs.Nodup ∧ ∀ x ∈ xs, ∃ d', d' ≤ d ∧ Far es g x d' := by
    intro d
    induction d with
    | zero => exact fun k h => ⟨[k], rfl, by simp, fun x hx => ⟨0, Nat.le_refl _, by simp at hx; subst hx; exact h⟩⟩
    | succ d ih =>
      intro k h
      obtain ⟨b, _, hb⟩ := h.next
      obtain ⟨xs, h1, h2, h3⟩ := ih b hb
      refine ⟨k :: xs, by simp [h1], ?_, fun x hx => ?_⟩
      · rw [List.nodup_cons]
        refine ⟨fun hk => ?_, h2⟩
        obtain ⟨d', l1, l2⟩ := h3 k hk
        have := l2.uniq h
        omega
      · rcases List.mem_cons.mp hx with rfl | hx
        · exact ⟨d + 1, Nat.le_refl _, h⟩
        · obtain ⟨d', l1, l2⟩ := h3 x hx
          exact ⟨d', by omega, l2⟩
  obtain ⟨xs, h1, h2, h3⟩ := go d k h
  have := nodup_le (ys := upto n) h2 fun x hx => by
    obtain ⟨d', _, hf⟩ := h3 x hx
    exact mem_upto.mpr (hf.inR he hg)
  rw [upto_len, h1] at this
  exact this
structure FarRow (es : List (Int × Int)) (g : Int) (n : Nat) (fs : List (Option Nat)) : Prop where
  len : fs.length = n
  at_ : ∀ (k : Nat) (d : Nat), k < n → (fs[k]? = some (some d) ↔ Far es g k d)
/-- the way by least numbers -/
inductive Least (es : List (Int × Int)) (g : Int) : Int → List Int → Prop
  | done : Least es g g [g]
  | step {a b : Int} {d : Nat} {q : List Int} : (a, b) ∈ es → Far es g a (d + 1) → Far es g b d → (∀ c, (a, c) ∈ es → Far es g c d → b ≤ c) → Least es g b q → Least es g a (a :: q)
/-- walks of numbers, from the start -/
inductive FW (es : List (Int × Int)) (g : Int) : Int → List Int → Prop
  | done : FW es g g [g]
  | step {a b : Int} {q : List Int} : (a, b) ∈ es → FW es g b q → FW es g a (a :: q)
theorem FW.hd {a : Int} {q : List Int} (h : FW es g a q) : ∃ r, q = a :: r := by
  cases h with
  | done => exact ⟨_, rfl⟩
  | step _ _ => exact ⟨_, rfl⟩
theorem Least.fw {a : Int} {q : List Int} (h : Least es g a q) : FW es g a q := by
  induction h with
  | done => exact .done
  | step h1 _ _ _ _ ih => exact .step h1 ih
theorem Least.far {a : Int} {q : List Int} (h : Least es g a q) : ∃ d, q.length = d + 1 ∧ Far es g a d := by
  induction h with
  | done => exact ⟨0, rfl, far_goal⟩
  | @step a b d q h1 h2 h3 _ _ ih =>
    obtain ⟨d', e, f⟩ := ih
    have := f.uniq h3
    subst this
    exact ⟨d' + 1, by rw [List.length_cons, e], h2⟩
end L3
/-! L3w: a row of distances is filled in, turn by turn -/
namespace L3
open PySem L2
structure Row (es : List (Int × Int)) (g : Int) (n t : Nat) (fs : List (Option Nat)) : Prop where
  len : fs.length = n
  at_ : ∀ (k d : Nat), k < n → (fs[k]? = some (some d) ↔ Far es g k d ∧ d ≤ t)
structure Rowing (es : List (Int × Int)) (g : Int) (n t i : Nat) (fs : List (Option Nat)) : Prop where
  len : fs.length = n
  a : ∀ (k d : Nat), k < n → fs[k]? = some (some d) → Far es g k d ∧ d ≤ t + 1
  b : ∀ (k d : Nat), k < n → Far es g k d → d ≤ t → fs[k]? = some (some d)
  c : ∀ e ∈ es.take i, Far es g e.2 t → ∃ d, fs[e.1.toNat]? = some (some d)
section
variable {es : List (Int × Int)} {g : Int} {n t i : Nat} {fs : List (Option Nat)}
theorem Row.start (hg : InR n g) : Row es g n 0 ((List.replicate n none).set g.toNat (some 0)) := by
  have hgn : g.toNat < n := by have := hg.1; have := hg.2; omega
  refine ⟨by simp, fun k d hk => ?_⟩
  by_cases e : g.toNat = k
  · subst e
    rw [List.getElem?_set_self (by simpa using hgn)]
    have eg : ((g.toNat : Nat) : Int) = g := by have := hg.1; omega
    rw [eg]
    constructor
    · intro h; cases h; exact ⟨far_goal, Nat.le_refl _⟩
    · rintro ⟨h1, h2⟩
      have : d = 0 := by omega
      rw [this]
  · rw [List.getElem?_set_ne e]
    constructor
    · intro h
      rw [List.getElem?_replicate] at h
      split at h <;> cases h
    · rintro ⟨h1, h2⟩
      have : d = 0 := by omega
      subst this
      have := h1.zero
      have := hg.1
      omega
theorem Rowing.start (h : Row es g n t fs) : Rowing es g n t 0 fs := ⟨h.len, fun k d hk e => let r := (h.at_ k d hk).mp e; ⟨r.1, by have := r.2; omega⟩, fun k d hk f l => (h.at_ k d hk).mpr ⟨f, l⟩, nofun⟩
theorem toNat_in {a : Int} (h : InR n a) : a.toNat < n ∧ ((a.toNat : Nat) : Int) = a := by have := h.1; have := h.2; omega
theorem Rowing.put (h : Rowing es g n t i fs) {e : Int × Int} (he : es[i]? = some e) (hr : ∀ e ∈ es, InR n e.1 ∧ InR n e.2) (h2 : fs[e.2.toNat]? = some (some t)) (h1 : fs[e.1.toNat]? = some none) : Rowing es g n t (i + 1) (fs.set e.1.toNat (some (t + 1))) := by
  have hem := List.mem_of_getElem? he
  obtain ⟨r1, r2⟩ := hr e hem
  obtain ⟨n1, e1⟩ := toNat_in r1
  obtain ⟨n2, e2⟩ := toNat_in r2
  have f2 := (h.a _ _ n2 h2).1
  rw [e2] at f2
  have f1 : Far es g e.1 (t + 1) := ⟨.succ hem f2.st, fun d' hd hs => by
    obtain ⟨d2, l2, g2⟩ := far_of hs
    have := h.b e.1.toNat d2 n1 (by rw [e1]; exact g2) (by omega)
    rw [h1] at this; cases this⟩
  refine ⟨by simp [h.len], fun k d hk ek => ?_, fun k d hk f l => ?_, fun p hp fp => ?_⟩
  · by_cases e : e.1.toNat = k
    · subst e
      rw [List.getElem?_set_self (by rw [h.len]; exact n1)] at ek
      cases ek
      rw [e1]
      exact ⟨f1, Nat.le_refl _⟩
    · rw [List.getElem?_set_ne e] at ek
      exact h.a k d hk ek
  · have hb := h.b k d hk f l
    by_cases e : e.1.toNat = k
    · subst e; rw [h1] at hb; cases hb
    · rw [List.getElem?_set_ne e]; exact hb
  · by_cases e3 : e.1.toNat = p.1.toNat
    · exact ⟨t + 1, by rw [← e3, List.getElem?_set_self (by rw [h.len]; exact n1)]⟩
    · rw [take_next he] at hp
      rcases List.mem_append.mp hp with hp | hp
      · obtain ⟨d, hd⟩ := h.c p hp fp
        exact ⟨d, by rw [List.getElem?_set_ne e3]; exact hd⟩
      · have : p = e := by simpa using hp
        subst this; exact absurd rfl e3
theorem Rowing.done (h : Rowing es g n t es.length fs) (hr : ∀ e ∈ es, InR n e.1 ∧ InR n e.2) : Row es g n (t + 1) fs := by
  refine ⟨h.len, fun k d hk => ⟨fun e => h.a k d hk e, fun ⟨f, l⟩ => ?_⟩⟩
  by_cases hd : d ≤ t
  · exact h.b k d hk f hd
  · have : d = t + 1 := by omega
    subst this
    obtain ⟨b, hb, fb⟩ := f.next
    obtain ⟨d', hd'⟩ := h.c (k, b) (by rw [List.take_length]; exact hb) fb
    have hd' : fs[k]? = some (some d') := by simpa using hd'
    have := (h.a k d' hk hd').1.uniq f
    rw [hd', this]
theorem Row.last (h : Row es g n n fs) (hr : ∀ e ∈ es, InR n e.1 ∧ InR n e.2) (hg : InR n g) : FarRow es g n fs :=
  ⟨h.len, fun k d hk => ⟨fun e => ((h.at_ k d hk).mp e).1, fun f => (h.at_ k d hk).mpr ⟨f, by have := f.le hr hg; omega⟩⟩⟩
end
end L3
/-! L3x: min and max of a list of numbers; the next ones on a way by least numbers -/
namespace L3
open PySem L2
theorem FarRow.get {es : List (Int × Int)} {g k : Int} {n : Nat} {fs : List (Option Nat)} (h : FarRow es g n fs) (hk : InR n k) (d : Nat) : fs[k.toNat]? = some (some d) ↔ Far es g k d := by
  obtain ⟨k1, k2⟩ := toNat_in hk
  have := h.at_ k.toNat d k1
  rw [k2] at this
  exact this
theorem o_neg {K : PySem.W.Frag} {l : List O} {R : D → List O → Prop} {f : Int → Int} {i : Int} (z : R (.f (.int (f i))) l) : UnS K (rU fun i => .int (f i)) (.f (.int i)) l R := fun m B H vx S r1 Q q => ⟨i, int_of r1, retF S q (FR.int _) z⟩
end L3
/-! L3y: the way found is the way by least numbers -/
namespace L3
open PySem L2
section
variable {xs : List Str} {es : List (Int × Int)}
theorem FW.inR {n g a : Int} {q : List Int} (hr : ∀ e ∈ es, InR n e.1 ∧ InR n e.2) (ha : InR n a) (h : FW es g a q) : ∀ k ∈ q, InR n k := by
  induction h with
  | done => intro k hk; simp at hk; subst hk; exact ha
  | step h1 _ ih =>
    intro k hk
    rcases List.mem_cons.mp hk with rfl | hk
    · exact ha
    · exact ih (hr _ h1).2 k hk
theorem FW.last {g a : Int} {q : List Int} (h : FW es g a q) : q.getLast? = some g := by
  induction h with
  | done => rfl
  | step _ h5 ih =>
    obtain ⟨r, er⟩ := h5.hd
    rw [er] at ih ⊢
    rw [List.getLast?_cons_cons]
    exact ih
theorem FW.snoc {a b c : Int} {q : List Int} (h : FW es b a q) (hc : (b, c) ∈ es) : FW es c a (q ++ [c]) := by
  induction h with
  | done => exact .step hc .done
  | step h1 _ ih => exact .step h1 ih
end
end L3
/-! L3z: dicts made of pairs of a text and True; measures of slots -/
namespace L3
open PySem L2
end L3
/-! L3za: own objects seen as data by a callee; enumerate, zip, all, any, sum -/
namespace L3
open PySem L2
section
variable {X : Cx} {pos p tpos : Pos}
theorem u_zip {K : PySem.W.Frag} (hK : X.K = K) {e e2 : Expr} {ta : TA} {elts : List Expr} {kk : Nat} (hg : Gl X "zip") (hm : X.mg "zip" = none) (ha : PA X [e, e2] ta)
    (hs : starEach [e, e2] X.env = (false, eval e X.env) :: starEach [e2] X.env := by rfl) (hpl : (backTo pos (starEach [e2] X.env)).any (·.1) = false := by rfl) :
    PI X (.Tuple elts kk tpos) (.Call (.Name "zip" p) [e, e2] [] pos) (iZip K ta) := by
  subst hK
  exact pi_zip hg hm ha hs hpl
theorem u_all {K : PySem.W.Frag} (hK : X.K = K) (hc : X.calm = true) : CallR X (.builtin "all") (rAll K) := by
  subst hK
  exact cr_all hc
end
section
variable {K : PySem.W.Frag} {m m' m2 : List Addr} {B B' B2 H H' H2 : Hp} {l : List O} {σ : St} {ρ : List (Option D)} {R R' : D → List O → Prop} {E E' : E3} {ta tb te tc tl : TE} {tt tu : TT} {t u : TS} {ty tz : TA} {g : TG} {gs : TGs}
theorem EvA.imp {R R' : List D → List O → Prop} (h : EvA K ty ρ l R) (hR : ∀ d l, R d l → R' d l) : EvA K ty ρ l R' := fun m B H σ S e Q q => h m B H σ S e Q fun v m' B' H' d l' s S' r z => q v m' B' H' d l' s S' r (hR _ _ z)
theorem AsS.imp {d : D} {R R' : List (Option D) → List O → Prop} (h : AsS K g d ρ l R) (hR : ∀ d l, R d l → R' d l) : AsS K g d ρ l R' := fun m B H σ v S e hv Q q => h m B H σ v S e hv Q fun σ' ρ' m' B' H' l' s S' e' z => q σ' ρ' m' B' H' l' s S' e' (hR _ _ z)
/-! enumerate of a list of data -/
/-! zip of two lists of data -/
def zipD (xs ys : List PyData) (i : Nat) : PyData := .tuple [xs.getD i .none, ys.getD i .none]
theorem i_zip {R : (List O → Prop) → Nat → (Nat → D) → List O → Prop} (h : EvA K ty ρ l fun zs l1 => ∃ x y ds es, zs = [x, y] ∧ IsL l1 x ds ∧ IsL l1 y es ∧ R (fun l' => IsL l' x ds ∧ IsL l' y es) (min ds.length es.length) (fun i => .f (zipD ds es i)) l1) : EvI K (iZip K ty) ρ l R := fun m B H σ S e Rt q => by
  refine h m B H σ S e _ fun vs m1 B1 H1 zs l1 s1 S1 r1 ⟨x, y, ds, es, exs, hL, hL2, z⟩ => ?_
  subst exs
  cases r1 with
  | cons r1 rr =>
  cases rr with
  | cons r2 rr =>
    cases rr
    obtain ⟨a, us, rfl, e2, qq⟩ := hL.at S1 r1
    obtain ⟨b, us2, rfl, e2', qq2⟩ := hL2.at S1 r2
    refine ⟨a, b, us, us2, rfl, SqL.of e2, SqL.of e2', q (Itz K a b) m1 B1 H1 l1 _ _ _ s1 S1 (fun i m' B' H' l' hs hp S' P => ?_) z⟩
    obtain ⟨a', ws, ea, e3, q3⟩ := P.1.at S' (r1.up hs hp)
    cases ea
    obtain ⟨b', ws2, ea, e3', q3'⟩ := P.2.at S' (r2.up hs hp)
    cases ea
    have hl := q3.length
    have hl2 := q3'.length
    refine ⟨fun hi => ?_, fun hi => ⟨ws, ws2, SqL.of e3, SqL.of e3', by omega⟩⟩
    have hi1 : i < ds.length := by omega
    have hi2 : i < es.length := by omega
    have hd : ds[i]? = some ds[i] := by simp [hi1]
    have hd2 : es[i]? = some es[i] := by simp [hi2]
    obtain ⟨v, hv, rv⟩ := q3.get hd
    obtain ⟨v2, hv2, rv2⟩ := q3'.get hd2
    refine ⟨⟨ws, ws2, v, v2, SqL.of e3, SqL.of e3', hv, hv2⟩, fun y H3 ⟨T, w, w2, ey, hT, eH, hy, hy2⟩ => ?_⟩
    subst ey eH
    have := hy ws (SqL.of e3)
    rw [hv] at this; cases this
    have := hy2 ws2 (SqL.of e3')
    rw [hv2] at this; cases this
    obtain ⟨S3, s3, e4⟩ := S'.allocF (u := .tup [v, v2]) hT
    refine ⟨_, s3, S3, ?_⟩
    show FR K _ (.ref T) (zipD ds es i)
    unfold zipD
    rw [List.getD_eq_getElem?_getD, hd, List.getD_eq_getElem?_getD, hd2]
    exact .tup (.inl e4) (.cons (FR.same s3.sub _ _ rv) (.cons (FR.same s3.sub _ _ rv2) .nil))
/-- a comprehension over a zip of two lists of data, item by item told by F -/
theorem e_lcZ {vs : List Nat} (F : PyData → Option PyData) (hg : GG g vs) (h : EvA K ty ρ l fun zs l1 => ∃ x y ds es, zs = [x, y] ∧ IsL l1 x ds ∧ IsL l1 y es ∧ ds.length ≤ 100000 ∧
      (∀ i, i < min ds.length es.length → AsS K g (.f (zipD ds es i)) (wipe3 ρ vs) l1 fun ρ2 l2 => EvT K tt ρ2 l2 fun b l3 => if b = true then EvS K te ρ2 l3 fun d l4 => ∃ y, d = .f y ∧ F (zipD ds es i) = some y ∧ l4 = l1 else F (zipD ds es i) = none ∧ l3 = l1) ∧
      R (.own l1.length) (l1 ++ [.lst (((List.range (min ds.length es.length)).map (zipD ds es)).filterMap F)])) : EvS K (tLc (iZip K ty) g tt te vs) ρ l R := by
  refine e_lc (good_of hg) (i_zip (h.imp fun zs l1 ⟨x, y, ds, es, ez, hx, hy, hlen, hs, z⟩ => ?_))
  refine ⟨x, y, ds, es, ez, hx, hy, fun i acc l' => acc = (((List.range i).map (zipD ds es)).filterMap F) ∧ l' = l1, ⟨rfl, rfl⟩, ?_, ?_, ?_⟩
  · rintro i acc l' hi ⟨rfl, rfl⟩
    refine ⟨⟨hx, hy⟩, ?_⟩
    have := List.length_filterMap_le F ((List.range i).map (zipD ds es))
    simp only [List.length_map, List.length_range] at this
    omega
  · rintro i acc l' hi ⟨rfl, rfl⟩
    have st : ((List.range (i + 1)).map (zipD ds es)).filterMap F = ((List.range i).map (zipD ds es)).filterMap F ++ (F (zipD ds es i)).toList := by
      rw [List.range_succ, List.map_append, List.filterMap_append]
      congr 1
    refine (hs i hi).imp fun ρ2 l2 h2 => h2.imp fun b l3 h3 => ?_
    cases b with
    | true =>
      rw [if_pos rfl] at h3 ⊢
      exact h3.imp fun d l4 ⟨y, e1, e2, e3⟩ => ⟨y, e1, by rw [st, e2]; rfl, e3⟩
    | false =>
      rw [if_neg nofun] at h3 ⊢
      exact ⟨by rw [st, h3.1]; simp, h3.2⟩
  · rintro acc l' ⟨rfl, rfl⟩
    exact z
/-! all, any, sum of an own list -/
def bPy (bs : List Bool) : List PyData := bs.map PyData.bool
theorem frs_bls : ∀ {vs : List V} {bs : List Bool}, FRs K B vs (bPy bs) → vs = bs.map V.bl
  | _, [], h => by cases h; rfl
  | _, b :: bs, h => by
    cases h with
    | cons h1 h2 =>
      cases h1
      rw [frs_bls (bs := bs) h2]; rfl
theorem c_all {x : D} {bs : List Bool} (h : IsL l x (bPy bs)) (z : R (.f (.bool (bs.all id))) l) : CaS K (rAll K) [x] l R := fun m B H vs S r Q q => by
  cases r with
  | cons r1 r2 =>
    cases r2
    obtain ⟨a, us, e1, e2, q1⟩ := h.at S r1
    rw [frs_bls q1] at e2
    subst e1
    exact ⟨a, bs, rfl, SqL.of e2, retF S q (FR.bl _) z⟩
/-! is True, is not True -/
/-! own objects seen as data while a callee runs -/
def seenB (m : List Addr) (B H : Hp) : Hp := fun b => if b ∈ m then H b else B b
theorem seen_same (S : SR K m B H l) : Same B (seenB m B H) := fun b o e => by
  unfold seenB
  split
  · exact S.sub b o e
  · exact e
end
end L3
/-! L3zb: ways, shut lists and what shows a hanging, as plain lists -/
namespace L3
open PySem L2
theorem eqv_str (a b : Str) : PyData.eqv (.str a) (.str b) = decide (a = b) := by simp [PyData.eqv]; rfl
theorem eqv_pair (a b c d : Str) : PyData.eqv (.tuple [.str a, .str b]) (.tuple [.str c, .str d]) = decide ((a, b) = (c, d)) := by
  have e : PyData.eqv (.tuple [.str a, .str b]) (.tuple [.str c, .str d]) = (PyData.eqv (.str a) (.str c) && PyData.eqv (.str b) (.str d)) := by simp [PyData.eqv, PyData.eqvAll]
  rw [e, eqv_str, eqv_str]
  by_cases h1 : a = c <;> by_cases h2 : b = d <;> simp [h1, h2]
theorem any_pPy (es : List (Str × Str)) (a b : Str) : ((pPy es).any fun e => PyData.eqv e (.tuple [.str a, .str b])) = decide ((a, b) ∈ es) := by
  induction es with
  | nil => simp [pPy]
  | cons e es ih =>
    show (PyData.eqv (.tuple [.str e.1, .str e.2]) _ || (pPy es).any _) = _
    rw [ih, eqv_pair]
    by_cases h1 : (e.1, e.2) = (a, b)
    · have : e = (a, b) := h1
      subst this; simp
    · have h2 : ¬ (a, b) = e := fun h => h1 (by rw [← h])
      have h3 : ¬ (e = (a, b)) := fun h => h2 h.symm
      simp [h2, h3]
theorem cut_tail (xs : List PyData) : cutD xs (some 1) none = xs.tail := by
  have e1 : HT.sIx xs.length 0 (some 1) = min 1 xs.length := rfl
  unfold cutD
  rw [e1, HT.sIx_none]
  cases xs with
  | nil => rfl
  | cons x xs =>
    have e2 : min 1 (x :: xs).length = 1 := by simp
    rw [e2]
    show (List.drop 1 (x :: xs)).take _ = xs
    rw [List.drop_one, List.tail_cons]
    apply List.take_of_length_le
    simp
theorem cut_take (xs : List PyData) {i : Nat} (h : i ≤ xs.length) : cutD xs none (some (i : Int)) = xs.take i := by
  have e1 : HT.sIx xs.length xs.length (some (i : Int)) = i := by
    show (if ((i : Int)) < 0 then ((i : Int) + (xs.length : Int)).toNat else min (i : Int).toNat xs.length) = _
    rw [if_neg (by omega)]
    omega
  unfold cutD
  rw [e1, HT.sIx_none, List.drop_zero, Nat.sub_zero]
theorem sPy_tail (xs : List Str) : (sPy xs).tail = sPy xs.tail := (List.map_tail ..).symm
end L3
/-! L3zc: zip under a plain name: each pair stays -/
namespace L3
open PySem L2 PySem.Spec PyProof.Rows
end L3
/-! L3zd: max of a list, with what is told where it is empty -/
namespace L3
open PySem L2 PySem.Spec PyProof.Rows
/-- the greatest, or d where there is none -/
def IsMaxD (ns : List Int) (d m : Int) : Prop := (ns = [] ∧ m = d) ∨ (m ∈ ns ∧ ∀ a ∈ ns, a ≤ m)
end L3
/-! L3ze: a dict's pairs and keys walked in a comprehension (the dict locked), pop, max with a default, what is never reached -/
namespace L3
open PySem L2
/-- lists and tuples that stand in the one stand in the other -/
structure Keeps (B B' : Hp) : Prop where
  l : ∀ a xs, B a = some (.lst xs) → B' a = some (.lst xs)
  t : ∀ a xs, B a = some (.tup xs) → B' a = some (.tup xs)
  fl : ∀ a o xs, B a = some (.frz o (.lst xs)) → B' a = some (.frz o (.lst xs))
  ft : ∀ a o xs, B a = some (.frz o (.tup xs)) → B' a = some (.frz o (.tup xs))
  k : ∀ a ks, B a = some (.dK ks) → B' a = some (.dK ks)
  x : ∀ a φ, B a = some (.ext φ) → B' a = some (.ext φ)
  d : ∀ a fs, B a = some (.xd fs) → B' a = some (.xd fs)
section
variable {K : PySem.W.Frag} {m m' : List Addr} {B B' H H' : Hp} {l : List O} {σ : St} {ρ : List (Option D)} {R : D → List O → Prop} {E : E3} {ta tb te tc tl : TE} {tt : TT} {t u : TS} {ty tz : TA} {g : TG}
theorem sqT_keeps {a : Addr} {xs : List V} (e : Keeps B B') (h : SqT K B a xs) : SqT K B' a xs := by
  rcases h with (h | ⟨o, h⟩) | h
  · exact .inl (.inl (e.t _ _ h))
  · exact .inl (.inr ⟨o, e.ft _ _ _ h⟩)
  · exact .inr h
theorem sqL_keeps {a : Addr} {xs : List V} (e : Keeps B B') (h : SqL K B a xs) : SqL K B' a xs := by
  rcases h with (h | ⟨o, h⟩) | h
  · exact .inl (.inl (e.l _ _ h))
  · exact .inl (.inr ⟨o, e.fl _ _ _ h⟩)
  · exact .inr h
theorem TuK.keeps {a : Addr} {xs : List V} (e : Keeps B B') (h : TuK K B a xs) : TuK K B' a xs := by
  rcases h with h | h
  · exact .inl (e.t _ _ h)
  · exact .inr ⟨h.1, sqT_keeps e h.2⟩
theorem XdOk.keeps {fs : List (Str × V)} {d : Option Addr} (e : Keeps B B') (h : XdOk B fs d) : XdOk B' fs d := by
  cases d with
  | none => exact h
  | some dx => exact e.d _ _ h
theorem PlT.keeps {a : Addr} {xs : List V} (e : Keeps B B') (h : PlT B a xs) : PlT B' a xs := by
  obtain ⟨o, h1, h2⟩ := h
  exact ⟨o, e.ft _ _ _ h1, h2⟩
mutual
theorem FR.keeps (e : Keeps B B') : ∀ (d : PyData) (v : V), FR K B v d → FR K B' v d
  | .none, _, h => by cases h; exact .non
  | .bool _, _, h => by cases h; exact .bl _
  | .int _, _, h => by cases h; exact .int _
  | .str _, _, h => by cases h; exact .str _
  | .list ds, _, h => by
    cases h with
    | lst h1 h2 => exact .lst (e.l _ _ h1) (FRs.keeps e ds _ h2)
  | .tuple ds, _, h => by
    cases h with
    | tup h1 h2 => exact .tup (h1.keeps e) (FRs.keeps e ds _ h2)
  | .dict [(.none, .tuple ds)], _, h => by
    cases h with
    | plt h1 h2 => exact .plt (h1.keeps e) (FRs.keeps e ds _ h2)
  | .dict [], _, h => by
    cases h with
    | dk0 h1 => exact .dk0 (e.k _ _ h1)
  | .dict (_ :: _ :: _), _, h => by cases h
  | .dict [(.none, .none)], _, h => by cases h
  | .dict [(.none, .bool _)], _, h => by cases h
  | .dict [(.none, .int _)], _, h => by cases h
  | .dict [(.none, .str _)], _, h => by cases h
  | .dict [(.none, .list _)], _, h => by cases h
  | .dict [(.none, .dict _)], _, h => by cases h
  | .dict [(.bool _, _)], _, h => by
    cases h with
    | dkn h1 => exact .dkn (e.k _ _ h1)
  | .dict [(.int _, _)], _, h => by
    cases h with
    | dki h1 h2 => exact .dki (e.k _ _ h1) h2
  | .dict [(.str _, _)], _, h => by
    cases h with
    | dk1 h1 h2 => exact .dk1 (e.k _ _ h1) h2
  | .dict [(.list _, _)], _, h => by cases h
  | .dict [(.tuple _, .tuple ds)], _, h => by
    cases h with
    | exc h0 h1 h2 h3 h4 => exact .exc h0 (e.x _ _ h1) (h2.keeps e) h3 (FRs.keeps e ds _ h4)
  | .dict [(.tuple _, .none)], _, h => by cases h
  | .dict [(.tuple _, .bool _)], _, h => by cases h
  | .dict [(.tuple _, .int _)], _, h => by cases h
  | .dict [(.tuple _, .str _)], _, h => by cases h
  | .dict [(.tuple _, .list _)], _, h => by cases h
  | .dict [(.tuple _, .dict _)], _, h => by cases h
  | .dict [(.dict _, _)], _, h => by cases h
theorem FRs.keeps (e : Keeps B B') : ∀ (ds : List PyData) (vs : List V), FRs K B vs ds → FRs K B' vs ds
  | [], _, h => by cases h; exact .nil
  | d :: ds, _, h => by
    cases h with
    | cons h1 h2 => exact .cons (FR.keeps e d _ h1) (FRs.keeps e ds _ h2)
end
theorem VR.keeps {v : V} {d : D} (e : Keeps B B') (h : VR K m B v d) : VR K m B' v d := by
  cases d with
  | f d => exact FR.keeps e d v h
  | own n => exact h
  | sq q =>
    obtain ⟨a, ea, h⟩ := h
    exact ⟨a, ea, sqL_keeps e h⟩
theorem OR.keeps {a : Addr} {o : O} (e : Keeps B B') (hH : ∀ u, H a = some u → H' a = some u) (h : OR K m B H a o) : OR K m B' H' a o := by
  cases o with
  | lst ds => obtain ⟨xs, e1, r⟩ := h; exact ⟨xs, hH _ e1, FRs.keeps e ds xs r⟩
  | rfs ds => obtain ⟨xs, e1, r⟩ := h; exact ⟨xs, hH _ e1, Paired.up r fun _ _ z => z.keeps e⟩
  | tpr ds => obtain ⟨xs, e1, r⟩ := h; exact ⟨xs, hH _ e1, Paired.up r fun _ _ z => z.keeps e⟩
  | dct kvs => obtain ⟨xs, e1, r⟩ := h; exact ⟨xs, hH _ e1, Paired.up r fun _ _ z => ⟨z.1, FR.keeps e _ _ z.2⟩⟩
  | dctT kvs => obtain ⟨xs, e1, r⟩ := h; exact ⟨xs, hH _ e1, Paired.up r fun _ _ z => ⟨z.1, FR.keeps e _ _ z.2⟩⟩
  | dctL od ks kvs => obtain ⟨e1, r⟩ := h; exact ⟨hH _ e1, Paired.up r fun _ _ z => ⟨z.1, FR.keeps e _ _ z.2⟩⟩
  | ins C fs => obtain ⟨dx, gs, e1, r⟩ := h; exact ⟨dx, gs, hH _ e1, Paired.up r fun _ _ z => ⟨z.1, z.2.keeps e⟩⟩
  | dctD kvs => obtain ⟨ks, e1, r⟩ := h; exact ⟨ks, hH _ e1, Paired.up r fun _ _ z => ⟨z.1, z.2.keeps e⟩⟩
  | gone => trivial
end
end L3
/-! L3zf: dicts told by a function, walks that end at a thing, layers, orders that go forward, as plain lists -/
namespace L3
open PySem L2
/-! a dict whose values a function tells -/
/-! walks that end at a thing, by their ties -/
inductive HasW {α : Type} (es : List (α × α)) : α → Nat → Prop
  | zero (a : α) : HasW es a 0
  | succ {a b : α} {d : Nat} : (a, b) ∈ es → HasW es a d → HasW es b (d + 1)
def Layer {α : Type} (es : List (α × α)) (k : α) (d : Nat) : Prop := HasW es k d ∧ ∀ d', HasW es k d' → d' ≤ d
theorem Layer.uniq {α : Type} {es : List (α × α)} {k : α} {d d' : Nat} (h : Layer es k d) (h' : Layer es k d') : d = d' := Nat.le_antisymm (h'.2 _ h.1) (h.2 _ h'.1)
/-- ties that go forward by a rank -/
def Ranked {α : Type} (n : Nat) (es : List (α × α)) : Prop := ∃ r : α → Nat, (∀ e ∈ es, r e.1 < r e.2) ∧ ∀ k, r k ≤ n
theorem HasW.le {α : Type} {es : List (α × α)} {r : α → Nat} (hr : ∀ e ∈ es, r e.1 < r e.2) {k : α} {d : Nat} (h : HasW es k d) : d ≤ r k := by
  induction h with
  | zero => exact Nat.zero_le _
  | succ h1 _ ih => have := hr _ h1; simp only at this; omega
/-! orders -/
structure Topo (ts : List Str) (es : List (Str × Str)) (ord : List Str) : Prop where
  nd : ord.Nodup
  sub : ∀ x ∈ ord, x ∈ ts
  fw : ∀ (i : Nat) x, ord[i]? = some x → ∀ a, (a, x) ∈ es → a ∈ ord.take i
theorem Topo.snoc {ts : List Str} {es : List (Str × Str)} {ord : List Str} (h : Topo ts es ord) {x : Str} (hx : x ∈ ts) (hn : ¬ x ∈ ord) (hp : ∀ a, (a, x) ∈ es → a ∈ ord) : Topo ts es (ord ++ [x]) := by
  refine ⟨?_, fun y hy => ?_, fun i y hi a he => ?_⟩
  · rw [List.nodup_append]
    refine ⟨h.nd, by simp, fun p hp2 q hq e => ?_⟩
    have : q = x := by simpa using hq
    subst this e
    exact hn hp2
  · rcases List.mem_append.mp hy with hy | hy
    · exact h.sub y hy
    · have : y = x := by simpa using hy
      subst this; exact hx
  · by_cases hil : i < ord.length
    · rw [List.getElem?_append_left hil] at hi
      rw [List.take_append_of_le_length (by omega)]
      exact h.fw i y hi a he
    · have e1 := (List.getElem?_eq_some_iff.mp hi).1
      rw [List.length_append] at e1
      simp only [List.length_cons, List.length_nil] at e1
      have e2 : i = ord.length := by omega
      subst e2
      rw [List.getElem?_append_right (by omega)] at hi
      have : x = y := by simpa using hi
      subst this
      rw [List.take_left']
      · exact hp a he
      · rfl
/-- the ties that go to x from what is not done -/
def cntD (es : List (Str × Str)) (done : List Str) (x : Str) : Nat := es.countP fun e => decide (e.2 = x) && !decide (e.1 ∈ done)
theorem not_mem_take {α : Type} {xs : List α} (hn : xs.Nodup) {i : Nat} {x : α} (h : xs[i]? = some x) : ¬ x ∈ xs.take i := fun hm => by
  have nd := hn.sublist (List.take_sublist (i + 1) xs)
  rw [take_next h, List.nodup_append] at nd
  exact absurd rfl (nd.2.2 x hm x (by simp))
end L3
/-! L3zg: ranges downward; what is greatest -/
namespace L3
open PySem L2
theorem IsMaxD.uniq {ns : List Int} {d m m' : Int} (h : IsMaxD ns d m) (h' : IsMaxD ns d m') : m = m' := by
  rcases h with ⟨h1, h2⟩ | ⟨h1, h2⟩
  · rcases h' with ⟨h3, h4⟩ | ⟨h3, h4⟩
    · rw [h2, h4]
    · rw [h1] at h3; cases h3
  · rcases h' with ⟨h3, h4⟩ | ⟨h3, h4⟩
    · rw [h3] at h1; cases h1
    · have := h2 _ h3
      have := h4 _ h1
      omega
end L3
/-! L3zh: remove; numbers that are taken away one by one; pairs that stand unlike -/
namespace L3
open PySem L2
/-- taken away so far, and what is left -/
structure Taken (n : Nat) (left found : List Int) : Prop where
  nl : left.Nodup
  nf : found.Nodup
  all : ∀ k, InR n k ↔ k ∈ left ∨ k ∈ found
  ap : ∀ k, k ∈ left → ¬ k ∈ found
theorem Taken.take {n : Nat} {left found : List Int} (h : Taken n left found) {j : Nat} {k : Int} (hj : left[j]? = some k) : Taken n (left.eraseIdx j) (found ++ [k]) := by
  have hm : ∀ x, x ∈ left.eraseIdx j ↔ x ∈ left ∧ x ≠ k := by
    intro x
    rw [List.mem_eraseIdx_iff_getElem?]
    obtain ⟨hl, e1⟩ := List.getElem?_eq_some_iff.mp hj
    constructor
    · rintro ⟨i, hne, hi⟩
      refine ⟨List.mem_of_getElem? hi, fun e => hne ?_⟩
      obtain ⟨hl2, e2⟩ := List.getElem?_eq_some_iff.mp hi
      exact (List.getElem_inj h.nl).mp (by rw [e2, e1, e])
    · rintro ⟨hx, hne⟩
      obtain ⟨i, hi⟩ := List.getElem?_of_mem hx
      exact ⟨i, fun e => hne (by rw [e, hj] at hi; exact (Option.some.inj hi).symm), hi⟩
  have hk := List.mem_of_getElem? hj
  refine ⟨h.nl.sublist (List.eraseIdx_sublist _ _), ?_, fun x => ?_, fun x hx hf => ?_⟩
  · rw [List.nodup_append]
    refine ⟨h.nf, by simp, fun p hp q hq e => ?_⟩
    have : q = k := by simpa using hq
    subst this e
    exact h.ap _ hk hp
  · rw [h.all, hm, List.mem_append, List.mem_singleton]
    constructor
    · rintro (a | a)
      · by_cases e : x = k
        · exact .inr (.inr e)
        · exact .inl ⟨a, e⟩
      · exact .inr (.inl a)
    · rintro (⟨a, _⟩ | a | rfl)
      · exact .inl a
      · exact .inr a
      · exact .inl hk
  · obtain ⟨a, b⟩ := (hm x).mp hx
    rcases List.mem_append.mp hf with c | c
    · exact h.ap x a c
    · exact b (by simpa using c)
theorem Taken.len {n : Nat} {left found : List Int} (h : Taken n left found) : left.length ≤ n ∧ found.length ≤ n := by
  constructor
  · have := nodup_le (ys := upto n) h.nl fun k hk => mem_upto.mpr ((h.all k).mpr (.inl hk))
    rw [upto_len] at this; exact this
  · have := nodup_le (ys := upto n) h.nf fun k hk => mem_upto.mpr ((h.all k).mpr (.inr hk))
    rw [upto_len] at this; exact this
/-! pairs that stand unlike -/
end L3
/-! L3zi: count of texts; rings and what is left; ways as a function of the ties -/
namespace L3
open PySem L2 PySem.Spec PyProof.Rows
/-! least walks: there is one, and one alone -/
/-! what is left -/
end L3
/-! L3zj: all that is told of ties of numbers -/
namespace L3
open PySem L2
end L3
/-! L3zk: knots within knots, as plain lists -/
namespace L3
open PySem L2
abbrev Knots := List (Str × List Str)
def ksPy (ks : Knots) : List PyData := ks.map fun k => .tuple [.str k.1, plD (sPy k.2)]
theorem ksPy_len (ks : Knots) : (ksPy ks).length = ks.length := List.length_map ..
theorem ksPy_get {ks : Knots} {i : Nat} {d : PyData} (h : (ksPy ks)[i]? = some d) : ∃ k, ks[i]? = some k ∧ d = .tuple [.str k.1, plD (sPy k.2)] := map_get h
def nil0 : Str := ("" : Str)
def insAt {α : Type} (xs : List α) (j : Nat) (x : α) : List α := xs.take j ++ [x] ++ xs.drop j
theorem mem_insAt {α : Type} {xs : List α} {j : Nat} {x y : α} : y ∈ insAt xs j x ↔ y ∈ xs ∨ y = x := by
  refine ⟨fun h => mem_ins h, fun h => ?_⟩
  unfold insAt
  rcases h with h | rfl
  · rw [← List.take_append_drop j xs] at h
    rcases List.mem_append.mp h with h | h
    · simp [h]
    · simp [h]
  · simp
theorem insAt_perm {α : Type} (xs : List α) (j : Nat) (x : α) : (insAt xs j x).Perm (x :: xs) := by
  have p1 : (xs.take j ++ [x] ++ xs.drop j).Perm ([x] ++ xs.take j ++ xs.drop j) := List.perm_append_comm.append_right _
  have p2 : [x] ++ xs.take j ++ xs.drop j = x :: xs := by rw [List.append_assoc, List.take_append_drop]; rfl
  rw [p2] at p1
  exact p1
theorem insAt_nodup {α : Type} {xs : List α} {x : α} (j : Nat) (h : xs.Nodup) (hx : ¬ x ∈ xs) : (insAt xs j x).Nodup :=
  (insAt_perm xs j x).nodup_iff.mpr (List.nodup_cons.mpr ⟨hx, h⟩)
theorem insAt_len {α : Type} (xs : List α) (j : Nat) (x : α) : (insAt xs j x).length = xs.length + 1 := len_ins
theorem insAt_map {α β : Type} (f : α → β) (xs : List α) (j : Nat) (x : α) : (insAt xs j x).map f = insAt (xs.map f) j (f x) := by
  unfold insAt
  simp [List.map_take, List.map_drop]
/-- u stands in the knot k -/
def Stands (ks : Knots) (u k : Str) : Prop := ∃ xs, (k, xs) ∈ ks ∧ u ∈ xs
theorem Stands.knot {ks : Knots} {u k : Str} (h : Stands ks u k) : k ∈ ks.map (·.1) := by
  obtain ⟨xs, h1, _⟩ := h
  exact List.mem_map.mpr ⟨_, h1, rfl⟩
theorem stands_put {ks : Knots} {i : Nat} {k x : Str} {xs : List Str} (hi : ks[i]? = some (k, xs)) (j : Nat) {u k0 : Str} : Stands (ks.set i (k, insAt xs j x)) u k0 ↔ Stands ks u k0 ∨ (u = x ∧ k0 = k) := by
  have hlt : i < ks.length := (List.getElem?_eq_some_iff.mp hi).1
  constructor
  · rintro ⟨ys, h1, h2⟩
    rcases List.mem_or_eq_of_mem_set h1 with h | h
    · exact .inl ⟨ys, h, h2⟩
    · cases h
      rcases mem_insAt.mp h2 with h | rfl
      · exact .inl ⟨xs, List.mem_of_getElem? hi, h⟩
      · exact .inr ⟨rfl, rfl⟩
  · rintro (⟨ys, h1, h2⟩ | ⟨rfl, rfl⟩)
    · obtain ⟨n, hn⟩ := List.getElem?_of_mem h1
      by_cases e : n = i
      · subst e
        rw [hi] at hn
        cases hn
        exact ⟨_, List.mem_of_getElem? (i := n) (by rw [List.getElem?_set_self hlt]), mem_insAt.mpr (.inl h2)⟩
      · exact ⟨ys, List.mem_of_getElem? (i := n) (by rw [List.getElem?_set_ne (fun q => e q.symm)]; exact hn), h2⟩
    · exact ⟨_, List.mem_of_getElem? (i := i) (by rw [List.getElem?_set_self hlt]), mem_insAt.mpr (.inr rfl)⟩
theorem stands_grp {ks : Knots} {j : Nat} {x u k0 : Str} : Stands (insAt ks j (x, [])) u k0 ↔ Stands ks u k0 := by
  constructor
  · rintro ⟨ys, h1, h2⟩
    rcases mem_insAt.mp h1 with h | h
    · exact ⟨ys, h, h2⟩
    · cases h; cases h2
  · rintro ⟨ys, h1, h2⟩
    exact ⟨ys, mem_insAt.mpr (.inl h1), h2⟩
structure Tree (ks : Knots) (us : List Str) (deep : Int) (r : Str → Int) : Prop where
  names : (ks.map (·.1)).Nodup
  first : ∃ xs rest, ks = (nil0, xs) :: rest
  one : ∀ u k k', Stands ks u k → Stands ks u k' → k = k'
  all : ∀ u, u ∈ us ↔ ∃ k, Stands ks u k
  nt : ∀ u ∈ us, u ≠ nil0
  grp : ∀ k ∈ ks, k.1 ≠ nil0 → k.1 ∈ us
  nd : ∀ k ∈ ks, k.2.Nodup
  und : us.Nodup
  lev : ∀ u k, Stands ks u k → u ∈ ks.map (·.1) → r k < r u
  rng : ∀ k ∈ ks, 0 ≤ r k.1 ∧ r k.1 ≤ deep
  len : ks.length ≤ us.length + 1
theorem Tree.start {deep : Int} (h : 0 ≤ deep) : Tree [(nil0, [])] [] deep fun _ => 0 where
  names := by simp
  first := ⟨_, _, rfl⟩
  one := fun u k k' ⟨xs, h1, h2⟩ => by cases List.mem_singleton.mp h1; cases h2
  all := fun u => ⟨nofun, fun ⟨k, xs, h1, h2⟩ => by cases List.mem_singleton.mp h1; cases h2⟩
  nt := nofun
  grp := fun k hk h => by cases List.mem_singleton.mp hk; exact absurd rfl h
  nd := fun k hk => by cases List.mem_singleton.mp hk; exact List.nodup_nil
  und := List.nodup_nil
  lev := fun u k ⟨xs, h1, h2⟩ => by cases List.mem_singleton.mp h1; cases h2
  rng := fun k hk => ⟨Int.le_refl _, h⟩
  len := Nat.le_refl _
section
variable {ks : Knots} {us : List Str} {deep : Int} {r : Str → Int}
theorem Tree.knot_in (T : Tree ks us deep r) {k : Str} (h : k ∈ ks.map (·.1)) : k = nil0 ∨ k ∈ us := by
  obtain ⟨x, hx, rfl⟩ := List.mem_map.mp h
  by_cases e : x.1 = nil0
  · exact .inl e
  · exact .inr (T.grp x hx e)
theorem set_names {i : Nat} {k : Str} {xs ys : List Str} (hi : ks[i]? = some (k, xs)) : (ks.set i (k, ys)).map (·.1) = ks.map (·.1) := by
  rw [List.map_set]
  refine List.ext_getElem? fun n => ?_
  by_cases e : n = i
  · subst e
    have hlt : n < ks.length := (List.getElem?_eq_some_iff.mp hi).1
    rw [List.getElem?_set_self (by simpa using hlt), List.getElem?_map, hi]
    rfl
  · rw [List.getElem?_set_ne (fun q => e q.symm)]
theorem Tree.put (T : Tree ks us deep r) {i : Nat} {k x : Str} {xs : List Str} (hi : ks[i]? = some (k, xs)) (j : Nat) (hx : ¬ x ∈ us) (hn : x ≠ nil0) : Tree (ks.set i (k, insAt xs j x)) (us ++ [x]) deep r where
  names := by rw [set_names hi]; exact T.names
  first := by
    obtain ⟨xs0, rest, e⟩ := T.first
    subst e
    cases i with
    | zero => cases hi; exact ⟨_, _, rfl⟩
    | succ i => exact ⟨_, _, rfl⟩
  one := fun u k1 k2 h1 h2 => by
    rcases (stands_put hi j).mp h1 with a | ⟨a, a2⟩
    · rcases (stands_put hi j).mp h2 with b | ⟨b, b2⟩
      · exact T.one _ _ _ a b
      · subst b; exact absurd ((T.all _).mpr ⟨_, a⟩) hx
    · rcases (stands_put hi j).mp h2 with b | ⟨b, b2⟩
      · subst a; exact absurd ((T.all _).mpr ⟨_, b⟩) hx
      · rw [a2, b2]
  all := fun u => by
    rw [List.mem_append, List.mem_singleton, T.all u]
    constructor
    · rintro (⟨k0, h⟩ | rfl)
      · exact ⟨k0, (stands_put hi j).mpr (.inl h)⟩
      · exact ⟨k, (stands_put hi j).mpr (.inr ⟨rfl, rfl⟩)⟩
    · rintro ⟨k0, h⟩
      rcases (stands_put hi j).mp h with a | ⟨a, _⟩
      · exact .inl ⟨_, a⟩
      · exact .inr a
  nt := fun u hu => by
    rcases List.mem_append.mp hu with h | h
    · exact T.nt u h
    · cases List.mem_singleton.mp h; exact hn
  grp := fun y hy h => by
    have : y.1 ∈ ks.map (·.1) := by rw [← set_names (ys := insAt xs j x) hi]; exact List.mem_map_of_mem hy
    rcases T.knot_in this with e | e
    · exact absurd e h
    · exact List.mem_append_left _ e
  nd := fun y hy => by
    rcases List.mem_or_eq_of_mem_set hy with h | rfl
    · exact T.nd y h
    · refine insAt_nodup j (T.nd _ (List.mem_of_getElem? hi)) fun h => hx ((T.all x).mpr ⟨k, xs, List.mem_of_getElem? hi, h⟩)
  und := by
    rw [List.nodup_append]
    exact ⟨T.und, by simp, fun a ha b hb => by cases List.mem_singleton.mp hb; exact fun e => hx (e ▸ ha)⟩
  lev := fun u k1 h1 hu => by
    rw [set_names hi] at hu
    rcases (stands_put hi j).mp h1 with a | ⟨a, _⟩
    · exact T.lev u k1 a hu
    · subst a
      rcases T.knot_in hu with e | e
      · exact absurd e hn
      · exact absurd e hx
  rng := fun y hy => by
    have : y.1 ∈ ks.map (·.1) := by rw [← set_names (ys := insAt xs j x) hi]; exact List.mem_map_of_mem hy
    obtain ⟨z, hz, e⟩ := List.mem_map.mp this
    rw [← e]
    exact T.rng z hz
  len := by rw [List.length_set, List.length_append]; have := T.len; simp; omega
theorem Tree.group (T : Tree ks us deep r) {k x : Str} {v : Int} (j : Nat) (hs : Stands ks x k) (hx : ¬ x ∈ ks.map (·.1)) (hv : v = r k + 1) (hd : r k < deep) (hl : ks.length ≤ us.length) : Tree (insAt ks (j + 1) (x, [])) us deep (fun y => if y = x then v else r y) := by
  have hxu : x ∈ us := (T.all x).mpr ⟨k, hs⟩
  have hm : ∀ {y : Str}, y ∈ (insAt ks (j + 1) (x, [])).map (·.1) → y ∈ ks.map (·.1) ∨ y = x := fun h => by
    rw [insAt_map] at h
    exact mem_insAt.mp h
  have ne : ∀ {y : Str}, y ∈ ks.map (·.1) → y ≠ x := fun h e => hx (e ▸ h)
  exact {
    names := by rw [insAt_map]; exact insAt_nodup _ T.names hx
    first := by
      obtain ⟨xs0, rest, e⟩ := T.first
      subst e
      exact ⟨_, _, rfl⟩
    one := fun u k1 k2 h1 h2 => T.one _ _ _ (stands_grp.mp h1) (stands_grp.mp h2)
    all := fun u => by
      rw [T.all u]
      exact ⟨fun ⟨k0, h⟩ => ⟨k0, stands_grp.mpr h⟩, fun ⟨k0, h⟩ => ⟨k0, stands_grp.mp h⟩⟩
    nt := T.nt
    grp := fun y hy h => by
      rcases mem_insAt.mp hy with a | rfl
      · exact T.grp y a h
      · exact hxu
    nd := fun y hy => by
      rcases mem_insAt.mp hy with a | rfl
      · exact T.nd y a
      · exact List.nodup_nil
    und := T.und
    lev := fun u k1 h1 hu => by
      have h0 := stands_grp.mp h1
      show (if k1 = x then v else r k1) < if u = x then v else r u
      rw [if_neg (ne h0.knot)]
      by_cases e : u = x
      · subst e
        rw [if_pos rfl, T.one _ _ _ (stands_grp.mp h1) hs]
        omega
      · rw [if_neg e]
        rcases hm hu with a | a
        · exact T.lev u k1 h0 a
        · exact absurd a e
    rng := fun y hy => by
      show 0 ≤ (if y.1 = x then v else r y.1) ∧ (if y.1 = x then v else r y.1) ≤ deep
      obtain ⟨z, hz, e⟩ := List.mem_map.mp hs.knot
      have := T.rng z hz
      rw [e] at this
      rcases mem_insAt.mp hy with a | rfl
      · by_cases e : y.1 = x
        · rw [if_pos e]; omega
        · rw [if_neg e]; exact T.rng y a
      · rw [if_pos rfl]; omega
    len := by rw [insAt_len]; omega }
/-- the knots around, from the top down, and what they are around -/
inductive Up (ks : Knots) : Str → List Str → Prop
  | top : Up ks nil0 [nil0]
  | step {u k : Str} {p : List Str} : u ≠ nil0 → Stands ks u k → Up ks k p → Up ks u (p ++ [u])
theorem Up.uniq (T : Tree ks us deep r) {u : Str} {p : List Str} (h : Up ks u p) : ∀ {q : List Str}, Up ks u q → p = q := by
  induction h with
  | top =>
    intro q h'
    cases h' with
    | top => rfl
    | step h1 _ _ => exact absurd rfl h1
  | step h1 h2 _ ih =>
    intro q h'
    cases h' with
    | top => exact absurd rfl h1
    | step g1 g2 g3 =>
      have := T.one _ _ _ h2 g2
      subst this
      rw [ih g3]
/-- every knot has its way up, no longer than its rank -/
theorem Tree.up (T : Tree ks us deep r) : ∀ k, k ∈ ks.map (·.1) → ∃ p, Up ks k p ∧ p.length ≤ (r k).toNat + 1 := by
  have pos : ∀ {k : Str}, k ∈ ks.map (·.1) → 0 ≤ r k := fun h => by
    obtain ⟨x, hx, rfl⟩ := List.mem_map.mp h
    exact (T.rng x hx).1
  have go : ∀ (n : Nat) (k : Str), (r k).toNat ≤ n → k ∈ ks.map (·.1) → ∃ p, Up ks k p ∧ p.length ≤ (r k).toNat + 1 := by
    intro n
    induction n with
    | zero =>
      intro k hk hm
      rcases T.knot_in hm with e | e
      · subst e; exact ⟨_, .top, by simp⟩
      · obtain ⟨k2, hs⟩ := (T.all k).mp e
        have h1 := T.lev k k2 hs hm
        have h2 := pos hs.knot
        omega
    | succ n ih =>
      intro k hk hm
      rcases T.knot_in hm with e | e
      · subst e; exact ⟨_, .top, by simp⟩
      · obtain ⟨k2, hs⟩ := (T.all k).mp e
        have h1 := T.lev k k2 hs hm
        have h2 := pos hs.knot
        obtain ⟨p, hp, hl⟩ := ih k2 (by omega) hs.knot
        exact ⟨_, .step (T.nt k e) hs hp, by rw [List.length_append]; simp; omega⟩
  exact fun k hk => go _ k (Nat.le_refl _) hk
theorem Tree.path (T : Tree ks us deep r) {u : Str} (hu : u ∈ us) : ∃ p, Up ks u p ∧ p.length ≤ deep.toNat + 2 := by
  obtain ⟨k, hs⟩ := (T.all u).mp hu
  obtain ⟨p, hp, hl⟩ := T.up k hs.knot
  obtain ⟨x, hx, ex⟩ := List.mem_map.mp hs.knot
  have := T.rng x hx
  rw [ex] at this
  exact ⟨_, .step (T.nt u hu) hs hp, by rw [List.length_append]; simp; omega⟩
theorem Up.ne {u : Str} {p : List Str} (h : Up ks u p) : ∃ s, p = nil0 :: s := by
  induction h with
  | top => exact ⟨[], rfl⟩
  | step _ _ _ ih => obtain ⟨s, rfl⟩ := ih; exact ⟨_, rfl⟩
theorem Up.last {u : Str} {p : List Str} (h : Up ks u p) : p.getLast? = some u := by
  cases h with
  | top => rfl
  | step _ _ _ => simp
end
/-- how far two lists go together -/
def common : List Str → List Str → Nat
  | x :: xs, y :: ys => if x = y then common xs ys + 1 else 0
  | _, _ => 0
theorem common_le : ∀ xs ys : List Str, common xs ys ≤ min xs.length ys.length
  | [], _ => by simp [common]
  | _ :: _, [] => by simp [common]
  | x :: xs, y :: ys => by
    have := common_le xs ys
    simp only [common, List.length_cons]
    split <;> omega
theorem common_at : ∀ {xs ys : List Str} {i : Nat}, i < common xs ys → xs[i]? = ys[i]?
  | [], _, _, h => by simp [common] at h
  | _ :: _, [], _, h => by simp [common] at h
  | x :: xs, y :: ys, i, h => by
    simp only [common] at h
    split at h
    · rename_i e
      subst e
      cases i with
      | zero => rfl
      | succ i => simpa using common_at (xs := xs) (ys := ys) (i := i) (by omega)
    · omega
theorem common_end : ∀ {xs ys : List Str}, common xs ys < min xs.length ys.length → xs[common xs ys]? ≠ ys[common xs ys]?
  | [], _, h => by simp at h
  | _ :: _, [], h => by simp at h
  | x :: xs, y :: ys, h => by
    simp only [common, List.length_cons] at h ⊢
    split
    · rename_i e
      rw [if_pos e] at h
      have := common_end (xs := xs) (ys := ys) (by omega)
      simpa using this
    · rename_i e
      simpa using e
/-- where two ways part -/
def partP (p q : List Str) : Option (Str × Str × Str) :=
  if common p q = min p.length q.length then none else some (p.getD (common p q - 1) nil0, p.getD (common p q) nil0, q.getD (common p q) nil0)
section
variable {K : PySem.W.Frag} {m m' : List Addr} {B B' H H' : Hp} {l : List O} {σ : St} {ρ : List (Option D)} {R : D → List O → Prop}
/-- insert into a list with references -/
theorem m_insertR {n : Nat} {ds : List D} {i : Int} {d : D} (h : l[n]? = some (.rfs ds)) (hl : ds.length ≤ 100000) (h0 : 0 ≤ i) (h1 : i < 2 ^ 63) (z : R (.f .none) (l.set n (.rfs (ds.take i.toNat ++ [d] ++ ds.drop i.toNat)))) : MeS K rInsert (.own n) [.f (.int i), d] l R := fun m B H vx vs S r1 r2 Q q => by
  obtain ⟨a, rfl, ha⟩ := r1
  obtain ⟨⟨xs, e, pr⟩, hb⟩ := S.obj n a _ ha h
  cases r2 with
  | cons r2 r3 =>
    cases r3 with
    | cons r3 r4 =>
      cases r4
      have cut : ∀ {xs : List V} {ds : List D} (k : Nat), Paired (VR K m B) xs ds → Paired (VR K m B) (xs.take k) (ds.take k) ∧ Paired (VR K m B) (xs.drop k) (ds.drop k) := by
        intro xs ds k
        induction k generalizing xs ds with
        | zero => intro p; exact ⟨.nil, p⟩
        | succ k ih =>
          intro p
          cases p with
          | nil => exact ⟨.nil, .nil⟩
          | cons a b => exact ⟨.cons a (ih b).1, (ih b).2⟩
      have app : ∀ {xs ys : List V} {ds es : List D}, Paired (VR K m B) xs ds → Paired (VR K m B) ys es → Paired (VR K m B) (xs ++ ys) (ds ++ es) := by
        intro xs ys ds es p
        induction p with
        | nil => intro q; exact q
        | cons a _ ih => intro q; exact .cons a (ih q)
      have app2 := app (app (cut i.toNat pr).1 (Paired.cons r3 .nil)) (cut i.toNat pr).2
      obtain ⟨S2, s2⟩ := S.write (u := .lst (xs.take i.toNat ++ [_] ++ xs.drop i.toNat)) (o := .rfs (ds.take i.toNat ++ [d] ++ ds.drop i.toNat)) ha (hb (by simp)) ⟨_, upd_same, app2⟩
      exact ⟨a, xs, i, _, rfl, by rw [int_of r2], e, small' (by rw [pair_len pr]; exact hl), h0, h1, q _ _ _ _ (.f .none) _ s2 S2 FR.non z⟩
end
end L3
/-! L3zl: a tuple turned about by a slice -/
namespace L3
open PySem L2 PySem.Spec PyProof.Rows
section
variable {prog : Program} {w : World} {A : Around} {E : Value → Shared → Prop} {s : Shared}
theorem applied_rev {sl : Addr} {t : Tok} {n : Nat} {Q : Int × Int × Nat → Shared → Prop} (hs : s.heap.IsSliceOf sl .none .none (.int (-1) t))
    (h : Q ((n : Int) - 1, -1, n) s) : wpAny (model prog w) A (Builtin.Slice.sliceApplied (.ref sl) (pure (n : Int))) Q E s := by
  obtain ⟨os, hos, hcs, hds⟩ := id hs
  unfold Builtin.Slice.sliceApplied Builtin.Slice.sliceFields
  refine wpAny_bind (wpAny_bind (wpAny_field hos hds (x := .none) rfl (wpAny_bind (wpAny_field hos hds (x := .none) rfl (wpAny_bind (wpAny_field hos hds (x := .int (-1) t) rfl (wpAny_pure ?_)))))))
  refine wpAny_bind (slicePart_int ?_)
  show wpAny _ _ (if ((-1 : Int) == 0) = true then _ else _) _ _ s
  rw [if_neg (by decide)]
  refine wpAny_bind (slicePart_none (wpAny_bind (slicePart_none (wpAny_bind (wpAny_pure ?_)))))
  show wpAny _ _ (pure ((n : Int) - 1, (-1 : Int), Builtin.Slice.slicePlaces ((n : Int) - 1) (-1) (-1))) _ _ s
  have e : Builtin.Slice.slicePlaces ((n : Int) - 1) (-1) (-1) = n := by
    unfold Builtin.Slice.slicePlaces
    have h1 : ¬ (-1 : Int) > 0 := by omega
    simp only [h1, if_false]
    have h2 : (-(-1) : Int) = 1 := rfl
    rw [h2, Int.ediv_one]
    split <;> omega
  rw [e]
  exact wpAny_pure h
theorem fm_map {α β : Type} {f : α → Option β} {g : α → β} {L : List α} (h : ∀ k ∈ L, f k = some (g k)) : L.filterMap f = L.map g := by
  induction L with
  | nil => rfl
  | cons k L ih =>
    rw [List.filterMap_cons_some (h k List.mem_cons_self), ih fun k hk => h k (List.mem_cons_of_mem _ hk)]
    rfl
theorem pick_rev (xs : Array Value) : ((List.range xs.size).filterMap fun (m : Nat) => xs[(((xs.size : Int) - 1) + (m : Int) * (-1)).toNat]?).toArray = xs.toList.reverse.toArray := by
  congr 1
  have e : (fun (m : Nat) => xs[(((xs.size : Int) - 1) + (m : Int) * (-1)).toNat]?) = fun (m : Nat) => xs.toList[(((xs.size : Int) - 1) + (m : Int) * (-1)).toNat]? := by
    funext m
    rw [Array.getElem?_toList]
  rw [e]
  have hl : xs.size = xs.toList.length := (Array.length_toList).symm
  rw [hl]
  generalize xs.toList = l
  refine List.ext_getElem? fun i => ?_
  have g : ∀ k ∈ List.range l.length, (fun (m : Nat) => l[(((l.length : Int) - 1) + (m : Int) * (-1)).toNat]?) k = some (l.reverse.getD k .none) := fun k hk => by
    have hk' : k < l.length := List.mem_range.mp hk
    have e1 : (((l.length : Int) - 1) + (k : Int) * (-1)).toNat = l.length - 1 - k := by omega
    show l[(((l.length : Int) - 1) + (k : Int) * (-1)).toNat]? = _
    rw [e1, List.getD_eq_getElem?_getD, List.getElem?_reverse hk']
    have : l.length - 1 - k < l.length := by omega
    rw [List.getElem?_eq_getElem this]
    rfl
  rw [fm_map g, List.getElem?_map]
  by_cases hi : i < l.length
  · rw [List.getElem?_range hi]
    show some (l.reverse.getD i .none) = _
    rw [List.getD_eq_getElem?_getD, List.getElem?_eq_getElem (by simpa using hi)]
    rfl
  · rw [List.getElem?_eq_none (by simpa using hi), List.getElem?_eq_none (by simpa using hi)]
    rfl
theorem getItem_tuple_rev {t sl : Addr} {items : Array Value} {tk : Tok} {Q : Value → Shared → Prop} (ht : IsTup s.heap t items) (hs : s.heap.IsSliceOf sl .none .none (.int (-1) tk))
    (h : Q (.ref s.heap.objs.size) { s with heap := s.heap.push { cls := .type "tuple", data := .seq items.toList.reverse.toArray } })
    (hsz : items.size ≤ sizeLine) : wpAny (model prog w) A (getItem (.ref t) (.ref sl)) Q E s := by
  have htake : sizeOk (.seq items.toList.reverse.toArray) := by
    show items.toList.reverse.toArray.size ≤ sizeLine
    rw [List.size_toArray, List.length_reverse, Array.length_toList]
    exact hsz
  obtain ⟨os, hos, hcs, hds⟩ := id hs
  have hTs : s.TypeIs (.ref sl) "slice" := ⟨os, hos, hcs⟩
  unfold getItem
  try with_reducible refine wpAny_holding ?_
  first | refine wpAny_bind (wpAny_pure ?_) | skip
  refine wpAny_bind (wpAny_sequenceKey ht.typeIs (by decide) ?_)
  refine wpAny_bind (wpAny_callSpecial?_slot (name := Str.ofString "__getitem__") ht.typeIs PyProof.Rows.slot_tuple_getitem
    (wpAny_call_entry PyProof.Rows.slot_tuple_getitem ht.typeIs entry_tuple_getitem ?_ (args_tuple_getitem _ _)))
  show wpAny _ _ (Builtin.Tuple.tupleItemsOf (.ref t) >>= _) _ _ s
  refine wpAny_bind (tupleItemsOf_ ht ?_)
  refine wpAny_bind (wpAny_typeOf hTs ?_)
  rw [if_pos (by decide)]
  refine wpAny_bind (applied_rev hs ?_)
  have hno : ¬ ((((items.size : Int) - 1) == 0 && (-1 : Int) == 1 && items.size == items.size) = true) := by
    intro q
    rw [Bool.and_eq_true, Bool.and_eq_true] at q
    exact absurd q.1.2 (by decide)
  show wpAny _ _ (if (((items.size : Int) - 1) == 0 && (-1 : Int) == 1 && items.size == items.size) = true then _ else _) _ _ s
  rw [if_neg hno, pick_rev]
  first
    | exact wpAny_bind (m := Builtin.Tuple.tupleExact _) (wpAny_newObj_type (wpAny_pure ⟨_, rfl, wpAny_pure h⟩) htake)
    | exact wpAny_bind (m := Builtin.Tuple.tupleExact _) (wpAny_newObj_type (wpAny_bind (wpAny_pure (wpAny_pure ⟨_, rfl, wpAny_pure h⟩))) htake)
    | exact wpAny_bind (wpAny_bind (m := Builtin.Tuple.tupleExact _) (wpAny_newObj_type (wpAny_pure (wpAny_pure ⟨_, rfl, wpAny_pure h⟩)) htake))
    | exact wpAny_bind (wpAny_bind (m := Builtin.Tuple.tupleExact _) (wpAny_newObj_type (wpAny_pure ⟨_, rfl, wpAny_pure h⟩) htake))
end
section
variable {X : Cx}
/-- xs[::-1] of a list or a tuple -/
def tRevU (K : PySem.W.Frag) (te : TE) : TE := fun σ H Q => te σ H fun x H1 => ∃ a xs, x = .ref a ∧ ((SqL K H1 a xs ∧ ∀ p, H1 p = none → Q (.ref p) (upd H1 p (.lst xs.reverse))) ∨ (SqT K H1 a xs ∧ ∀ p, H1 p = none → Q (.ref p) (upd H1 p (.tup xs.reverse))))
theorem pe_revU {K : PySem.W.Frag} (hK : X.K = K) {e : Expr} {te : TE} {k : Nat} {p1 p2 p3 pos : Pos} (he : PE X e te) : PE X (.Subscript e (.Slice none none (some (.UnaryOp .USub (.Constant (.int 1) k p1) p2)) p3) pos) (tRevU K te) := by
  subst hK
  refine ⟨fun pins s σ H Q I h => ?_⟩
  refine Subscript_ (thn (he.run pins s σ H _ I h) fun v s1 ⟨x, H1, I1, r1, q1⟩ => ?_)
  obtain ⟨a, xs, ex, q1⟩ := q1
  subst ex
  cases r1
  have hst : PO X (some (.UnaryOp .USub (.Constant (.int 1) k p1) p2)) (tPart (tUn (rU fun i => .int (-i)) (tC (.int 1)))) := po_some (pe_un un_neg pe_int)
  refine wpAny_Slice (thn (po_none.run pins s1 σ H1 (fun o H2 => o = none ∧ H2 = H1) I1 ⟨rfl, rfl⟩) fun vl s2 ⟨l, H2, I2, pl, el, e2⟩ => ?_)
  subst el e2
  refine thn (po_none.run pins s2 σ H2 (fun o H3 => o = none ∧ H3 = H2) I2 ⟨rfl, rfl⟩) fun vu s3 ⟨u, H3, I3, pu, eu, e3⟩ => ?_
  subst eu e3
  refine thn (hst.run pins s3 σ H3 (fun o H4 => o = some (-1) ∧ H4 = H3) I3 ⟨1, rfl, -1, rfl, rfl, rfl⟩) fun vs s4 ⟨o, H4, I4, ps, eo, e4⟩ => ?_
  subst eo e4
  have I5 : Inv X pins σ H4 { s4 with heap := s4.heap.push { cls := .type "slice", data := .fields #[vl, vu, vs] } } := I4.kept (t' := s4.toks) fun b ob q => Heap.get?_push_of_some _ q
  show wpAny (model X.prog X.w) X.A (subscriptTail e (.Slice none none (some (.UnaryOp .USub (.Constant (.int 1) k p1) p2)) p3) (.ref a) (.ref s4.heap.objs.size)) (EP X pins σ Q) X.xe { s4 with heap := s4.heap.push { cls := .type "slice", data := .fields #[vl, vu, vs] } }
  rcases q1 with ⟨hx, q⟩ | ⟨hx, q⟩
  · obtain ⟨its, r, ht, hz⟩ := I5.list hx
    have hlen := r.length
    refine tail_any (ops := [.ref a, .ref s4.heap.objs.size]) ht.isList.typeIs (PySem.slot_list_getitem.lookup) ?_ (by with_unfolding_all rfl)
    refine wpAny_getItem_list_slice ht.isList (Heap.IsSliceOf.new _ vl vu vs) pl pu ps (by decide) ?_ (by rw [List.size_toArray]; omega)
    rw [PySem.W.krv_pick]
    refine ⟨.ref _, _, I5.laid (t' := s4.toks) (o := .lst xs.reverse) (fun b ob q => Heap.get?_push_of_some _ q) (Nat.le_refl _) ?_, rfl, q _ (I5.hok.fresh (Nat.le_refl _))⟩
    exact ⟨by rw [List.length_reverse]; exact hz, _, 0, r.reverse, Heap.get?_push_size _ rfl⟩
  · obtain ⟨its, r, ht, hz⟩ := I5.tuple hx
    have hlen := r.length
    cases pl
    cases pu
    cases ps
    refine tail_any (ops := [.ref a, .ref s4.heap.objs.size]) ht.typeIs (PyProof.Rows.slot_tuple_getitem.lookup) ?_ (by with_unfolding_all rfl)
    refine getItem_tuple_rev ht (Heap.IsSliceOf.new _ _ _ _) ?_ (by rw [List.size_toArray]; omega)
    refine ⟨.ref _, _, I5.laid (t' := s4.toks) (o := .tup xs.reverse) (fun b ob q => Heap.get?_push_of_some _ q) (Nat.le_refl _) ?_, rfl, q _ (I5.hok.fresh (Nat.le_refl _))⟩
    exact ⟨by rw [List.length_reverse]; exact hz, _, r.reverse, IsTup.new _ _⟩
end
section
variable {K : PySem.W.Frag} {m m' : List Addr} {B B' H H' : Hp} {l : List O} {ρ : List (Option D)} {R : D → List O → Prop} {E : E3} {te tl : TE} {tt : TT} {t u : TS} {ty : TA} {g : TG}
theorem FRs.rev {vs : List V} {ds : List PyData} (h : FRs K B vs ds) : FRs K B vs.reverse ds.reverse := by
  have go : ∀ {vs : List V} {ds : List PyData}, FRs K B vs ds → ∀ {us : List V} {es : List PyData}, FRs K B us es → FRs K B (vs.reverseAux us) (ds.reverseAux es) := by
    intro vs
    induction vs with
    | nil => intro ds h us es q; cases h; exact q
    | cons v vs ih =>
      intro ds h us es q
      cases h with
      | cons h1 h2 => exact ih h2 (.cons h1 q)
  exact go h .nil
/-- xs[::-1] -/
theorem e_revT (h : EvS K te ρ l fun x l1 => ∃ ds, x = .f (.tuple ds) ∧ R (.f (.tuple ds.reverse)) l1) : EvS K (tRevU K te) ρ l R := fun m B H σ S e Q q => by
  refine h m B H σ S e _ fun v m1 B1 H1 x l1 s1 S1 r1 ⟨ds, ex, z⟩ => ?_
  subst ex
  cases r1 with
  | @tup a us _ h1 pr => exact ⟨a, us, rfl, .inr ⟨sqT_same S1.sub h1.sq, fun p hp => retT S1 (q.step s1) hp pr.rev z⟩⟩
theorem e_revL (h : EvS K te ρ l fun x l1 => ∃ ds, IsL l1 x ds ∧ R (.own l1.length) (l1 ++ [.lst ds.reverse])) : EvS K (tRevU K te) ρ l R := fun m B H σ S e Q q => by
  refine h m B H σ S e _ fun v m1 B1 H1 x l1 s1 S1 r1 ⟨ds, hx, z⟩ => ?_
  obtain ⟨a, us, rfl, e2, pr⟩ := hx.at S1 r1
  exact ⟨a, us, rfl, .inl ⟨SqL.of e2, fun p hp => retL S1 (q.step s1) hp pr.rev z⟩⟩
end
end L3
/-! L3zm: zip of lists and tuples in any mix, each pair stays; dict(zip(..)) -/
namespace L3
open PySem L2 PySem.Spec PyProof.Rows
end L3
/-! L3zn: isinstance of (list, tuple); max of a list; lists of ints put anew -/
namespace L3
open PySem L2 PySem.Spec PyProof.Rows
end L3
/-! L3zo: depths: the greatest weight of the ways that end at a thing, as plain lists -/
namespace L3
open PySem L2
theorem putD_new {κ : Type} [DecidableEq κ] {kvs : List (κ × PyData)} {k : κ} {v : PyData} (h : ∀ p ∈ kvs, p.1 ≠ k) : putD kvs k v = kvs ++ [(k, v)] := by
  unfold putD
  rw [if_neg]
  intro q
  obtain ⟨p, hp, e⟩ := List.any_eq_true.mp q
  exact h p hp (of_decide_eq_true e)
theorem mergeD_new {κ : Type} [DecidableEq κ] : ∀ {more kvs : List (κ × PyData)}, (more.map (·.1)).Nodup → (∀ p ∈ more, ∀ q ∈ kvs, q.1 ≠ p.1) → mergeD kvs more = kvs ++ more
  | [], kvs, _, _ => by simp [mergeD]
  | p :: more, kvs, hn, h => by
    rw [List.map_cons, List.nodup_cons] at hn
    have e : mergeD kvs (p :: more) = mergeD (kvs ++ [p]) more := by
      show mergeD (putD kvs p.1 p.2) more = _
      rw [putD_new fun q hq => h p List.mem_cons_self q hq]
    rw [e, mergeD_new hn.2 fun a ha b hb => ?_, List.append_assoc]
    · rfl
    · rcases List.mem_append.mp hb with hb | hb
      · exact h a (List.mem_cons_of_mem _ ha) b hb
      · rw [List.mem_singleton.mp hb]
        exact fun e => hn.1 (e ▸ List.mem_map_of_mem ha)
/-- the depths of things: the own weight, and with it the greatest depth of a prior where that is more than nought -/
def DeepF {α : Type} (P : α → Prop) (es : List (α × α)) (w f : α → Int) : Prop := ∀ x, P x → ∃ M, f x = w x + M ∧ 0 ≤ M ∧ (∀ p, (p, x) ∈ es → f p ≤ M) ∧ (M = 0 ∨ ∃ p, (p, x) ∈ es ∧ M = f p)
theorem DeepF.most {α : Type} {P : α → Prop} {es : List (α × α)} {w f : α → Int} {n : Nat} {C : Int} (h : DeepF P es w f) (hr : Ranked n es) (hP : ∀ e ∈ es, P e.1) (hC : 0 ≤ C) (hw : ∀ x, P x → -C ≤ w x ∧ w x ≤ C) : ∀ x, P x → -C ≤ f x ∧ f x ≤ ((n : Int) + 1) * C := by
  obtain ⟨r, h1, h2⟩ := hr
  have go : ∀ (j : Nat) x, r x ≤ j → P x → f x ≤ ((r x : Int) + 1) * C := by
    intro j
    induction j with
    | zero =>
      intro x hx px
      obtain ⟨M, e, m0, _, m2⟩ := h x px
      have w2 := (hw x px).2
      rcases m2 with m2 | ⟨p, hp, _⟩
      · have : r x = 0 := by omega
        rw [this]
        have : ((0 : Nat) : Int) + 1 = 1 := rfl
        rw [this, Int.one_mul]
        omega
      · have := h1 _ hp
        simp only at this
        omega
    | succ j ih =>
      intro x hx px
      obtain ⟨M, e, m0, _, m2⟩ := h x px
      have w2 := (hw x px).2
      have k0 : ((r x : Int) + 1) * C = (r x : Int) * C + C := by rw [Int.add_mul, Int.one_mul]
      rcases m2 with m2 | ⟨p, hp, m2⟩
      · have := Int.mul_nonneg (show (0 : Int) ≤ (r x : Int) by omega) hC
        omega
      · have lt := h1 _ hp
        simp only at lt
        have hb := ih p (by omega) (hP _ hp)
        have hm : ((r p : Int) + 1) * C ≤ (r x : Int) * C := Int.mul_le_mul_of_nonneg_right (by omega) hC
        omega
  intro x px
  obtain ⟨M, e, m0, _, _⟩ := h x px
  refine ⟨by have := (hw x px).1; omega, ?_⟩
  have hb := go _ x (Nat.le_refl _) px
  have hm : ((r x : Int) + 1) * C ≤ ((n : Int) + 1) * C := Int.mul_le_mul_of_nonneg_right (by have := h2 x; omega) hC
  omega
/-- numbers raised by the ties: round j, tie i -/
structure BF (es : List (Int × Int)) (n : Nat) (w d : Int → Int) (r : Int → Nat) (j i : Nat) (gs : List Int) : Prop where
  len : gs.length = n
  lo : ∀ k, InR n k → w k ≤ gs.getD k.toNat 0
  hi : ∀ k, InR n k → gs.getD k.toNat 0 ≤ d k
  eq : ∀ k, InR n k → r k ≤ j → gs.getD k.toNat 0 = d k
  up : ∀ k, InR n k → r k ≤ j + 1 → ∀ p, (p, k) ∈ es.take i → d p + w k ≤ gs.getD k.toNat 0
section
variable {es : List (Int × Int)} {n : Nat} {w d : Int → Int} {r : Int → Nat} {j i : Nat} {gs : List Int}
theorem BF.start (hd : DeepF (InR n) es w d) (h1 : ∀ e ∈ es, r e.1 < r e.2) {ws : List Int} (hl : ws.length = n) (hw : ∀ k, InR n k → ws.getD k.toNat 0 = w k) : BF es n w d r 0 0 ws where
  len := hl
  lo := fun k hk => by rw [hw k hk]; exact Int.le_refl _
  hi := fun k hk => by
    obtain ⟨M, e, m0, _⟩ := hd k hk
    rw [hw k hk]; omega
  eq := fun k hk h0 => by
    obtain ⟨M, e, m0, _, m2⟩ := hd k hk
    rw [hw k hk]
    rcases m2 with m2 | ⟨p, hp, _⟩
    · omega
    · have := h1 _ hp
      simp only at this
      omega
  up := fun k hk _ p hp => by simp at hp
theorem BF.step (hd : DeepF (InR n) es w d) (h1 : ∀ e ∈ es, r e.1 < r e.2) (hr : ∀ e ∈ es, InR n e.1 ∧ InR n e.2) (h : BF es n w d r j i gs) {e : Int × Int} (he : es[i]? = some e) {v : Int}
    (hv : v = if gs.getD e.1.toNat 0 + w e.2 > gs.getD e.2.toNat 0 then gs.getD e.1.toNat 0 + w e.2 else gs.getD e.2.toNat 0) : BF es n w d r j (i + 1) (gs.set e.2.toNat v) := by
  have hm := List.mem_of_getElem? he
  obtain ⟨r1, r2⟩ := hr e hm
  have hb : e.2.toNat < gs.length := by have := r2.2; have := r2.1; rw [h.len]; omega
  have at_ : ∀ k, InR n k → (gs.set e.2.toNat v).getD k.toNat 0 = if k = e.2 then v else gs.getD k.toNat 0 := fun k hk => by
    rw [List.getD_eq_getElem?_getD]
    by_cases c : k = e.2
    · rw [if_pos c, c, List.getElem?_set_self hb]; rfl
    · rw [if_neg c, List.getElem?_set_ne (fun q => c (by have := hk.1; have := r2.1; omega)), ← List.getD_eq_getElem?_getD]
  have v1 : gs.getD e.2.toNat 0 ≤ v := by rw [hv]; split <;> omega
  have v2 : gs.getD e.1.toNat 0 + w e.2 ≤ v := by rw [hv]; split <;> omega
  have v3 : v ≤ d e.2 := by
    obtain ⟨M, eM, m0, m1, _⟩ := hd e.2 r2
    have a := m1 e.1 hm
    have b := h.hi e.1 r1
    have c := h.hi e.2 r2
    rw [hv]; split <;> omega
  exact {
    len := by rw [List.length_set]; exact h.len
    lo := fun k hk => by
      rw [at_ k hk]
      split
      · rename_i c; subst c; have := h.lo _ r2; omega
      · exact h.lo k hk
    hi := fun k hk => by
      rw [at_ k hk]
      split
      · rename_i c; rw [c]; exact v3
      · exact h.hi k hk
    eq := fun k hk h0 => by
      rw [at_ k hk]
      split
      · rename_i c; subst c; have := h.eq _ r2 h0; omega
      · exact h.eq k hk h0
    up := fun k hk h0 p hp => by
      rw [at_ k hk]
      rw [take_next he] at hp
      rcases List.mem_append.mp hp with hp | hp
      · split
        · rename_i c; subst c; have := h.up _ r2 h0 p hp; omega
        · exact h.up k hk h0 p hp
      · have ep := List.mem_singleton.mp hp
        subst ep
        rw [if_pos rfl]
        have lt := h1 _ hm
        simp only at lt
        have := h.eq p r1 (by omega)
        simp only at v2
        omega }
theorem BF.done (h : BF es n w d r j i gs) (hr : ∀ k, r k ≤ j) {xs : List Str} {f : Str → Int} (hx : xs.length = n) (hf : ∀ k, InR n k → d k = f (nm xs k)) : gs = xs.map f := by
  refine List.ext_getElem? fun i => ?_
  by_cases hi : i < n
  · have ik : InR n (i : Int) := ⟨by omega, by omega⟩
    have e1 := h.eq i ik (hr _)
    rw [hf _ ik] at e1
    have e2 : xs[i]? = some xs[i] := List.getElem?_eq_getElem (by omega)
    have hg : i < gs.length := by rw [h.len]; exact hi
    have e3 : gs[i]? = some gs[i] := List.getElem?_eq_getElem hg
    rw [nm_get e2, Int.toNat_natCast, List.getD_eq_getElem?_getD, e3] at e1
    rw [List.getElem?_map, e2, e3]
    exact congrArg some e1
  · rw [List.getElem?_eq_none (by rw [h.len]; omega), List.getElem?_eq_none (by rw [List.length_map]; omega)]
end
end L3
/-! L3zp: plain tuples (plD): made by tuple(list), indexed, walked, sliced, made a dict -/
namespace L3
open PySem L2 PySem.Spec PyProof.Rows
section
variable {X : Cx}
def rTupleP (K : PySem.W.Frag) : List V → Hp → VK → Prop := fun xs H Q => ∃ p ys, xs = [.ref p] ∧ SqL K H p ys ∧ ∀ (l : Addr) (o : Obj), H l = none → o.dict = none → Q (.ref l) (upd H l (.frz o (.tup ys)))
theorem u_tupleP {K : PySem.W.Frag} (hK : X.K = K) : CallR X (.type "tuple") (rTupleP K) := by
  subst hK
  intro pins s σ H xs us Q I r h
  obtain ⟨p, ys, rfl, hq, q⟩ := h
  obtain ⟨u, rfl, rx⟩ := vals1 r
  cases rx
  obtain ⟨its, r', pl, hz⟩ := I.list hq
  have hlen := r'.length
  refine call_tuple_list pl.isList (fun h' kp => ?_) (by simp only [List.size_toArray] <;> omega)
  have I1 : L2.Inv X pins σ H { s with heap := h' } := I.kept (t' := s.toks) kp
  have I2 := I1.laid (a := h'.objs.size) (o := .frz { cls := .type "tuple", data := .seq its.toArray } (.tup ys)) (h' := h'.push { cls := .type "tuple", data := .seq its.toArray }) (t' := s.toks) (fun b o e => Heap.get?_push_of_some _ e) (Nat.le_refl _) ⟨Heap.get?_push_size _ rfl, hz, its, r', IsTup.new _ _⟩
  exact ⟨.ref h'.objs.size, _, I2, rfl, q _ _ (I1.hok.fresh (Nat.le_refl _)) rfl⟩
theorem pairsV_of {pins : List (Addr × Obj)} {σ : L2.St} {H : Hp} {s : Shared} (I : L2.Inv X pins σ H s) : ∀ {ps : List Addr} {kvs : List (Key × V)}, Paired (fun p kv => SqT X.K H p [kV kv.1, kv.2]) ps kvs →
    ∃ (prs : List (Key × Value)) (us : List (Value × Value)), KV kvs prs ∧ prs.length = ps.length ∧ us.length = ps.length ∧ (∀ (j : Nat) (q : Value × Value), us[j]? = some q → ∃ (b : Addr), ps[j]? = some b ∧ IsTup s.heap b #[q.1, q.2]) ∧
      ∀ (j : Nat) (q : Value × Value), us[j]? = some q → ∃ k, prs[j]? = some (k, q.2) ∧ keyIs k q.1 = true
  | _, _, .nil => ⟨[], [], .nil, rfl, rfl, fun j q e => by simp at e, fun j q e => by simp at e⟩
  | _, _, .cons (a := p) (b := kv) h t => by
    obtain ⟨prs, us, r, hl, hl2, hp, hq⟩ := pairsV_of I t
    obtain ⟨its, rv, ht, _⟩ := I.tuple h
    obtain ⟨u, y, ei, ru, ry⟩ := vals2 rv
    subst ei
    refine ⟨(kv.1, y) :: prs, (u, y) :: us, .cons ⟨rfl, ry⟩ r, by rw [List.length_cons, List.length_cons, hl], by rw [List.length_cons, List.length_cons, hl2], fun j q e => ?_, fun j q e => ?_⟩
    · cases j with
      | zero => cases e; exact ⟨p, rfl, ht⟩
      | succ j => exact hp j q (by simpa using e)
    · cases j with
      | zero => cases e; exact ⟨kv.1, rfl, kV_is (P := X.prog) (w := X.w) ru⟩
      | succ j => exact hq j q (by simpa using e)
def rDictQ (K : PySem.W.Frag) : List V → Hp → VK → Prop := fun xs H Q => ∃ (a : Addr) (o : Obj) (ps : List Addr) (kvs : List (Key × V)), xs = [.ref a] ∧ H a = some (.frz o (.tup (ps.map V.ref))) ∧ o.dict = none ∧ Paired (fun p kv => SqT K H p [kV kv.1, kv.2]) ps kvs ∧
    ∀ p, H p = none → Q (.ref p) (upd H p (.dK (mergeK [] kvs)))
theorem call_dictQ (hcalm : X.calm = true) : CallR X (.type "dict") (rDictQ X.K) := by
  intro pins s σ H xs us Q I r q
  obtain ⟨a, oa, ps, kvs, ex, ha, hdn, hp, q⟩ := q
  subst ex
  obtain ⟨u, eu, rx⟩ := vals1 r
  subst eu
  cases (show u = Value.ref a from rx)
  obtain ⟨hget, hz, its, rv, o', ho', hc', n, hdat⟩ := (I.hok a _ ha)
  rw [hget] at ho'
  cases ho'
  have ei := refs_at rv
  subst ei
  rw [List.length_map] at hz
  obtain ⟨prs, vs, rel, hl, hl2, hpt, hpk⟩ := pairsV_of I hp
  have P := PairArg.tuple (prog := X.prog) (w := X.w) a (ps.map Value.ref).toArray (fun j => ps.getD j 0) vs
  refine PySem.call_dict_pairs (s := s) (knd := mixKind X.prog X.w) (kvs := prs) P (I.ok.hd hcalm) ⟨⟨oa, n, hget, hc', hdn, hdat⟩, by simp [hl2], fun j k v e => ?_⟩ ⟨by rw [hl, hl2], fun i key v e => hpk i _ e⟩ (by rw [hl2]; exact hz) fun h' tk hd' k => ?_
  · obtain ⟨b, e2, e3⟩ := hpt j _ e
    have e4 : ps.getD j 0 = b := by rw [List.getD_eq_getElem?_getD, e2]; rfl
    refine ⟨by show _ = some (Value.ref (ps.getD j 0)); rw [e4]; simp [e2], .inl (by show s.heap.IsTuple (ps.getD j 0) _; rw [e4]; exact e3)⟩
  · have hm : (s.heap.objs.size == sysModules) = false := beq_eq_false_iff_ne.mpr (Nat.ne_of_gt I.big)
    have hlen : (mergeK [] kvs).length ≤ sizeLine := by
      refine Nat.le_trans (length_mergeK kvs []) ?_
      rw [List.length_nil, Nat.zero_add, rel.length, hl]
      exact hz
    exact ⟨.ref s.heap.objs.size, upd H s.heap.objs.size (.dK (mergeK [] kvs)), I.laid (t' := tk) (fun b o e => k b o (fun z => by cases z) e) (Nat.le_refl _) (show ObjOk X.prog X.w _ _ _ (.dK (mergeK [] kvs)) from ⟨hlen, hm, merged [] prs, KV.merge rel .nil, hd'⟩), rfl, q _ (I.hok.fresh (Nat.le_refl _))⟩
theorem u_dictP {K : PySem.W.Frag} (hK : X.K = K) (hcalm : X.calm = true) : CallR X (.type "dict") (rDictQ K) := by
  subst hK
  exact call_dictQ hcalm
end
section
variable {K : PySem.W.Frag} {m m' : List Addr} {B B' H H' : Hp} {l : List O} {ρ : List (Option D)} {R : D → List O → Prop} {E : E3} {te tl : TE} {tt : TT} {t u : TS} {ty : TA} {g : TG}
theorem pl_at (S : SR K m B H l) {v : V} {ds : List PyData} (r : VR K m B v (.f (plD ds))) : ∃ a xs o, v = .ref a ∧ H a = some (.frz o (.tup xs)) ∧ o.dict = none ∧ FRs K B xs ds := by
  cases r with
  | plt h1 h2 =>
    obtain ⟨o, h3, h4⟩ := h1
    exact ⟨_, _, o, rfl, S.sub _ _ h3, h4, h2⟩
/-- tuple(list): a plain tuple -/
theorem c_tupleP {x : D} {ds : List PyData} (h : IsL l x ds) (z : R (.f (plD ds)) l) : CaS K (rTupleP K) [x] l R := fun m B H vs S r Q q => by
  cases r with
  | cons r1 r2 =>
    cases r2
    obtain ⟨a, us, rfl, e2, pr⟩ := h.at S r1
    refine ⟨a, us, rfl, SqL.of e2, fun p o hp hd => ?_⟩
    obtain ⟨S2, s2, e3⟩ := S.allocF (u := .frz o (.tup us)) hp
    exact q _ m _ _ (.f (plD ds)) l s2 S2 (FR.plt ⟨o, e3, hd⟩ (FRs.same s2.sub ds us pr)) z
/-- dict(a plain tuple of pairs) -/
theorem c_dictP {prs : List (Key × PyData)} (z : R (.own l.length) (l ++ [.dct (mergeD [] prs)])) : CaS K (rDictQ K) [.f (plD (prs.map prK))] l R := fun m B H vs S r Q q => by
  cases r with
  | cons r1 r2 =>
    cases r2
    obtain ⟨a, us, o, rfl, ha, hd, q1⟩ := pl_at S r1
    obtain ⟨ps, kvs, e3, e4, e5⟩ := prK_of S.sub q1
    subst e3
    refine ⟨a, o, ps, kvs, rfl, ha, hd, e4, fun p hp => ?_⟩
    have mg := merge_of e5 (ks := []) (kvs := []) .nil
    obtain ⟨S2, s2, r2⟩ := S.alloc (u := .dK (mergeK [] kvs)) (o := .dct (mergeD [] prs)) hp ⟨_, upd_same, mg⟩
    exact q _ _ _ _ _ _ s2 S2 r2 z
theorem itok_pl {a : Addr} {ds : List PyData} (hx : VR K m B (.ref a) (.f (plD ds))) : ItOk K m B (Itt K a) (fun l' => True) ds.length (fun i => .f (ds.getD i .none)) := fun i m' B' H' l' hs hp S _ => by
  obtain ⟨a', us, o, ea, ha, _, q⟩ := pl_at S (hx.up hs hp)
  cases ea
  have h1' : SqT K H' a us := .inl (.inr ⟨o, ha⟩)
  have hl := q.length
  refine ⟨fun hi => ?_, fun hi => ⟨us, h1', by omega⟩⟩
  have hd : ds[i]? = some ds[i] := by simp [hi]
  obtain ⟨v, hv, rv⟩ := q.get hd
  refine ⟨⟨us, v, h1', hv⟩, fun y H3 ⟨eH, hy⟩ => ?_⟩
  subst eH
  have := hy us h1'
  rw [hv] at this; cases this
  refine ⟨B', Step.refl _ _ _, S, ?_⟩
  show FR K B' v (ds.getD i .none)
  rw [List.getD_eq_getElem?_getD, hd]
  exact rv
theorem i_seqP {R : (List O → Prop) → Nat → (Nat → D) → List O → Prop} (h : EvS K tl ρ l fun x l1 => ∃ ds, x = .f (plD ds) ∧ R (fun _ => True) ds.length (fun i => .f (ds.getD i .none)) l1) : EvI K (iSeq K tl) ρ l R := fun m B H σ S e Rt q => by
  refine h m B H σ S e _ fun v m1 B1 H1 x l1 s1 S1 r1 ⟨ds, ex, z⟩ => ?_
  subst ex
  obtain ⟨a, us, o, rfl, ha, hd, qq⟩ := pl_at S1 r1
  exact ⟨a, rfl, .inr ⟨⟨us, .inl (.inr ⟨o, ha⟩)⟩, q (Itt K a) m1 B1 H1 l1 _ _ _ s1 S1 (fun i m' B' H' l' hs hp S' P => itok_pl r1 i m' B' H' l' hs hp S' trivial) z⟩⟩
/-- FOR over a plain tuple -/
theorem x_forP (h : EvS K tl ρ l fun x l1 => ∃ ds, x = .f (plD ds) ∧ ∃ I : Nat → List (Option D) → List O → Prop, I 0 ρ l1 ∧
      (∀ i d ρ' l', ds[i]? = some d → I i ρ' l' → AsS K g (.f d) ρ' l' fun ρ2 l2 => ExS K t ρ2 l2 ⟨I (i + 1), E.rt, E.nx, I (i + 1)⟩) ∧ ∀ ρ' l', I ds.length ρ' l' → E.nx ρ' l') : ExS K (tFor (iSeq K tl) g t) ρ l E :=
  x_for (i_seqP (h.imp fun x l1 ⟨ds, hq, I, h0, hs, hd⟩ => ⟨ds, hq, I, h0, fun _ _ _ _ _ => trivial, fun i ρ' l' hi z => by
    have e : ds[i]? = some (ds.getD i .none) := by rw [List.getD_eq_getElem?_getD]; simp [hi]
    exact hs i _ ρ' l' e z, hd⟩))
theorem xs_forP (h : EvS K tl ρ l fun x l1 => ∃ ds, x = .f (plD ds) ∧ ∃ I : Nat → List (Option D) → List O → Prop, I 0 ρ l1 ∧
      (∀ i d ρ' l', ds[i]? = some d → I i ρ' l' → AsS K g (.f d) ρ' l' fun ρ2 l2 => ExS K t ρ2 l2 ⟨I (i + 1), E.rt, fun ρ3 l3 => ExS K u ρ3 l3 E, I (i + 1)⟩) ∧ ∀ ρ' l', I ds.length ρ' l' → ExS K u ρ' l' E) : ExS K (tSeq (tFor (iSeq K tl) g t) u) ρ l E :=
  x_seq (x_forP h)
/-- a plain tuple indexed -/
theorem o_ixP {ds : List PyData} {i : Int} {d : PyData} (hd : atI ds i = some d) (z : R (.f d) l) : OpS K (rIxU K) (.f (plD ds)) (.f (.int i)) l R := fun m B H vx vy S r1 r2 Q q => by
  obtain ⟨a, us, o, rfl, ha, _, q1⟩ := pl_at S r1
  obtain ⟨v, ev, rv⟩ := frs_at q1 hd
  exact .inl (.inr (.inl ⟨a, us, i, v, rfl, int_of r2, .inl (.inr ⟨o, ha⟩), ev, ret0 (d := .f d) S q rv z⟩))
end
/-! what plain tuples are as data -/
mutual
def unpl : PyData → PyData
  | .none => .none
  | .bool b => .bool b
  | .int i => .int i
  | .str x => .str x
  | .list xs => .list (unplAll xs)
  | .tuple xs => .tuple (unplAll xs)
  | .dict [(.none, .tuple xs)] => .tuple (unplAll xs)
  | .dict kvs => .dict kvs
def unplAll : List PyData → List PyData
  | [] => []
  | x :: xs => unpl x :: unplAll xs
end
end L3
/-! L3zq: a store in which knots grow -/
namespace L3
open PySem L2
theorem get_insAt {α : Type} {xs : List α} {j : Nat} (hj : j ≤ xs.length) (x : α) (n : Nat) : (insAt xs j x)[n]? = if n < j then xs[n]? else if n = j then some x else xs[n - 1]? := by
  unfold insAt
  have hl : (xs.take j).length = j := by rw [List.length_take]; omega
  rw [List.append_assoc]
  by_cases h1 : n < j
  · rw [if_pos h1, List.getElem?_append_left (by rw [hl]; exact h1), List.getElem?_take, if_pos h1]
  · rw [if_neg h1, List.getElem?_append_right (by rw [hl]; omega), hl]
    by_cases h2 : n = j
    · subst h2
      rw [if_pos rfl, Nat.sub_self]
      rfl
    · rw [if_neg h2]
      obtain ⟨m, rfl⟩ : ∃ m, n = j + 1 + m := ⟨n - j - 1, by omega⟩
      rw [show j + 1 + m - j = m + 1 by omega, show j + 1 + m - 1 = j + m by omega]
      show (xs.drop j)[m]? = _
      rw [List.getElem?_drop]
/-- the pen at 0, the list of knots at 3, the levels at 4; each knot a tuple of its name and its own list -/
structure TreeS (l : List O) (ks : Knots) (ps : List (Nat × Nat)) (kvs : List (Key × PyData)) (o : O) : Prop where
  pen : l[0]? = some o
  isp : IsPen o
  rfs : l[3]? = some (.rfs (ps.map fun p => D.own p.1))
  dct : l[4]? = some (.dct kvs)
  nd : (ps.map (·.2)).Nodup
  len : ps.length = ks.length
  at_ : ∀ (i : Nat) p k, ps[i]? = some p → ks[i]? = some k → l[p.1]? = some (.tpr [.f (.str k.1), .own p.2]) ∧ l[p.2]? = some (.lst (sPy k.2))
theorem set_get_ne {l : List O} {i j : Nat} {x y z : O} (hi : l[i]? = some x) (hj : l[j]? = some y) (h : x ≠ y) : (l.set i z)[j]? = some y := by
  rw [List.getElem?_set_ne]
  · exact hj
  · rintro rfl
    rw [hi] at hj
    exact h (Option.some.inj hj)
theorem set_get_eq {l : List O} {i : Nat} {x z : O} (hi : l[i]? = some x) : (l.set i z)[i]? = some z := List.getElem?_set_self (List.getElem?_eq_some_iff.mp hi).1
section
variable {l : List O} {ks : Knots} {ps : List (Nat × Nat)} {kvs kvs' : List (Key × PyData)} {o o2 : O}
theorem IsPen.form (h : IsPen o) : ∃ ds, o = .rfs ds := by
  obtain ⟨s, a, b, rfl, _⟩ := h
  exact ⟨_, rfl⟩
theorem TreeS.knot (h : TreeS l ks ps kvs o) {i : Nat} {k : Str × List Str} (hk : ks[i]? = some k) : ∃ p, ps[i]? = some p := by
  have hi := (List.getElem?_eq_some_iff.mp hk).1
  exact ⟨ps[i]'(by rw [h.len]; exact hi), List.getElem?_eq_getElem _⟩
theorem TreeS.take1 (h : TreeS l ks ps kvs o) : l.take 1 = [o] := by
  have e := h.pen
  cases l with
  | nil => simp at e
  | cons a l => simp at e; subst e; rfl
theorem TreeS.drawn (h : TreeS l ks ps kvs o) (h2 : IsPen o2) : TreeS (l.set 0 o2) ks ps kvs o2 := by
  obtain ⟨d1, e1⟩ := h.isp.form
  exact {
    pen := set_get_eq h.pen
    isp := h2
    rfs := by rw [List.getElem?_set_ne (by decide)]; exact h.rfs
    dct := by rw [List.getElem?_set_ne (by decide)]; exact h.dct
    nd := h.nd
    len := h.len
    at_ := fun i p k a b => by
      obtain ⟨g1, g2⟩ := h.at_ i p k a b
      exact ⟨set_get_ne h.pen g1 (by rw [e1]; nofun), set_get_ne h.pen g2 (by rw [e1]; nofun)⟩ }
theorem TreeS.lev (h : TreeS l ks ps kvs o) : TreeS (l.set 4 (.dct kvs')) ks ps kvs' o where
  pen := by rw [List.getElem?_set_ne (by decide)]; exact h.pen
  isp := h.isp
  rfs := by rw [List.getElem?_set_ne (by decide)]; exact h.rfs
  dct := set_get_eq h.dct
  nd := h.nd
  len := h.len
  at_ := fun i p k a b => by
    obtain ⟨g1, g2⟩ := h.at_ i p k a b
    exact ⟨set_get_ne h.dct g1 nofun, set_get_ne h.dct g2 nofun⟩
theorem TreeS.put (h : TreeS l ks ps kvs o) {i : Nat} {p : Nat × Nat} {k : Str} {xs ys : List Str} (hp : ps[i]? = some p) (hk : ks[i]? = some (k, xs)) : TreeS (l.set p.2 (.lst (sPy ys))) (ks.set i (k, ys)) ps kvs o := by
  obtain ⟨d1, e1⟩ := h.isp.form
  obtain ⟨b1, b2⟩ := h.at_ i p _ hp hk
  have hlt : i < ks.length := (List.getElem?_eq_some_iff.mp hk).1
  exact {
    pen := set_get_ne b2 h.pen (by rw [e1]; nofun)
    isp := h.isp
    rfs := set_get_ne b2 h.rfs nofun
    dct := set_get_ne b2 h.dct nofun
    nd := h.nd
    len := by rw [List.length_set]; exact h.len
    at_ := fun n q k' a b => by
      by_cases e : n = i
      · subst e
        rw [hp] at a
        cases a
        rw [List.getElem?_set_self hlt] at b
        cases b
        exact ⟨set_get_ne b2 b1 nofun, set_get_eq b2⟩
      · rw [List.getElem?_set_ne (fun q => e q.symm)] at b
        obtain ⟨g1, g2⟩ := h.at_ n q k' a b
        refine ⟨set_get_ne b2 g1 nofun, ?_⟩
        rw [List.getElem?_set_ne]
        · exact g2
        · intro e2
          have z1 : (ps.map (·.2))[n]? = some q.2 := by rw [List.getElem?_map, a]; rfl
          have z2 : (ps.map (·.2))[i]? = some q.2 := by rw [List.getElem?_map, hp, ← e2]; rfl
          obtain ⟨l1, c1⟩ := List.getElem?_eq_some_iff.mp z1
          obtain ⟨l2, c2⟩ := List.getElem?_eq_some_iff.mp z2
          apply e
          rw [← h.nd.idxOf_getElem n l1, ← h.nd.idxOf_getElem i l2, c1, c2] }
theorem TreeS.group (h : TreeS l ks ps kvs o) {x : Str} {j : Nat} (hj : j ≤ ps.length) : TreeS ((l ++ [O.lst [], O.tpr [D.f (.str x), D.own l.length]]).set 3 (O.rfs (insAt (ps.map fun p => D.own p.1) j (.own (l.length + 1))))) (insAt ks j (x, [])) (insAt ps j (l.length + 1, l.length)) kvs o := by
  obtain ⟨d1, e1⟩ := h.isp.form
  have up : ∀ {i : Nat} {y : O}, l[i]? = some y → (l ++ [O.lst [], O.tpr [D.f (.str x), D.own l.length]])[i]? = some y := fun e => by
    rw [List.getElem?_append_left (List.getElem?_eq_some_iff.mp e).1]; exact e
  have n1 : (l ++ [O.lst [], O.tpr [D.f (.str x), D.own l.length]])[l.length]? = some (.lst []) := by rw [List.getElem?_append_right (Nat.le_refl _), Nat.sub_self]; rfl
  have n2 : (l ++ [O.lst [], O.tpr [D.f (.str x), D.own l.length]])[l.length + 1]? = some (.tpr [.f (.str x), .own l.length]) := by rw [List.getElem?_append_right (by omega), Nat.add_sub_cancel_left]; rfl
  exact {
    pen := by rw [List.getElem?_set_ne (by decide)]; exact up h.pen
    isp := h.isp
    rfs := by rw [insAt_map]; exact set_get_eq (up h.rfs)
    dct := by rw [List.getElem?_set_ne (by decide)]; exact up h.dct
    nd := by
      rw [insAt_map]
      refine insAt_nodup _ h.nd fun hm => ?_
      obtain ⟨q, hq, e⟩ := List.mem_map.mp hm
      obtain ⟨n, hn⟩ := List.getElem?_of_mem hq
      have hl : n < ks.length := by rw [← h.len]; exact (List.getElem?_eq_some_iff.mp hn).1
      have g := (h.at_ n q _ hn (List.getElem?_eq_getElem hl)).2
      have := (List.getElem?_eq_some_iff.mp g).1
      omega
    len := by rw [insAt_len, insAt_len, h.len]
    at_ := fun n q k' a b => by
      rw [get_insAt hj] at a
      rw [get_insAt (by rw [← h.len]; exact hj)] at b
      by_cases c1 : n < j
      · rw [if_pos c1] at a b
        obtain ⟨g1, g2⟩ := h.at_ n q k' a b
        exact ⟨set_get_ne (up h.rfs) (up g1) nofun, set_get_ne (up h.rfs) (up g2) nofun⟩
      · rw [if_neg c1] at a b
        by_cases c2 : n = j
        · rw [if_pos c2] at a b
          cases a
          cases b
          exact ⟨set_get_ne (up h.rfs) n2 nofun, set_get_ne (up h.rfs) n1 nofun⟩
        · rw [if_neg c2] at a b
          obtain ⟨g1, g2⟩ := h.at_ _ q k' a b
          exact ⟨set_get_ne (up h.rfs) (up g1) nofun, set_get_ne (up h.rfs) (up g2) nofun⟩ }
end
theorem ksPy_app (a b : Knots) : ksPy (a ++ b) = ksPy a ++ ksPy b := List.map_append ..
theorem sPy_insAt (xs : List Str) (n : Nat) (x : Str) : (sPy xs).take n ++ [PyData.str x] ++ (sPy xs).drop n = sPy (insAt xs n x) := (insAt_map PyData.str xs n x).symm
section
variable {K : PySem.W.Frag} {l : List O} {R : D → List O → Prop}
theorem c_lenR {n : Nat} {ds : List D} (h : l[n]? = some (.rfs ds)) (z : R (.f (.int ds.length)) l) : CaS K (rLenU K) [.own n] l R := fun m B H vs S r Q q => by
  cases r with
  | cons r1 r2 =>
    cases r2
    obtain ⟨a, rfl, ha⟩ := r1
    obtain ⟨⟨xs, e, pr⟩, _⟩ := S.obj n a _ ha h
    refine .inl ⟨a, xs, rfl, .inl (SqL.of e), ?_⟩
    rw [pair_len pr]
    exact retF S q (FR.int _) z
end
end L3
/-! L3zr: methods and built-ins of plain tuples; repr of data with plain tuples -/
namespace L3
open PySem L2 PySem.Spec PyProof.Rows
theorem plainAttrs_tup : PlainAttrs "tuple" := PySem.F.plainAttrs_tuple
theorem ty_tindex : typeOf (.builtin "tuple.index") = pure (.type "method_descriptor") := PySem.F.type_tuple_index
section
variable {X : Cx}
def IsPl (x : V) (H : Hp) : Prop := ∃ (a : Addr) (o : Obj) (xs : List V), x = .ref a ∧ H a = some (.frz o (.tup xs)) ∧ o.dict = none
theorem isPl_is {pins : List (Addr × Obj)} {σ : L2.St} {H : Hp} {s : Shared} {x : V} {v : Value} (I : L2.Inv X pins σ H s) (r : L2.RelV x v) (h : IsPl x H) : s.TypeIs v "tuple" ∧ ∀ a, v = .ref a → ∃ ob, s.heap.get? a = some ob ∧ ob.dict = none := by
  obtain ⟨a, o, xs, rfl, ha, hd⟩ := h
  cases r
  obtain ⟨hget, _, its, _, o', ho', hc', n, hdat⟩ := I.hok a _ ha
  rw [hget] at ho'
  cases ho'
  refine ⟨⟨o, hget, hc'⟩, fun b e => ?_⟩
  cases e
  exact ⟨o, hget, hd⟩
def tBMP (K : PySem.W.Frag) (r : V → List V → Hp → VK → Prop) (to : TE) (t : TA) : TE := fun σ H Q => to σ H fun x H1 => IsPl x H1 ∧ t σ H1 fun xs H2 => r x xs H2 Q
variable {o e : Expr} {es : List Expr} {to : TE} {t : TA} {name : Str} {apos cpos : Pos} {id : String} {r : V → List V → Hp → VK → Prop}
theorem u_bmP {K : PySem.W.Frag} (hK : X.K = K) (pa : PlainAttrs "tuple") (slot : Slot "tuple" name id) (hty : typeOf (.builtin id) = pure (.type "method_descriptor")) (hm : MtR X id r) (ho : PE X o to) (ha : PA X (e :: es) t)
    (hbase : attributeBase o name X.env (eval o X.env) = eval o X.env := by rfl)
    (hfew : ((backTo cpos (starEach (e :: es) X.env)).all (fun x => !x.1) && (backToKw cpos (keywordEach [] X.env)).all (fun x => x.1.isSome)
      && decide ((e :: es).length + ([] : List Keyword).length + (if ([] : List Keyword).isEmpty then 0 else 1) < 30)) = true := by rfl)
    (hline : (apos.endLine == cpos.line) = true := by rfl) (hs : starEach (e :: es) X.env = (false, eval e X.env) :: starEach es X.env := by rfl) (hplain : (backTo cpos (starEach es X.env)).any (·.1) = false := by rfl) :
    PE X (.Call (.Attribute o name apos) (e :: es) [] cpos) (tBMP K r to t) := by
  subst hK
  refine ⟨fun pins s σ H Q I h => ?_⟩
  refine wpAny_Call_method_late hbase hfew hline rfl (thn (ho.run pins s σ H _ I h) fun v s1 ⟨x, H1, I1, r1, ty, q1⟩ => ?_)
  obtain ⟨h1, h2⟩ := isPl_is I1 r1 ty
  refine ⟨"tuple", id, pa, slot, hty, h1, h2, ?_⟩
  have hA := ha.run cpos pins s1 σ H1 _ I1 q1
  rw [hs] at hA ⊢
  refine Calls.callWith_builtin (by show (false || (backTo cpos (starEach es X.env)).any (·.1)) = false; rw [hplain] <;> rfl) (Calls.evalArgs_plain ?_)
  exact thn hA fun us s2 ⟨vs, H2, I2, r2, q2⟩ => hm pins s2 σ H2 x vs v us Q I2 r1 r2 q2
def rTIndex (K : PySem.W.Frag) : V → List V → Hp → VK → Prop := fun x xs H Q => ∃ p, ∃ ys : List Str, ∃ z j, x = .ref p ∧ xs = [.str z] ∧ SqT K H p (ys.map V.str) ∧ ys[j]? = some z ∧ (∀ m, m < j → ys[m]? ≠ some z) ∧ Q (.int (j : Nat)) H
theorem u_tindex {K : PySem.W.Frag} (hK : X.K = K) : MtR X "tuple.index" (rTIndex K) := by
  subst hK
  exact mt_tup_index
end
section
variable {K : PySem.W.Frag} {m m' : List Addr} {B B' H H' : Hp} {l : List O} {ρ : List (Option D)} {R : D → List O → Prop} {E : E3} {te tl : TE} {tt : TT} {t u : TS} {ty : TA} {g : TG}
theorem e_bmP {r : V → List V → Hp → VK → Prop} {to : TE} (h : EvS K to ρ l fun x l1 => (∃ ds, x = .f (plD ds)) ∧ EvA K ty ρ l1 fun es l2 => MeS K r x es l2 R) : EvS K (tBMP K r to ty) ρ l R := fun m B H σ S e Q q => by
  refine h m B H σ S e _ fun v m1 B1 H1 x l1 s1 S1 r1 ⟨⟨ds, hL⟩, z⟩ => ?_
  subst hL
  obtain ⟨a, us, o, ev, ha, hd, qq⟩ := pl_at S1 r1
  refine ⟨⟨a, o, us, ev, ha, hd⟩, z m1 B1 H1 σ S1 (e.step s1) _ fun vs m2 B2 H2 es l2 s2 S2 r2 z2 => ?_⟩
  exact z2 m2 B2 H2 _ vs S2 (r1.step s2) r2 Q (q.step (s1.trans s2))
theorem m_tindex {xs : List Str} {y : Str} (hy : y ∈ xs) (z : R (.f (.int (xs.idxOf y : Nat))) l) : MeS K (rTIndex K) (.f (plD (sPy xs))) [.f (.str y)] l R := fun m B H vx vs S r1 r2 Q q => by
  cases r2 with
  | cons r2 r3 =>
    cases r3
    obtain ⟨a, us, o, ev, ha, hd, qq⟩ := pl_at S r1
    have eu := frs_str qq
    subst eu
    have hlt : xs.idxOf y < xs.length := List.idxOf_lt_length_iff.mpr hy
    refine ⟨a, xs, y, xs.idxOf y, ev, by rw [str_of r2], .inl (.inr ⟨o, ha⟩), ?_, fun m hm e => ?_, retF S q (FR.int _) z⟩
    · rw [List.getElem?_eq_getElem hlt, List.getElem_idxOf hlt]
    · have hml : m < xs.length := by omega
      rw [List.getElem?_eq_getElem hml] at e
      have e1 := Option.some.inj e
      have := List.not_of_lt_findIdx (p := fun z => z == y) (xs := xs) (i := m) hm
      rw [e1] at this
      simp at this
theorem o_inPS {neg : Bool} {x : Str} {xs : List Str} (z : R (.f (.bool (if neg then !decide (x ∈ xs) else decide (x ∈ xs)))) l) : OpS K (rInU K neg) (.f (.str x)) (.f (plD (sPy xs))) l R := fun m B H vx vy S r1 r2 Q q => by
  obtain ⟨a, us, o, e1, ha, _, q1⟩ := pl_at S r2
  have eu := frs_str q1
  subst eu
  refine .inl ⟨a, _, e1, .inr (.inl (.inr ⟨o, ha⟩)), by rw [str_of r1]; rfl, flat_str xs, ?_⟩
  rw [str_of r1, inV_str]
  exact retF S q (FR.bl _) z
theorem c_lenP {ds : List PyData} (z : R (.f (.int ds.length)) l) : CaS K (rLenU K) [.f (plD ds)] l R := fun m B H vs S r Q q => by
  cases r with
  | cons r1 r2 =>
    cases r2
    obtain ⟨a, us, o, e1, ha, _, q1⟩ := pl_at S r1
    refine .inl ⟨a, us, by rw [e1], .inr (.inl (.inr ⟨o, ha⟩)), ?_⟩
    rw [q1.length]
    exact retF S q (FR.int _) z
theorem c_listP {ds : List PyData} (z : R (.own l.length) (l ++ [.lst ds])) : CaS K (rListOf K) [.f (plD ds)] l R := fun m B H vs S r Q q => by
  cases r with
  | cons r1 r2 =>
    cases r2
    obtain ⟨a, us, o, rfl, ha, _, pr⟩ := pl_at S r1
    exact ⟨a, us, rfl, .inr (.inl (.inr ⟨o, ha⟩)), fun p hp => retL S q hp pr z⟩
end
end L3
/-! L3zs: houses as plain lists: ways down, where units part, edges of a knot's view -/
namespace L3
open PySem L2
/-- knots within knots, not too many, not too deep -/
def TreeB (ks : Knots) (us : List Str) : Prop := ∃ deep r, Tree ks us deep r ∧ deep ≤ 100 ∧ us.length ≤ 60
def Arounds (ks : Knots) (kvs : List (Key × PyData)) : Prop := ∀ u k, Stands ks u k → lookD kvs (.inr u) = some (.str k)
def knotOf (ks : Knots) (u : Str) : Option Str := (ks.find? fun k => decide (u ∈ k.2)).map (·.1)
def pathF (ks : Knots) : Nat → Str → List Str
  | 0, _ => [nil0]
  | n + 1, u => if u = nil0 then [nil0] else match knotOf ks u with
    | none => [nil0, u]
    | some k => pathF ks n k ++ [u]
def pathOf (ks : Knots) (u : Str) : List Str := pathF ks 102 u
def partF (ks : Knots) (a b : Str) : Option (Str × Str × Str) := partP (pathOf ks a) (pathOf ks b)
def partD : Option (Str × Str × Str) → PyData
  | none => .none
  | some (k, a, b) => .tuple [.str k, .str a, .str b]
def kids (ks : Knots) (k : Str) : List Str := ((ks.find? fun p => decide (p.1 = k)).map (·.2)).getD []
section
variable {ks : Knots} {us : List Str} {deep : Int} {r : Str → Int}
theorem knotOf_some {u k : Str} (h : knotOf ks u = some k) : Stands ks u k := by
  unfold knotOf at h
  cases e : ks.find? fun k => decide (u ∈ k.2) with
  | none => rw [e] at h; cases h
  | some p =>
    rw [e] at h
    cases h
    exact ⟨p.2, List.mem_of_find?_eq_some e, by simpa using List.find?_some e⟩
theorem knotOf_none {u : Str} (h : knotOf ks u = none) (k : Str) : ¬ Stands ks u k := by
  rintro ⟨xs, h1, h2⟩
  unfold knotOf at h
  cases e : ks.find? fun k => decide (u ∈ k.2) with
  | none => exact absurd (decide_eq_true h2) (List.find?_eq_none.mp e _ h1)
  | some p => rw [e] at h; cases h
theorem Tree.knotOf (T : Tree ks us deep r) {u k : Str} : L3.knotOf ks u = some k ↔ Stands ks u k := by
  refine ⟨knotOf_some, fun h => ?_⟩
  cases e : L3.knotOf ks u with
  | none => exact absurd h (knotOf_none e k)
  | some k2 => rw [T.one u k k2 h (knotOf_some e)]
theorem Up.eqF (T : Tree ks us deep r) {u : Str} {p : List Str} (h : Up ks u p) : ∀ n, p.length ≤ n + 1 → pathF ks n u = p := by
  induction h with
  | top => intro n _; cases n <;> simp [pathF]
  | @step u k p h1 h2 h3 ih =>
    intro n hn
    obtain ⟨s, es⟩ := h3.ne
    rw [List.length_append] at hn
    have : 1 ≤ p.length := by rw [es]; simp
    simp only [List.length_cons, List.length_nil] at hn
    cases n with
    | zero => omega
    | succ n =>
      unfold pathF
      rw [if_neg h1, (T.knotOf).mpr h2]
      show pathF ks n k ++ [u] = _
      rw [ih n (by omega)]
theorem TreeB.up (h : TreeB ks us) {u : Str} (hu : u ∈ us) : Up ks u (pathOf ks u) ∧ (pathOf ks u).length ≤ 102 := by
  obtain ⟨deep, r, T, hd, hl⟩ := h
  obtain ⟨p, hp, hl⟩ := T.path hu
  have e : pathOf ks u = p := hp.eqF T 102 (by omega)
  rw [e]
  exact ⟨hp, by omega⟩
theorem TreeB.upK (h : TreeB ks us) {k : Str} (hk : k ∈ ks.map (·.1)) : Up ks k (pathOf ks k) ∧ (pathOf ks k).length ≤ 102 := by
  obtain ⟨deep, r, T, hd, hl⟩ := h
  obtain ⟨p, hp, hl⟩ := T.up k hk
  obtain ⟨x, hx, ex⟩ := List.mem_map.mp hk
  have := T.rng x hx
  rw [ex] at this
  have e : pathOf ks k = p := hp.eqF T 102 (by omega)
  rw [e]
  exact ⟨hp, by omega⟩
theorem TreeB.eq (h : TreeB ks us) {u : Str} {p : List Str} (hp : Up ks u p) (hu : u ∈ us ∨ u ∈ ks.map (·.1)) : p = pathOf ks u := by
  obtain ⟨deep, r, T, hd, hl⟩ := h
  rcases hu with hu | hu
  · exact hp.uniq T (TreeB.up ⟨deep, r, T, hd, hl⟩ hu).1
  · exact hp.uniq T (TreeB.upK ⟨deep, r, T, hd, hl⟩ hu).1
theorem Up.next {u : Str} {p : List Str} (h : Up ks u p) : ∀ {i : Nat} {k x : Str}, p[i]? = some k → p[i + 1]? = some x → Stands ks x k := by
  induction h with
  | top => intro i k x _ h2; simp at h2
  | @step u k p h1 h2 h3 ih =>
    intro i k' x a b
    by_cases e : i + 1 < p.length
    · rw [List.getElem?_append_left e] at b
      rw [List.getElem?_append_left (by omega)] at a
      exact ih a b
    · rw [List.getElem?_append_right (by omega)] at b
      have e2 : i + 1 - p.length = 0 := by
        have := (List.getElem?_eq_some_iff.mp b).1
        simp at this
        omega
      rw [e2] at b
      cases b
      have hl := h3.last
      rw [List.getLast?_eq_getElem?] at hl
      obtain ⟨s, es⟩ := h3.ne
      have : 1 ≤ p.length := by rw [es]; simp
      rw [List.getElem?_append_left (by omega), show i = p.length - 1 by omega, hl] at a
      cases a
      exact h2
theorem common_comm : ∀ xs ys : List Str, common xs ys = common ys xs
  | [], [] => rfl
  | [], _ :: _ => rfl
  | _ :: _, [] => rfl
  | x :: xs, y :: ys => by
    simp only [common]
    by_cases e : x = y
    · rw [if_pos e, if_pos e.symm, common_comm xs ys]
    · rw [if_neg e, if_neg fun q => e q.symm]
theorem partF_swap (a b : Str) : partF ks b a = (partF ks a b).map fun t => (t.1, t.2.2, t.2.1) := by
  unfold partF partP
  rw [common_comm (pathOf ks b), Nat.min_comm (pathOf ks b).length]
  by_cases e : common (pathOf ks a) (pathOf ks b) = min (pathOf ks a).length (pathOf ks b).length
  · rw [if_pos e, if_pos e]; rfl
  · rw [if_neg e, if_neg e]
    have hl := common_le (pathOf ks a) (pathOf ks b)
    have : (pathOf ks b).getD (common (pathOf ks a) (pathOf ks b) - 1) nil0 = (pathOf ks a).getD (common (pathOf ks a) (pathOf ks b) - 1) nil0 ∨ common (pathOf ks a) (pathOf ks b) = 0 := by
      by_cases e0 : common (pathOf ks a) (pathOf ks b) = 0
      · exact .inr e0
      · refine .inl ?_
        rw [List.getD_eq_getElem?_getD, List.getD_eq_getElem?_getD, common_at (xs := pathOf ks a) (ys := pathOf ks b) (i := common (pathOf ks a) (pathOf ks b) - 1) (by omega)]
    rcases this with h | h
    · rw [h]; rfl
    · rw [h]
      show some ((pathOf ks b).getD 0 nil0, _, _) = some ((pathOf ks a).getD 0 nil0, _, _)
      have hd : ∀ u, (pathOf ks u).getD 0 nil0 = nil0 := fun u => by
        unfold pathOf
        have : ∀ n u, (pathF ks n u).getD 0 nil0 = nil0 ∧ 1 ≤ (pathF ks n u).length := by
          intro n
          induction n with
          | zero => intro u; exact ⟨rfl, Nat.le_refl _⟩
          | succ n ih =>
            intro u
            unfold pathF
            split
            · exact ⟨rfl, Nat.le_refl _⟩
            · split
              · exact ⟨rfl, by simp⟩
              · rename_i k _
                obtain ⟨h1, h2⟩ := ih k
                refine ⟨?_, by rw [List.length_append]; simp⟩
                rw [List.getD_eq_getElem?_getD, List.getElem?_append_left (by omega), ← List.getD_eq_getElem?_getD]
                exact h1
        exact (this 102 u).1
      rw [hd, hd]
/-- where two units part: the two children stand in the knot, and are unlike -/
theorem TreeB.part (h : TreeB ks us) {a b k x y : Str} (ha : a ∈ us) (hb : b ∈ us) (hp : partF ks a b = some (k, x, y)) : Stands ks x k ∧ Stands ks y k ∧ x ≠ y := by
  obtain ⟨ua, la⟩ := h.up ha
  obtain ⟨ub, lb⟩ := h.up hb
  unfold partF partP at hp
  have hl := common_le (pathOf ks a) (pathOf ks b)
  split at hp
  · cases hp
  · rename_i hne
    obtain ⟨p2, ep⟩ := ua.ne
    obtain ⟨q2, eq⟩ := ub.ne
    have h1 : 1 ≤ common (pathOf ks a) (pathOf ks b) := by rw [ep, eq]; simp [common]
    have hend := common_end (xs := pathOf ks a) (ys := pathOf ks b) (by omega)
    have hat := common_at (xs := pathOf ks a) (ys := pathOf ks b) (i := common (pathOf ks a) (pathOf ks b) - 1) (by omega)
    cases hp
    generalize hc : common (pathOf ks a) (pathOf ks b) = c at *
    have ga : ∀ {xs : List Str} {i : Nat}, i < xs.length → xs[i]? = some (xs.getD i nil0) := fun {xs i} hi => by
      rw [List.getD_eq_getElem?_getD, List.getElem?_eq_getElem hi]; rfl
    have ea := ga (xs := pathOf ks a) (i := c) (by omega)
    have eb := ga (xs := pathOf ks b) (i := c) (by omega)
    have ek := ga (xs := pathOf ks a) (i := c - 1) (by omega)
    refine ⟨ua.next ek (by rw [show c - 1 + 1 = c by omega]; exact ea), ub.next (hat ▸ ek) (by rw [show c - 1 + 1 = c by omega]; exact eb), fun e => hend ?_⟩
    rw [ea, eb, e]
theorem find_names {k : Str} {xs : List Str} : ∀ {ks : Knots}, (ks.map (·.1)).Nodup → (k, xs) ∈ ks → ks.find? (fun p => decide (p.1 = k)) = some (k, xs)
  | [], _, h => by cases h
  | p :: ks, hn, h => by
    rw [List.map_cons, List.nodup_cons] at hn
    rw [List.find?_cons]
    rcases List.mem_cons.mp h with rfl | h
    · simp
    · have : p.1 ≠ k := fun e => hn.1 (e ▸ List.mem_map_of_mem (f := (·.1)) h)
      rw [decide_eq_false this]
      exact find_names hn.2 h
theorem kids_of (hn : (ks.map (·.1)).Nodup) {k : Str} {xs : List Str} (h : (k, xs) ∈ ks) : kids ks k = xs := by
  unfold kids
  rw [find_names hn h]
  rfl
theorem mem_kids (hn : (ks.map (·.1)).Nodup) {k x : Str} : x ∈ kids ks k ↔ Stands ks x k := by
  constructor
  · intro h
    unfold kids at h
    cases e : ks.find? fun p => decide (p.1 = k) with
    | none => rw [e] at h; cases h
    | some p =>
      rw [e] at h
      have this : p.1 = k := by simpa using List.find?_some e
      subst this
      exact ⟨p.2, List.mem_of_find?_eq_some e, h⟩
  · rintro ⟨xs, h1, h2⟩
    rw [kids_of hn h1]
    exact h2
theorem TreeB.names (h : TreeB ks us) : (ks.map (·.1)).Nodup := by obtain ⟨_, _, T, _⟩ := h; exact T.names
theorem TreeB.kid (h : TreeB ks us) {k x : Str} (hx : x ∈ kids ks k) : x ∈ us := by
  obtain ⟨_, _, T, _⟩ := h
  exact (T.all x).mpr ⟨k, (mem_kids T.names).mp hx⟩
theorem TreeB.kidsNd (h : TreeB ks us) (k : Str) : (kids ks k).Nodup := by
  obtain ⟨_, _, T, _⟩ := h
  unfold kids
  cases e : ks.find? fun p => decide (p.1 = k) with
  | none => exact List.nodup_nil
  | some p => exact T.nd p (List.mem_of_find?_eq_some e)
theorem TreeB.kidsLen (h : TreeB ks us) (k : Str) : (kids ks k).length ≤ 60 := by
  have h1 := nodup_le (h.kidsNd k) fun x hx => h.kid hx
  obtain ⟨_, _, T, _, hl⟩ := h
  omega
theorem TreeB.len (h : TreeB ks us) : ks.length ≤ 61 := by
  obtain ⟨_, _, T, _, hl⟩ := h
  have := T.len
  omega
end
/-! each once, where it comes first -/
section
variable {α : Type} [DecidableEq α]
def addOnce (acc : List α) (x : α) : List α := if x ∈ acc then acc else acc ++ [x]
def onceL (xs : List α) : List α := xs.foldl addOnce []
theorem onceL_snoc (xs : List α) (x : α) : onceL (xs ++ [x]) = addOnce (onceL xs) x := by
  unfold onceL; rw [List.foldl_append]; rfl
theorem addOnce_mem {acc : List α} {x y : α} : y ∈ addOnce acc x ↔ y ∈ acc ∨ y = x := by
  unfold addOnce
  split
  · rename_i h
    exact ⟨.inl, fun q => q.elim id fun e => e ▸ h⟩
  · simp
theorem addOnce_nodup {acc : List α} {x : α} (h : acc.Nodup) : (addOnce acc x).Nodup := by
  unfold addOnce
  split
  · exact h
  · rename_i hx
    rw [List.nodup_append]
    exact ⟨h, by simp, fun a ha b hb => by cases List.mem_singleton.mp hb; exact fun e => hx (e ▸ ha)⟩
theorem addOnce_len (acc : List α) (x : α) : (addOnce acc x).length ≤ acc.length + 1 := by
  unfold addOnce; split <;> simp
theorem fold_once : ∀ (xs acc : List α), acc.Nodup → (xs.foldl addOnce acc).Nodup ∧ (∀ y, y ∈ xs.foldl addOnce acc ↔ y ∈ acc ∨ y ∈ xs) ∧ (xs.foldl addOnce acc).length ≤ acc.length + xs.length
  | [], acc, h => ⟨h, fun y => by simp, by simp⟩
  | x :: xs, acc, h => by
    obtain ⟨a, b, c⟩ := fold_once xs (addOnce acc x) (addOnce_nodup h)
    rw [List.foldl_cons]
    refine ⟨a, fun y => ?_, ?_⟩
    · rw [b y, addOnce_mem, List.mem_cons]
      simp only [or_assoc]
    · have := addOnce_len acc x
      rw [List.length_cons]
      omega
theorem onceL_nodup (xs : List α) : (onceL xs).Nodup := (fold_once xs [] List.nodup_nil).1
theorem mem_onceL {xs : List α} {y : α} : y ∈ onceL xs ↔ y ∈ xs := by
  have := (fold_once xs [] List.nodup_nil).2.1 y
  unfold onceL
  simpa using this
theorem onceL_len (xs : List α) : (onceL xs).length ≤ xs.length := by
  have := (fold_once xs [] List.nodup_nil).2.2
  unfold onceL
  simpa using this
end
/-! edges of a knot's view -/
abbrev Ties := List (Str × Str)
def tieE1 (ks : Knots) (k : Str) (e : Str × Str) : Option (Str × Str) := match partF ks e.1 e.2 with
  | some (kk, x, y) => if kk = k then some (x, y) else none
  | none => none
def tieE (ks : Knots) (k : Str) (ts : Ties) : Ties := ts.filterMap (tieE1 ks k)
/-- what a want of a child brings -/
def wantRow (w u : Str) (some_ : List Str) : Ties := (some_.filter fun o => decide (o ≠ u)).map fun o => if w = ("last" : Str) then (o, u) else (u, o)
def wantUs (ks : Knots) (k w : Str) (ws : Ties) : List Str := (ws.filter fun q => decide (q.1 = w) && decide (q.2 ∈ kids ks k)).map (·.2)
def wantE (ks : Knots) (k w : Str) (ws : Ties) : Ties := (wantUs ks k w ws).flatMap fun u => wantRow w u (kids ks k)
def edges0 (ks : Knots) (ts ws : Ties) (k : Str) : Ties := tieE ks k ts ++ wantE ks k "first" ws ++ wantE ks k "last" ws
def edgesF (ks : Knots) (ts ws : Ties) (k : Str) : Ties := onceL (edges0 ks ts ws k)
def Parted (ks : Knots) (us : List Str) (ts : Ties) : Prop := ∀ e ∈ ts, e.1 ∈ us ∧ e.2 ∈ us ∧ ∃ k x y, partF ks e.1 e.2 = some (k, x, y)
theorem take_snoc {α : Type} {xs : List α} {i : Nat} {x : α} (h : xs[i]? = some x) : xs.take (i + 1) = xs.take i ++ [x] := take_next h
theorem flatMap_len {α β : Type} {f : α → List β} {n : Nat} : ∀ {xs : List α}, (∀ x ∈ xs, (f x).length ≤ n) → (xs.flatMap f).length ≤ n * xs.length
  | [], _ => by simp
  | x :: xs, h => by
    have ih := flatMap_len (f := f) (n := n) (xs := xs) fun y hy => h y (List.mem_cons_of_mem _ hy)
    have := h x List.mem_cons_self
    rw [List.flatMap_cons, List.length_append, List.length_cons, Nat.mul_add]
    omega
theorem wantRow_len (w u : Str) (xs : List Str) : (wantRow w u xs).length ≤ xs.length := by
  unfold wantRow; rw [List.length_map]; exact List.length_filter_le ..
theorem wantUs_len (ks : Knots) (k w : Str) (ws : Ties) : (wantUs ks k w ws).length ≤ ws.length := by
  unfold wantUs; rw [List.length_map]; exact List.length_filter_le ..
section
variable {ks : Knots} {us : List Str}
theorem edges0_len (h : TreeB ks us) (ts ws : Ties) (k : Str) : (edges0 ks ts ws k).length ≤ ts.length + 120 * ws.length := by
  unfold edges0
  rw [List.length_append, List.length_append]
  have h1 : (tieE ks k ts).length ≤ ts.length := List.length_filterMap_le ..
  have h2 : ∀ w, (wantE ks k w ws).length ≤ 60 * ws.length := fun w => by
    have := flatMap_len (f := fun u => wantRow w u (kids ks k)) (n := 60) (xs := wantUs ks k w ws) fun u _ => Nat.le_trans (wantRow_len ..) (h.kidsLen k)
    have := wantUs_len ks k w ws
    unfold wantE
    omega
  have := h2 "first"
  have := h2 "last"
  omega
theorem tieE_kids (h : TreeB ks us) {ts : Ties} (hp : Parted ks us ts) {k : Str} : ∀ e ∈ tieE ks k ts, e.1 ∈ kids ks k ∧ e.2 ∈ kids ks k ∧ e.1 ≠ e.2 := by
  intro e he
  obtain ⟨t, ht, e1⟩ := List.mem_filterMap.mp he
  obtain ⟨h1, h2, kk, x, y, hq⟩ := hp t ht
  unfold tieE1 at e1
  rw [hq] at e1
  simp only at e1
  split at e1
  · rename_i ek
    cases e1
    subst ek
    obtain ⟨a, b, c⟩ := h.part h1 h2 hq
    exact ⟨(mem_kids h.names).mpr a, (mem_kids h.names).mpr b, c⟩
  · cases e1
theorem wantE_kids {k w : Str} {ws : Ties} : ∀ e ∈ wantE ks k w ws, e.1 ∈ kids ks k ∧ e.2 ∈ kids ks k ∧ e.1 ≠ e.2 := by
  intro e he
  obtain ⟨u, hu, he⟩ := List.mem_flatMap.mp he
  unfold wantUs at hu
  obtain ⟨q, hq, rfl⟩ := List.mem_map.mp hu
  have hq2 : q.2 ∈ kids ks k := by
    have := (List.mem_filter.mp hq).2
    simp at this
    exact this.2
  unfold wantRow at he
  obtain ⟨o, ho, rfl⟩ := List.mem_map.mp he
  obtain ⟨ho1, ho2⟩ := List.mem_filter.mp ho
  have ho2 : o ≠ q.2 := of_decide_eq_true ho2
  split
  · exact ⟨ho1, hq2, ho2⟩
  · exact ⟨hq2, ho1, fun e => ho2 e.symm⟩
theorem edges_kids (h : TreeB ks us) {ts ws : Ties} (hp : Parted ks us ts) {k : Str} : ∀ e ∈ edgesF ks ts ws k, e.1 ∈ kids ks k ∧ e.2 ∈ kids ks k ∧ e.1 ≠ e.2 := by
  intro e he
  have := mem_onceL.mp he
  unfold edges0 at this
  rcases List.mem_append.mp this with h1 | h1
  · rcases List.mem_append.mp h1 with h1 | h1
    · exact tieE_kids h hp e h1
    · exact wantE_kids e h1
  · exact wantE_kids e h1
end
/-! what is come to over edges -/
inductive GoesS (es : Ties) : Str → Str → Prop
  | refl (a : Str) : GoesS es a a
  | tail {a b c : Str} : GoesS es a b → (b, c) ∈ es → GoesS es a c
structure Reached (es : Ties) (one : Str) (xs : List Str) : Prop where
  nd : xs.Nodup
  hd : xs.head? = some one
  all : ∀ y, y ∈ xs ↔ GoesS es one y
/-- midway: all edges of the first n, and the first j edges -/
structure Reaching (es : Ties) (one : Str) (n j : Nat) (xs : List Str) : Prop where
  nd : xs.Nodup
  hd : xs.head? = some one
  go : ∀ y ∈ xs, GoesS es one y
  old : ∀ (i : Nat) x, i < n → xs[i]? = some x → ∀ e ∈ es, e.1 = x → e.2 ∈ xs
  now : ∀ x, xs[n]? = some x → ∀ e ∈ es.take j, e.1 = x → e.2 ∈ xs
section
variable {es : Ties} {one : Str} {n j : Nat} {xs : List Str}
theorem Reaching.start (es : Ties) (one : Str) : Reaching es one 0 0 [one] where
  nd := by simp
  hd := rfl
  go := fun y hy => by cases List.mem_singleton.mp hy; exact .refl _
  old := fun i x hi => by omega
  now := fun x _ e he => by simp at he
theorem Reaching.len (h : Reaching es one n j xs) : xs.length ≤ es.length + 1 := by
  have := nodup_le (ys := one :: es.map (·.2)) h.nd fun y hy => by
    cases h.go y hy with
    | refl => exact List.mem_cons_self
    | tail _ h2 => exact List.mem_cons_of_mem _ (List.mem_map.mpr ⟨_, h2, rfl⟩)
  simpa using this
theorem Reaching.same (h : Reaching es one n j xs) {e : Str × Str} (he : es[j]? = some e) (hx : ∀ x, xs[n]? = some x → e.1 = x → e.2 ∈ xs) : Reaching es one n (j + 1) xs where
  nd := h.nd
  hd := h.hd
  go := h.go
  old := h.old
  now := fun x hn e' he' e1 => by
    rw [take_snoc he] at he'
    rcases List.mem_append.mp he' with q | q
    · exact h.now x hn e' q e1
    · cases List.mem_singleton.mp q; exact hx x hn e1
theorem Reaching.add (h : Reaching es one n j xs) {e : Str × Str} (he : es[j]? = some e) {x : Str} (hn : xs[n]? = some x) (hx : e.1 = x) (hm : ¬ e.2 ∈ xs) : Reaching es one n (j + 1) (xs ++ [e.2]) where
  nd := by
    rw [List.nodup_append]
    exact ⟨h.nd, by simp, fun a ha b hb => by cases List.mem_singleton.mp hb; exact fun q => hm (q ▸ ha)⟩
  hd := by
    have := h.hd
    cases xs with
    | nil => cases this
    | cons a b => exact this
  go := fun y hy => by
    rcases List.mem_append.mp hy with q | q
    · exact h.go y q
    · cases List.mem_singleton.mp q
      refine .tail (h.go x (List.mem_of_getElem? hn)) ?_
      subst hx
      exact List.mem_of_getElem? he
  old := fun i y hi hy e' he' e1 => by
    have hl := (List.getElem?_eq_some_iff.mp hn).1
    rw [List.getElem?_append_left (by omega)] at hy
    exact List.mem_append_left _ (h.old i y hi hy e' he' e1)
  now := fun y hy e' he' e1 => by
    have hl := (List.getElem?_eq_some_iff.mp hn).1
    rw [List.getElem?_append_left hl] at hy
    rw [take_snoc he] at he'
    rcases List.mem_append.mp he' with q | q
    · exact List.mem_append_left _ (h.now y hy e' q e1)
    · cases List.mem_singleton.mp q; simp
theorem Reaching.next (h : Reaching es one n es.length xs) : Reaching es one (n + 1) 0 xs where
  nd := h.nd
  hd := h.hd
  go := h.go
  old := fun i x hi hx e he e1 => by
    by_cases q : i = n
    · subst q
      exact h.now x hx e (by rw [List.take_length]; exact he) e1
    · exact h.old i x (by omega) hx e he e1
  now := fun x _ e he => by simp at he
theorem Reaching.done (h : Reaching es one n j xs) (hl : xs.length ≤ n) : Reached es one xs where
  nd := h.nd
  hd := h.hd
  all := fun y => by
    refine ⟨h.go y, fun g => ?_⟩
    induction g with
    | refl =>
      have := h.hd
      cases xs with
      | nil => cases this
      | cons a b => cases this; exact List.mem_cons_self
    | tail _ h2 ih =>
      obtain ⟨i, hi⟩ := List.getElem?_of_mem ih
      exact h.old i _ (by have := (List.getElem?_eq_some_iff.mp hi).1; omega) hi _ h2 rfl
end
/-! wants, ties, waiting ones of a good house -/
def WantOk (ks : Knots) (q : Str × Str) : Prop := (q.1 = "first" ∧ ∃ k ∈ ks, k.2.head? = some q.2) ∨ (q.1 = "last" ∧ ∃ k ∈ ks, k.2.getLast? = some q.2 ∧ 1 < k.2.length)
structure WantsOk (ks : Knots) (ws : Ties) : Prop where
  ok : ∀ q ∈ ws, WantOk ks q
  nd : (ws.map (·.2)).Nodup
def Forward (ks : Knots) (e : Str × Str) : Prop := ∀ k x y, partF ks e.1 e.2 = some (k, x, y) → (kids ks k).idxOf x < (kids ks k).idxOf y
structure TiesOk (ks : Knots) (us : List Str) (ts : Ties) : Prop where
  pa : Parted ks us ts
  fw : ∀ e ∈ ts, Forward ks e
  nd : ts.Nodup
def Closing (ks : Knots) (ts ws : Ties) (e : Str × Str) : Prop := ∀ k x y, partF ks e.1 e.2 = some (k, x, y) → GoesS (edgesF ks ts ws k) y x
structure WaitsOk (ks : Knots) (us : List Str) (ts ws wt : Ties) : Prop where
  pa : Parted ks us wt
  cl : ∀ e ∈ wt, Closing ks ts ws e
  nd : wt.Nodup
/-- a good house as the laws build it -/
structure HouseOk (ks : Knots) (us : List Str) (ts wt ws : Ties) : Prop where
  tree : TreeB ks us
  ties : TiesOk ks us ts
  tl : ts.length ≤ 40
  wants : WantsOk ks ws
  waits : WaitsOk ks us ts ws wt
  wl : wt.length ≤ 5
def houseD (ks : Knots) (ts wt ws : Ties) : PyData := .tuple [plD (ksPy ks), .tuple (pPy ts), .tuple (pPy wt), .tuple (pPy ws)]
theorem WantOk.unit {ks : Knots} {us : List Str} (h : TreeB ks us) {q : Str × Str} (hq : WantOk ks q) : q.2 ∈ us := by
  obtain ⟨_, _, T, _⟩ := h
  rcases hq with ⟨_, k, hk, e⟩ | ⟨_, k, hk, e, _⟩
  · exact (T.all _).mpr ⟨k.1, k.2, hk, List.mem_of_mem_head? (by rw [e]; rfl)⟩
  · exact (T.all _).mpr ⟨k.1, k.2, hk, List.mem_of_getLast? e⟩
theorem WantsOk.len {ks : Knots} {us : List Str} (h : TreeB ks us) {ws : Ties} (hw : WantsOk ks ws) : ws.length ≤ 60 := by
  have := nodup_le hw.nd (ys := us) fun u hu => by
    obtain ⟨q, hq, rfl⟩ := List.mem_map.mp hu
    exact (hw.ok q hq).unit h
  obtain ⟨_, _, T, _, hl⟩ := h
  rw [List.length_map] at this
  omega
theorem pPy_insAt (xs : Ties) (n : Nat) (x : Str × Str) : (pPy xs).take n ++ [PyData.tuple [.str x.1, .str x.2]] ++ (pPy xs).drop n = pPy (insAt xs n x) := by
  unfold insAt pPy
  simp [List.map_take, List.map_drop]
/-! a dict of knots; constants of a module; repr of plain tuples -/
def ksPrs (ks : Knots) : List (Key × PyData) := ks.map fun k => ((Sum.inr k.1 : Key), plD (sPy k.2))
theorem ksPy_prs (ks : Knots) : ksPy ks = (ksPrs ks).map prK := by
  unfold ksPy ksPrs
  rw [List.map_map]
  rfl
theorem lookD_mem {κ : Type} [DecidableEq κ] {k : κ} {v : PyData} : ∀ {kvs : List (κ × PyData)}, (kvs.map (·.1)).Nodup → (k, v) ∈ kvs → lookD kvs k = some v
  | [], _, h => by cases h
  | p :: kvs, hn, h => by
    rw [List.map_cons, List.nodup_cons] at hn
    rw [lookD_cons]
    rcases List.mem_cons.mp h with rfl | h
    · rw [if_pos rfl]
    · rw [if_neg fun e : p.1 = k => hn.1 (e ▸ List.mem_map_of_mem (f := (·.1)) h)]
      exact lookD_mem hn.2 h
theorem ksPrs_nd {ks : Knots} (hn : (ks.map (·.1)).Nodup) : ((ksPrs ks).map (·.1)).Nodup := by
  have e : (ksPrs ks).map (·.1) = (ks.map (·.1)).map (Sum.inr : Str → Key) := by unfold ksPrs; rw [List.map_map, List.map_map]; rfl
  rw [e]
  exact List.pairwise_map.mpr (hn.imp fun h q => h (Sum.inr.inj q))
theorem ksPrs_eq {ks : Knots} (hn : (ks.map (·.1)).Nodup) : mergeD [] (ksPrs ks) = ksPrs ks := by
  have := mergeD_new (more := ksPrs ks) (kvs := []) (ksPrs_nd hn) (fun p _ q hq => by cases hq)
  simpa using this
theorem ksPrs_look {ks : Knots} (hn : (ks.map (·.1)).Nodup) {k : Str} (hk : k ∈ ks.map (·.1)) : lookD (mergeD [] (ksPrs ks)) (.inr k) = some (plD (sPy (kids ks k))) := by
  rw [ksPrs_eq hn]
  obtain ⟨p, hp, rfl⟩ := List.mem_map.mp hk
  refine lookD_mem (ksPrs_nd hn) ?_
  rw [kids_of hn (k := p.1) (xs := p.2) hp]
  exact List.mem_map_of_mem (f := fun k => ((Sum.inr k.1 : Key), plD (sPy k.2))) hp
section
variable {X : Cx} {x : Str} {pos : Pos}
theorem pe_gs {z : Str} (hg : Gl X x) (hm : ∃ t : Tok, X.mg x = some (.str z t)) (hd : (x == ("__debug__" : Str)) = false := by decide) : PE X (.Name x pos) (tC (.str z)) := by
  obtain ⟨t, h⟩ := hm
  exact pe_glob hg h ⟨t, rfl⟩ hd
end
section
variable {K : PySem.W.Frag} {m m' : List Addr} {B B' H H' : Hp} {l : List O} {ρ : List (Option D)} {R : D → List O → Prop} {E : E3} {te tk : TE}
/-- dict(knots)[k] -/
theorem e_dictKnots {ks : Knots} (hn : (ks.map (·.1)).Nodup) (h : EvS K te ρ l fun x l1 => x = .f (plD (ksPy ks)) ∧ EvS K tk ρ (l1 ++ [.dct (mergeD [] (ksPrs ks))]) fun y l2 => ∃ k, y = .f (.str k) ∧ k ∈ ks.map (·.1) ∧ l2[l1.length]? = some (.dct (mergeD [] (ksPrs ks))) ∧ R (.f (plD (sPy (kids ks k)))) l2) : EvS K (tOp (rIxU K) (tCB (rDictQ K) (tCons te tNil)) tk) ρ l R := by
  refine e_op (e_cb (a_cons (h.imp fun x l1 ⟨hx, h2⟩ => ?_)))
  subst hx
  rw [ksPy_prs]
  refine a_nil (c_dictP (h2.imp fun y l2 ⟨k, hy, hk, hl, r⟩ => ?_))
  subst hy
  exact o_ixDk (n := l1.length) (k := .inr k) hl (ksPrs_look hn hk) r
mutual
theorem FR.dpU : ∀ (d : PyData) (v : V), (unpl d).hasDict = false → FR K B v d → Dp K B v (unpl d)
  | .none, _, _, h => by cases h; exact .non
  | .bool _, _, _, h => by cases h; exact .bl _
  | .int _, _, _, h => by cases h; exact .int _
  | .str _, _, _, h => by cases h; exact .str _
  | .list ds, _, n, h => by
    cases h with
    | lst h1 h2 => unfold unpl at n ⊢; exact .lst (SqL.of h1) (FRs.dpU ds _ (by simpa [PyData.hasDict] using n) h2)
  | .tuple ds, _, n, h => by
    cases h with
    | tup h1 h2 => unfold unpl at n ⊢; exact .tup h1.sq (FRs.dpU ds _ (by simpa [PyData.hasDict] using n) h2)
  | .dict [(.none, .tuple ds)], _, n, h => by
    cases h with
    | plt h1 h2 => unfold unpl at n ⊢; exact .tup h1.sq (FRs.dpU ds _ (by simpa [PyData.hasDict] using n) h2)
  | .dict [], _, n, h => by simp [unpl, PyData.hasDict] at n
  | .dict (_ :: _ :: _), _, _, h => by cases h
  | .dict [(.none, .none)], _, _, h => by cases h
  | .dict [(.none, .bool _)], _, _, h => by cases h
  | .dict [(.none, .int _)], _, _, h => by cases h
  | .dict [(.none, .str _)], _, _, h => by cases h
  | .dict [(.none, .list _)], _, _, h => by cases h
  | .dict [(.none, .dict _)], _, _, h => by cases h
  | .dict [(.bool _, _)], _, n, h => by simp [unpl, PyData.hasDict] at n
  | .dict [(.int _, _)], _, n, h => by simp [unpl, PyData.hasDict] at n
  | .dict [(.str _, _)], _, n, h => by simp [unpl, PyData.hasDict] at n
  | .dict [(.list _, _)], _, _, h => by cases h
  | .dict [(.tuple _, _)], _, n, h => by simp [unpl, PyData.hasDict] at n
  | .dict [(.dict _, _)], _, _, h => by cases h
theorem FRs.dpU : ∀ (ds : List PyData) (vs : List V), PyData.hasDictAll (unplAll ds) = false → FRs K B vs ds → DpAll K B vs (unplAll ds)
  | [], _, _, h => by cases h; unfold unplAll; exact .nil
  | d :: ds, _, n, h => by
    unfold unplAll at n ⊢
    have n' : (unpl d).hasDict = false ∧ PyData.hasDictAll (unplAll ds) = false := by simpa [PyData.hasDictAll] using n
    cases h with
    | cons h1 h2 => exact .cons (FR.dpU d _ n'.1 h1) (FRs.dpU ds _ n'.2 h2)
end
/-- repr of data in which plain tuples stand -/
theorem c_reprU {d : PyData} (hb : brief (unpl d) = true) (hw : wt (unpl d) ≤ 1000000) (hdp : (unpl d).depth ≤ 60) (z : R (.f (.str (unpl d).shown)) l) : CaS K (rRepr K) [.f d] l R := fun m B H vs S r Q q => by
  cases r with
  | cons r1 r2 =>
    cases r2
    exact ⟨_, _, rfl, FR.dpU d _ (brief_shows _ hb).2 (FR.same S.sub d _ r1), hb, hw, hdp, retF S q (FR.str _) z⟩
end
theorem unpl_sPy : ∀ xs : List Str, unplAll (sPy xs) = sPy xs
  | [] => by simp [sPy, unplAll]
  | x :: xs => by
    show unplAll (PyData.str x :: sPy xs) = _
    unfold unplAll
    rw [unpl_sPy xs]
    simp [unpl, sPy]
theorem unpl_pPy : ∀ xs : Ties, unplAll (pPy xs) = pPy xs
  | [] => by simp [pPy, unplAll]
  | x :: xs => by
    show unplAll (PyData.tuple [.str x.1, .str x.2] :: pPy xs) = _
    unfold unplAll
    rw [unpl_pPy xs]
    simp [unpl, unplAll, pPy]
def ksPl (ks : Knots) : List PyData := ks.map fun k => .tuple [.str k.1, .tuple (sPy k.2)]
theorem unpl_plD (ds : List PyData) : unpl (plD ds) = .tuple (unplAll ds) := by unfold plD unpl; rfl
theorem unpl_ksPy : ∀ ks : Knots, unplAll (ksPy ks) = ksPl ks
  | [] => by simp [ksPy, ksPl, unplAll]
  | k :: ks => by
    show unplAll (PyData.tuple [.str k.1, plD (sPy k.2)] :: ksPy ks) = PyData.tuple [.str k.1, .tuple (sPy k.2)] :: ksPl ks
    unfold unplAll
    rw [unpl_ksPy ks]
    simp only [unpl, unplAll]
    rw [show unpl (plD (sPy k.2)) = .tuple (sPy k.2) by rw [unpl_plD, unpl_sPy]]
theorem unpl_house (ks : Knots) (ts wt ws : Ties) : unpl (houseD ks ts wt ws) = .tuple [.tuple (ksPl ks), .tuple (pPy ts), .tuple (pPy wt), .tuple (pPy ws)] := by
  simp only [houseD, unpl, unplAll]
  rw [show unpl (plD (ksPy ks)) = .tuple (ksPl ks) by rw [unpl_plD, unpl_ksPy], unpl_pPy, unpl_pPy, unpl_pPy]
theorem brief_ksPl : ∀ {ks : Knots}, (∀ k ∈ ks, PyData.strOk k.1 = true ∧ ∀ x ∈ k.2, PyData.strOk x = true) → briefAll (ksPl ks) = true
  | [], _ => by simp [ksPl, briefAll]
  | k :: ks, h => by
    have ih := brief_ksPl (ks := ks) fun y hy => h y (List.mem_cons_of_mem _ hy)
    have h0 := h k List.mem_cons_self
    have := brief_sPy h0.2
    show briefAll (PyData.tuple [.str k.1, .tuple (sPy k.2)] :: ksPl ks) = true
    simp [briefAll, brief, ih, h0.1, this]
def unitsL (ks : Knots) : List Str := ks.flatMap (·.2)
theorem wt_ksPl : ∀ {ks : Knots}, (∀ k ∈ ks, k.1.length ≤ 30 ∧ ∀ x ∈ k.2, x.length ≤ 30) → wtAll (ksPl ks) ≤ 314 * ks.length + 304 * (unitsL ks).length
  | [], _ => by simp [ksPl, wtAll]
  | k :: ks, h => by
    have ih := wt_ksPl (ks := ks) fun y hy => h y (List.mem_cons_of_mem _ hy)
    obtain ⟨a, c⟩ := h k List.mem_cons_self
    have := wt_sPy c
    have e : unitsL (k :: ks) = k.2 ++ unitsL ks := rfl
    show wtAll (PyData.tuple [.str k.1, .tuple (sPy k.2)] :: ksPl ks) ≤ _
    rw [e, List.length_append, Nat.mul_add]
    simp only [wtAll, wt, List.length_cons]
    omega
theorem dep_ksPl : ∀ ks : Knots, PyData.depthAll (ksPl ks) ≤ 2
  | [] => by simp [ksPl, PyData.depthAll]
  | k :: ks => by
    have ih := dep_ksPl ks
    have := dep_sPy k.2
    show PyData.depthAll (PyData.tuple [.str k.1, .tuple (sPy k.2)] :: ksPl ks) ≤ 2
    simp only [PyData.depthAll, PyData.depth]
    omega
theorem atI_m1 {α : Type} {xs : List α} {x : α} (h : xs.getLast? = some x) : atI xs (-1) = some x := by
  rw [List.getLast?_eq_getElem?] at h
  have hl := (List.getElem?_eq_some_iff.mp h).1
  unfold atI ixN
  rw [if_neg (by decide), if_pos (by omega), Option.bind_some, show ((-1 : Int) + xs.length).toNat = xs.length - 1 by omega]
  exact h
theorem sPy_last {xs : List Str} {x : Str} (h : xs.getLast? = some x) : (sPy xs).getLast? = some (.str x) := by
  rw [List.getLast?_eq_getElem?] at h ⊢
  rw [sPy_len]
  exact sPy_get_of h
theorem atI_zero {α : Type} (x : α) (r : List α) : atI (x :: r) 0 = some x := by
  unfold atI ixN
  rw [if_pos (by decide), if_pos (by simp only [List.length_cons]; omega)]
  rfl
theorem ok_nil0 : PyData.strOk nil0 = true := by decide +kernel
theorem ok_first : PyData.strOk ("first" : Str) = true := by decide +kernel
theorem ok_last : PyData.strOk ("last" : Str) = true := by decide +kernel
theorem mem_unitsL {ks : Knots} {u : Str} : u ∈ unitsL ks ↔ ∃ k, Stands ks u k := by
  unfold unitsL
  rw [List.mem_flatMap]
  exact ⟨fun ⟨k, h1, h2⟩ => ⟨k.1, k.2, h1, h2⟩, fun ⟨k, xs, h1, h2⟩ => ⟨_, h1, h2⟩⟩
theorem Tree.unitsNd {ks : Knots} {us : List Str} {deep : Int} {r : Str → Int} (T : Tree ks us deep r) : (unitsL ks).Nodup := by
  unfold unitsL List.Nodup
  rw [List.pairwise_flatMap]
  refine ⟨fun k hk => T.nd k hk, ?_⟩
  have hn : ks.Pairwise fun a b => a.1 ≠ b.1 := List.pairwise_map.mp T.names
  refine hn.imp_of_mem fun {a b} ha hb hab x hx y hy e => hab ?_
  subst e
  exact T.one x _ _ ⟨_, ha, hx⟩ ⟨_, hb, hy⟩
theorem TreeB.unitsNd {ks : Knots} {us : List Str} (h : TreeB ks us) : (unitsL ks).Nodup := by obtain ⟨_, _, T, _⟩ := h; exact T.unitsNd
theorem TreeB.units {ks : Knots} {us : List Str} (h : TreeB ks us) (u : Str) : u ∈ unitsL ks ↔ u ∈ us := by
  obtain ⟨_, _, T, _⟩ := h
  rw [mem_unitsL, T.all]
theorem TreeB.unitsLen {ks : Knots} {us : List Str} (h : TreeB ks us) : (unitsL ks).length ≤ 60 := by
  have := nodup_le h.unitsNd fun u hu => (h.units u).mp hu
  obtain ⟨_, _, _, _, hl⟩ := h
  omega
theorem Tree.nameOk {ks : Knots} {us : List Str} {deep : Int} {r : Str → Int} (T : Tree ks us deep r) {P : Str → Prop} (h0 : P nil0) (h : ∀ u ∈ us, P u) : ∀ k ∈ ks, P k.1 ∧ ∀ x ∈ k.2, P x := fun k hk => by
  refine ⟨?_, fun x hx => h x ((T.all x).mpr ⟨k.1, k.2, hk, hx⟩)⟩
  rcases T.knot_in (List.mem_map_of_mem (f := (·.1)) hk) with e | e
  · rw [e]; exact h0
  · exact h _ e
theorem house_shows9 {ks : Knots} {us : List Str} {ts wt ws : Ties} (hB : TreeB ks us) (h1 : Parted ks us ts) (l1 : ts.length ≤ 400) (h2 : Parted ks us wt) (l2 : wt.length ≤ 400) (h3 : ∀ q ∈ ws, (q.1 = "first" ∨ q.1 = "last") ∧ q.2 ∈ us) (l3 : ws.length ≤ 120)
    (hs : ∀ u ∈ us, PyData.strOk u = true ∧ u.length ≤ 30) : brief (unpl (houseD ks ts wt ws)) = true ∧ L3.wt (unpl (houseD ks ts wt ws)) ≤ 900000 ∧ (unpl (houseD ks ts wt ws)).depth ≤ 60 := by
  rw [unpl_house]
  have hul := hB.unitsLen
  have hkl := hB.len
  obtain ⟨_, _, T, _⟩ := hB
  have hk := T.nameOk (P := fun u => PyData.strOk u = true ∧ u.length ≤ 30) ⟨ok_nil0, by decide⟩ hs
  have b1 := brief_ksPl (ks := ks) fun k h => ⟨(hk k h).1.1, fun x hx => ((hk k h).2 x hx).1⟩
  have b2 := brief_pPy (es := ts) fun e h => ⟨(hs _ (h1 e h).1).1, (hs _ (h1 e h).2.1).1⟩
  have b3 := brief_pPy (es := wt) fun e h => ⟨(hs _ (h2 e h).1).1, (hs _ (h2 e h).2.1).1⟩
  have hw : ∀ q ∈ ws, PyData.strOk q.1 = true ∧ q.1.length ≤ 30 := fun q h => by
    rcases (h3 q h).1 with e | e <;> rw [e]
    · exact ⟨ok_first, by decide⟩
    · exact ⟨ok_last, by decide⟩
  have b4 := brief_pPy (es := ws) fun e h => ⟨(hw e h).1, (hs _ (h3 e h).2).1⟩
  have w1 := wt_ksPl (ks := ks) fun k h => ⟨(hk k h).1.2, fun x hx => ((hk k h).2 x hx).2⟩
  have w2 := wt_pPy (es := ts) (k := 30) fun e h => ⟨(hs _ (h1 e h).1).2, (hs _ (h1 e h).2.1).2⟩
  have w3 := wt_pPy (es := wt) (k := 30) fun e h => ⟨(hs _ (h2 e h).1).2, (hs _ (h2 e h).2.1).2⟩
  have w4 := wt_pPy (es := ws) (k := 30) fun e h => ⟨(hw e h).2, (hs _ (h3 e h).2).2⟩
  have d1 := dep_ksPl ks
  have d2 := dep_pPy ts
  have d3 := dep_pPy wt
  have d4 := dep_pPy ws
  refine ⟨by simp [brief, briefAll, b1, b2, b3, b4], ?_, ?_⟩
  · simp only [L3.wt, wtAll]
    omega
  · simp only [PyData.depth, PyData.depthAll]
    omega
theorem HouseOk.shows9 {ks : Knots} {us : List Str} {ts wt ws : Ties} (h : HouseOk ks us ts wt ws) (hs : ∀ u ∈ us, PyData.strOk u = true ∧ u.length ≤ 30) : brief (unpl (houseD ks ts wt ws)) = true ∧ L3.wt (unpl (houseD ks ts wt ws)) ≤ 900000 ∧ (unpl (houseD ks ts wt ws)).depth ≤ 60 := by
  have l1 := h.tl
  have l2 := h.wl
  have l3 := h.wants.len h.tree
  refine house_shows9 h.tree h.ties.pa (by omega) h.waits.pa (by omega) (fun q hq => ⟨?_, (h.wants.ok q hq).unit h.tree⟩) (by omega) hs
  rcases h.wants.ok q hq with h | h
  · exact .inl h.1
  · exact .inr h.1
end L3
/-! L3zt: tuple(d), list(d) of a dict whose keys are tuples; d[k] = v of such -/
namespace L3
open PySem L2 PySem.Spec PyProof.Rows
open Sem (wp)
open PySem.W (KdlSrc kdl_extend kdl_call)
/-! all tuples of the heap are taken as data -/
/-! how many edges a knot's view has -/
theorem all_eq_len {α : Type} {xs : List α} (hn : xs.Nodup) (h : ∀ x ∈ xs, ∀ y ∈ xs, x = y) : xs.length ≤ 1 := by
  match xs, hn, h with
  | [], _, _ => exact Nat.zero_le _
  | [x], _, _ => exact Nat.le_refl _
  | x :: y :: r, hn, h =>
    rw [List.nodup_cons] at hn
    exact absurd (h x (by simp) y (by simp) ▸ (List.mem_cons_self : y ∈ y :: r)) hn.1
theorem WantsOk.one {ks : Knots} {us : List Str} (hB : TreeB ks us) {ws : Ties} (h : WantsOk ks ws) (k w : Str) : (wantUs ks k w ws).length ≤ 1 := by
  have hns := hB.names
  obtain ⟨_, _, T, _⟩ := hB
  have key : ∀ u ∈ wantUs ks k w ws, (w = "first" ∧ (kids ks k).head? = some u) ∨ (w = "last" ∧ (kids ks k).getLast? = some u) := fun u hu => by
    obtain ⟨q, hq, rfl⟩ := List.mem_map.mp hu
    obtain ⟨h1, h2⟩ := List.mem_filter.mp hq
    simp at h2
    have hs := (mem_kids hns).mp h2.2
    rcases h.ok q h1 with ⟨e, k', hk', hh⟩ | ⟨e, k', hk', hh, _⟩
    · have : k'.1 = k := T.one q.2 _ _ ⟨k'.2, hk', List.mem_of_mem_head? (by rw [hh]; rfl)⟩ hs
      subst this
      rw [kids_of hns (k := k'.1) (xs := k'.2) hk']
      exact .inl ⟨h2.1 ▸ e, hh⟩
    · have : k'.1 = k := T.one q.2 _ _ ⟨k'.2, hk', List.mem_of_getLast? hh⟩ hs
      subst this
      rw [kids_of hns (k := k'.1) (xs := k'.2) hk']
      exact .inr ⟨h2.1 ▸ e, hh⟩
  refine all_eq_len ?_ fun x hx y hy => ?_
  · unfold wantUs
    exact List.Sublist.nodup (List.Sublist.map _ List.filter_sublist) h.nd
  · rcases key x hx with ⟨a, b⟩ | ⟨a, b⟩
    · rcases key y hy with ⟨c, d⟩ | ⟨c, d⟩
      · rw [b] at d; exact Option.some.inj d
      · rw [a] at c; exact absurd c (by decide)
    · rcases key y hy with ⟨c, d⟩ | ⟨c, d⟩
      · rw [a] at c; exact absurd c (by decide)
      · rw [b] at d; exact Option.some.inj d
theorem edges_len {ks : Knots} {us : List Str} (hB : TreeB ks us) {ts ws : Ties} (h : WantsOk ks ws) (k : Str) : (edgesF ks ts ws k).length ≤ ts.length + 120 := by
  have h0 := onceL_len (edges0 ks ts ws k)
  have h1 : (tieE ks k ts).length ≤ ts.length := List.length_filterMap_le ..
  have h2 : ∀ w, (wantE ks k w ws).length ≤ 60 := fun w => by
    have := flatMap_len (f := fun u => wantRow w u (kids ks k)) (n := 60) (xs := wantUs ks k w ws) fun u _ => Nat.le_trans (wantRow_len ..) (hB.kidsLen k)
    have := h.one hB k w
    unfold wantE
    omega
  have := h2 "first"
  have := h2 "last"
  unfold edgesF
  unfold edges0 at h0 ⊢
  rw [List.length_append, List.length_append] at h0
  omega
/-! pairs as keys, each once -/
end L3
/-! L3zu: defs that call themselves; steps along a way; the search by rows -/
namespace L3
open PySem L2
/-! steps -/
abbrev Step3 := Str × Str × Str
def s3D (t : Step3) : PyData := .tuple [.str t.1, .str t.2.1, .str t.2.2]
def s3Py (ts : List Step3) : List PyData := ts.map s3D
theorem s3Py_len (ts : List Step3) : (s3Py ts).length = ts.length := List.length_map ..
def stepF (ks : Knots) (ts ws : Ties) (k x y : Str) : Step3 := match ts.find? fun e => decide (partF ks e.1 e.2 = some (k, x, y)) with
  | some e => ("tie", e.1, e.2)
  | none => if (("first" : Str), x) ∈ ws then ("first", x, y) else ("last", x, y)
theorem part_eqv (k x y k' x' y' : Str) : PyData.eqv (.tuple [.str k, .str x, .str y]) (.tuple [.str k', .str x', .str y']) = decide ((some (k, x, y) : Option Step3) = some (k', x', y')) := by
  simp only [PyData.eqv, PyData.eqvAll, Bool.and_true]
  by_cases h1 : k = k' <;> by_cases h2 : x = x' <;> by_cases h3 : y = y' <;> simp [h1, h2, h3]
/-! the search by rows: the first a of them are done -/
theorem wayFold_pre {P : List Str} : ∀ (os : List Str) (Q : Ways), ∃ t, os.foldl (wayAdd P) Q = Q ++ t
  | [], Q => ⟨[], by simp⟩
  | o :: os, Q => by
    rw [List.foldl_cons]
    obtain ⟨t, e⟩ := wayFold_pre os (wayAdd P Q o)
    rw [e]
    unfold wayAdd
    split
    · exact ⟨t, rfl⟩
    · exact ⟨[o :: P] ++ t, by simp⟩
theorem wayGo_pre (nx : Str → List Str) : ∀ (n : Nat) (Q : Ways) (a : Nat), ∃ t, wayGo nx n Q a = Q ++ t
  | 0, Q, a => ⟨[], by simp [wayGo]⟩
  | n + 1, Q, a => by
    unfold wayGo
    cases Q[a]? with
    | none => exact ⟨[], by simp⟩
    | some P =>
      simp only
      obtain ⟨t, e⟩ := wayGo_pre nx n ((nx (P.headD "")).foldl (wayAdd P) Q) (a + 1)
      obtain ⟨u, e2⟩ := wayFold_pre (P := P) (nx (P.headD "")) Q
      exact ⟨u ++ t, by rw [e, e2, List.append_assoc]⟩
/-- the rows Q, the first a of them done, on the way to all of them -/
def Rows (ts : List Str) (es : Ties) (one : Str) (Q : Ways) (a : Nat) : Prop := ∃ n, wayQ ts es one false = wayGo (nextsM ts es) n Q a ∧ ts.length + 1 < n + a
section
variable {ts : List Str} {es : Ties} {one : Str} {Q : Ways} {a : Nat}
theorem Rows.start (ts : List Str) (es : Ties) (one : Str) : Rows ts es one [[one]] 0 := ⟨ts.length + 2, rfl, by omega⟩
theorem Rows.pre (h : Rows ts es one Q a) : ∃ t, wayQ ts es one false = Q ++ t := by
  obtain ⟨n, e, _⟩ := h
  obtain ⟨t, e2⟩ := wayGo_pre (nextsM ts es) n Q a
  exact ⟨t, by rw [e, e2]⟩
theorem wayQ_len (hn : ts.Nodup) (es : Ties) (one : Str) : (wayQ ts es one false).length ≤ ts.length + 1 := by
  have := (wayQ_ok hn es one false).cameOk.len
  rwa [List.length_map] at this
theorem Rows.len (hn : ts.Nodup) (h : Rows ts es one Q a) : Q.length ≤ ts.length + 1 := by
  obtain ⟨t, e⟩ := h.pre
  have := wayQ_len hn es one
  rw [e, List.length_append] at this
  omega
theorem Rows.mem (h : Rows ts es one Q a) {p : List Str} (hp : p ∈ Q) : p ∈ wayQ ts es one false := by
  obtain ⟨t, e⟩ := h.pre
  rw [e]
  exact List.mem_append_left _ hp
theorem Rows.next (hn : ts.Nodup) (h : Rows ts es one Q a) {P : List Str} (hP : Q[a]? = some P) : Rows ts es one ((nextsM ts es (P.headD "")).foldl (wayAdd P) Q) (a + 1) := by
  have hl := h.len hn
  have ha := (List.getElem?_eq_some_iff.mp hP).1
  obtain ⟨n, e, hf⟩ := h
  cases n with
  | zero => omega
  | succ n =>
    refine ⟨n, ?_, by omega⟩
    rw [e]
    conv => lhs; unfold wayGo
    rw [hP]
theorem Rows.done (h : Rows ts es one Q a) (ha : Q.length ≤ a) : wayQ ts es one false = Q := by
  obtain ⟨n, e, hf⟩ := h
  rw [e]
  cases n with
  | zero => rfl
  | succ n =>
    unfold wayGo
    rw [List.getElem?_eq_none ha]
end
def headsL (Q : Ways) : List Str := Q.map fun p => p.headD ""
theorem hasW_heads (Q : Ways) (o : Str) : hasW Q o = decide (o ∈ headsL Q) := by
  unfold hasW headsL
  cases h : hasK (Q.map toC) o with
  | true =>
    have := hasK_iff.mp h
    rw [List.map_map] at this
    exact (decide_eq_true this).symm
  | false =>
    refine (decide_eq_false fun h2 => ?_).symm
    have : hasK (Q.map toC) o = true := hasK_iff.mpr (by rw [List.map_map]; exact h2)
    rw [h] at this
    cases this
theorem WaysOk.sub {ts : List Str} {es : Ties} {one : Str} {back : Bool} {Q : Ways} (h : WaysOk ts es one back Q) {p : List Str} (hp : p ∈ Q) : ∀ v ∈ p, v = one ∨ v ∈ ts := by
  obtain ⟨a, ok, _⟩ := h.ok
  have := ok.rw p hp
  clear hp
  induction this with
  | base => intro v hv; exact .inl (List.mem_singleton.mp hv)
  | @step a b p h1 h2 ih =>
    intro v hv
    rcases List.mem_cons.mp hv with rfl | hv
    · exact .inr (stepM_sub _ _ h2)
    · exact ih v hv
section
variable {K : PySem.W.Frag} {l : List O} {R : D → List O → Prop}
theorem o_inE {a b : Str} {es : Ties} {y : D} (h : IsQ l y (pPy es)) (ha : PyData.strOk a = true) (hb : PyData.strOk b = true) (he : ∀ e ∈ es, PyData.strOk e.1 = true ∧ PyData.strOk e.2 = true) (z : R (.f (.bool (decide ((a, b) ∈ es)))) l) : OpS K (rInU K false) (.f (.tuple [.str a, .str b])) y l R :=
  o_inP asd_f h (shape_pair ha hb) (lay_pPy he) (by rw [any_pPy]; exact z)
theorem o_ninE {a b : Str} {es : Ties} {y : D} (h : IsQ l y (pPy es)) (ha : PyData.strOk a = true) (hb : PyData.strOk b = true) (he : ∀ e ∈ es, PyData.strOk e.1 = true ∧ PyData.strOk e.2 = true) (z : R (.f (.bool (!decide ((a, b) ∈ es)))) l) : OpS K (rInU K true) (.f (.tuple [.str a, .str b])) y l R :=
  o_inP asd_f h (shape_pair ha hb) (lay_pPy he) (by rw [any_pPy]; exact z)
theorem o_ninS {x : Str} {y : D} {xs : List Str} (h : IsQ l y (sPy xs)) (z : R (.f (.bool (!decide (x ∈ xs)))) l) : OpS K (rInU K true) (.f (.str x)) y l R := o_inQS h z
end
theorem headsL_snoc (Q : Ways) (o : Str) (P : List Str) : headsL (Q ++ [o :: P]) = headsL Q ++ [o] := by
  unfold headsL
  rw [List.map_append]
  rfl
theorem headsL_len (Q : Ways) : (headsL Q).length = Q.length := List.length_map ..
theorem wayAdd_eq (P : List Str) (Q : Ways) (o : Str) : wayAdd P Q o = if o ∈ headsL Q then Q else Q ++ [o :: P] := by
  unfold wayAdd
  rw [hasW_heads]
  by_cases h : o ∈ headsL Q
  · rw [decide_eq_true h, if_pos rfl, if_pos h]
  · rw [decide_eq_false h, if_neg (by decide), if_neg h]
theorem Rows.ne {ts : List Str} {es : Ties} {one : Str} {Q : Ways} {a : Nat} (hn : ts.Nodup) (h : Rows ts es one Q a) {p : List Str} (hp : p ∈ Q) : ∃ c r, p = c :: r := (wayQ_ok hn es one false).ne (h.mem hp)
end L3
/-! L3zv: an own list in a slot becomes data; comprehensions over plain tuples; the search from a group -/
namespace L3
open PySem L2
section
variable {K : PySem.W.Frag} {l : List O} {ρ : List (Option D)} {R : D → List O → Prop} {te tl : TE} {tt : TT} {t : TS} {g : TG} {E : E3}
theorem e_lcP {vs : List Nat} (hg : GG g vs) (h : EvS K tl ρ l fun x l1 => ∃ ds, x = .f (plD ds) ∧ ∃ I : Nat → List PyData → List O → Prop, I 0 [] l1 ∧ (∀ i acc l', i ≤ ds.length → I i acc l' → acc.length ≤ 100000) ∧
      (∀ i d acc l', ds[i]? = some d → I i acc l' → AsS K g (.f d) (wipe3 ρ vs) l' fun ρ2 l2 => EvT K tt ρ2 l2 fun b l3 => if b = true then EvS K te ρ2 l3 fun d l4 => ∃ y, d = .f y ∧ I (i + 1) (acc ++ [y]) l4 else I (i + 1) acc l3) ∧
      ∀ acc l', I ds.length acc l' → R (.own l'.length) (l' ++ [.lst acc])) : EvS K (tLc (iSeq K tl) g tt te vs) ρ l R :=
  e_lc (good_of hg) (i_seqP (h.imp fun x l1 ⟨ds, hq, I, h0, hP, hs, hd⟩ => ⟨ds, hq, I, h0, fun i acc l' hi z => ⟨trivial, hP i acc l' hi z⟩, fun i acc l' hi z => by
    have e : ds[i]? = some (ds.getD i .none) := by rw [List.getD_eq_getElem?_getD]; simp [hi]
    exact hs i _ acc l' e z, hd⟩))
/-- a pure comprehension over a plain tuple -/
theorem e_lcPF {vs : List Nat} (F : PyData → Option PyData) (hg : GG g vs) (h : EvS K tl ρ l fun x l1 => ∃ ds, x = .f (plD ds) ∧ ds.length ≤ 100000 ∧
      (∀ d, d ∈ ds → AsS K g (.f d) (wipe3 ρ vs) l1 fun ρ2 l2 => EvT K tt ρ2 l2 fun b l3 => if b = true then EvS K te ρ2 l3 fun z l4 => ∃ y, z = .f y ∧ F d = some y ∧ l4 = l1 else F d = none ∧ l3 = l1) ∧
      R (.own l1.length) (l1 ++ [.lst (ds.filterMap F)])) : EvS K (tLc (iSeq K tl) g tt te vs) ρ l R := by
  refine e_lcP hg (h.imp fun x l1 ⟨ds, hq, hl, hs, hd⟩ => ⟨ds, hq, fun i acc l' => l' = l1 ∧ acc = (ds.take i).filterMap F, ⟨rfl, by simp⟩, ?_, ?_, ?_⟩)
  · rintro i acc l' hi ⟨rfl, rfl⟩
    refine Nat.le_trans (List.length_filterMap_le _ _) ?_
    rw [List.length_take]; omega
  · rintro i d acc l' hdi ⟨rfl, rfl⟩
    refine (hs d (List.mem_of_getElem? hdi)).imp fun ρ2 l2 h2 => h2.imp fun b l3 z => ?_
    cases b with
    | true =>
      rw [if_pos rfl] at z ⊢
      refine z.imp fun w l4 ⟨y, e1, e2, e3⟩ => ⟨y, e1, e3, ?_⟩
      rw [take_next hdi, List.filterMap_append, List.filterMap_cons, e2]
      rfl
    | false =>
      rw [if_neg (by decide)] at z ⊢
      refine ⟨z.2, ?_⟩
      rw [take_next hdi, List.filterMap_append, List.filterMap_cons, z.1]
      simp
  · rintro acc l' ⟨rfl, rfl⟩
    rw [List.take_length]
    exact hd
end
/-! the search from a group of starts -/
def grpRow (M : List Str) (P : List Str) : List Str → Ways → Ways × Option (List Str)
  | [], Q => (Q, none)
  | o :: os, Q => if o ∈ M ∧ 2 ≤ P.length then (Q, some (o :: P)) else grpRow M P os (wayAdd P Q o)
def grpGo (nx : Str → List Str) (M : List Str) : Nat → Ways → Nat → Option (List Str)
  | 0, _, _ => none
  | n + 1, Q, a => match Q[a]? with
    | none => none
    | some P => match (grpRow M P (nx (P.headD "")) Q).2 with
      | some w => some w
      | none => grpGo nx M n (grpRow M P (nx (P.headD "")) Q).1 (a + 1)
def grpStart (ts M : List Str) : Ways := (ts.filter fun x => decide (x ∈ M)).map fun x => [x]
def grpQ (ts : List Str) (es : Ties) (M : List Str) : Option (List Str) := grpGo (nextsM ts es) M (ts.length + 1) (grpStart ts M) 0
structure GQ (ts M : List Str) (Q : Ways) : Prop where
  nd : (headsL Q).Nodup
  sub : ∀ x ∈ headsL Q, x ∈ ts
  all : ∀ x ∈ ts, x ∈ M → x ∈ headsL Q
  row : ∀ (i : Nat) p, Q[i]? = some p → (∃ x, p = [x] ∧ x ∈ M) ∨ ∃ x q j, p = x :: q ∧ j < i ∧ Q[j]? = some q ∧ x ∉ M
section
variable {ts M : List Str} {Q : Ways} {es : Ties}
theorem GQ.len (h : GQ ts M Q) : Q.length ≤ ts.length := by
  have := nodup_le h.nd h.sub
  rwa [headsL_len] at this
theorem GQ.ne (h : GQ ts M Q) {i : Nat} {p : List Str} (hp : Q[i]? = some p) : ∃ x q, p = x :: q := by
  rcases h.row i p hp with ⟨x, e, _⟩ | ⟨x, q, _, e, _⟩
  · exact ⟨x, [], e⟩
  · exact ⟨x, q, e⟩
theorem GQ.mem (h : GQ ts M Q) : ∀ (i : Nat) p, Q[i]? = some p → ∀ v ∈ p, v ∈ ts
  | i, p, hp => by
    have hh : p.headD "" ∈ ts := h.sub _ (List.mem_map.mpr ⟨p, List.mem_of_getElem? hp, rfl⟩)
    rcases h.row i p hp with ⟨x, rfl, hx⟩ | ⟨x, q, j, rfl, hj, hq, hx⟩
    · intro v hv
      cases List.mem_singleton.mp hv
      exact hh
    · intro v hv
      rcases List.mem_cons.mp hv with rfl | hv
      · exact hh
      · exact GQ.mem h j q hq v hv
termination_by i => i
theorem headsL_at {Q : Ways} {i : Nat} {p : List Str} (h : Q[i]? = some p) : (headsL Q)[i]? = some (p.headD "") := by
  unfold headsL; rw [List.getElem?_map, h]; rfl
theorem GQ.uniq (h : GQ ts M Q) {i j : Nat} {p q : List Str} (hp : Q[i]? = some p) (hq : Q[j]? = some q) (e : p.headD "" = q.headD "") : p = q := by
  have h1 := headsL_at hp
  have h2 := headsL_at hq
  have hi : i < (headsL Q).length := (List.getElem?_eq_some_iff.mp h1).1
  have : i = j := (List.getElem?_inj hi h.nd).mp (by rw [h1, h2, e])
  subst this
  rw [hp] at hq
  exact Option.some.inj hq
theorem GQ.start (hn : ts.Nodup) : GQ ts M (grpStart ts M) where
  nd := by
    have : headsL (grpStart ts M) = ts.filter fun x => decide (x ∈ M) := by
      unfold headsL grpStart
      rw [List.map_map]
      exact List.map_id _
    rw [this]
    exact hn.filter _
  sub := fun x hx => by
    unfold headsL grpStart at hx
    rw [List.map_map] at hx
    obtain ⟨y, hy, rfl⟩ := List.mem_map.mp hx
    exact (List.mem_filter.mp hy).1
  all := fun x h1 h2 => by
    unfold headsL grpStart
    rw [List.map_map]
    exact List.mem_map.mpr ⟨x, List.mem_filter.mpr ⟨h1, decide_eq_true h2⟩, rfl⟩
  row := fun i p hp => by
    have := List.mem_of_getElem? hp
    obtain ⟨y, hy, rfl⟩ := List.mem_map.mp this
    exact .inl ⟨y, rfl, of_decide_eq_true (List.mem_filter.mp hy).2⟩
theorem GQ.add (h : GQ ts M Q) {a : Nat} {P : List Str} (hP : Q[a]? = some P) {o : Str} (ho : o ∈ ts) (hno : ¬ (o ∈ M ∧ 2 ≤ P.length)) : GQ ts M (wayAdd P Q o) ∧ (wayAdd P Q o)[a]? = some P := by
  rw [wayAdd_eq]
  by_cases hm : o ∈ headsL Q
  · rw [if_pos hm]; exact ⟨h, hP⟩
  · rw [if_neg hm]
    have hal := (List.getElem?_eq_some_iff.mp hP).1
    refine ⟨⟨?_, ?_, ?_, ?_⟩, by rw [List.getElem?_append_left hal]; exact hP⟩
    · rw [headsL_snoc, List.nodup_append]
      exact ⟨h.nd, by simp, fun x hx y hy => by cases List.mem_singleton.mp hy; exact fun e => hm (e ▸ hx)⟩
    · intro x hx
      rw [headsL_snoc] at hx
      rcases List.mem_append.mp hx with q | q
      · exact h.sub x q
      · cases List.mem_singleton.mp q; exact ho
    · intro x h1 h2
      rw [headsL_snoc]
      exact List.mem_append_left _ (h.all x h1 h2)
    · intro i p hp
      by_cases hi : i < Q.length
      · rw [List.getElem?_append_left hi] at hp
        rcases h.row i p hp with ⟨x, e, hx⟩ | ⟨x, q, j, e, hj, hq, hx⟩
        · exact .inl ⟨x, e, hx⟩
        · exact .inr ⟨x, q, j, e, hj, by rw [List.getElem?_append_left (by omega)]; exact hq, hx⟩
      · rw [List.getElem?_append_right (by omega)] at hp
        have e0 : i - Q.length = 0 := by
          have := (List.getElem?_eq_some_iff.mp hp).1
          simp at this
          omega
        rw [e0] at hp
        cases hp
        refine .inr ⟨o, P, a, rfl, by omega, by rw [List.getElem?_append_left hal]; exact hP, fun hM => hm (h.all o ho hM)⟩
end
/-- the search midway: a rows are done -/
def GAt (ts : List Str) (es : Ties) (M : List Str) (Q : Ways) (a : Nat) : Prop := GQ ts M Q ∧ ∃ n, grpQ ts es M = grpGo (nextsM ts es) M n Q a ∧ ts.length < n + a
/-- within row a: the things left to go -/
def GMid (ts : List Str) (es : Ties) (M : List Str) (Q : Ways) (a : Nat) (P os : List Str) : Prop := GQ ts M Q ∧ Q[a]? = some P ∧ (∀ o ∈ os, o ∈ ts) ∧ ∃ n, (grpQ ts es M = match (grpRow M P os Q).2 with
      | some w => some w
      | none => grpGo (nextsM ts es) M n (grpRow M P os Q).1 (a + 1)) ∧ ts.length < n + (a + 1)
section
variable {ts M : List Str} {Q : Ways} {es : Ties} {a : Nat} {P os : List Str} {o : Str}
theorem GAt.start (hn : ts.Nodup) : GAt ts es M (grpStart ts M) 0 := ⟨GQ.start hn, _, rfl, by omega⟩
theorem GAt.mid (h : GAt ts es M Q a) (hP : Q[a]? = some P) : GMid ts es M Q a P (nextsM ts es (P.headD "")) := by
  obtain ⟨hq, n, e, hl⟩ := h
  have := hq.len
  have := (List.getElem?_eq_some_iff.mp hP).1
  cases n with
  | zero => omega
  | succ n =>
    refine ⟨hq, hP, fun o ho => (mem_nextsM.mp ho).1, n, ?_, by omega⟩
    rw [e]
    conv => lhs; unfold grpGo
    rw [hP]
theorem GMid.step (h : GMid ts es M Q a P (o :: os)) (hf : ¬ (o ∈ M ∧ 2 ≤ P.length)) : GMid ts es M (wayAdd P Q o) a P os := by
  obtain ⟨hq, hP, hos, n, e, hl⟩ := h
  obtain ⟨h1, h2⟩ := hq.add hP (hos o List.mem_cons_self) hf
  refine ⟨h1, h2, fun x hx => hos x (List.mem_cons_of_mem _ hx), n, ?_, hl⟩
  rw [e]
  conv => lhs; unfold grpRow
  rw [if_neg hf]
theorem GMid.done (h : GMid ts es M Q a P []) : GAt ts es M Q (a + 1) := by
  obtain ⟨hq, hP, hos, n, e, hl⟩ := h
  exact ⟨hq, n, e, hl⟩
theorem GAt.none (h : GAt ts es M Q a) (ha : Q.length ≤ a) : grpQ ts es M = none := by
  obtain ⟨hq, n, e, hl⟩ := h
  rw [e]
  cases n with
  | zero => rfl
  | succ n =>
    unfold grpGo
    rw [List.getElem?_eq_none ha]
end
end L3
/-! L3zw: extend by a tuple; what stands within what -/
namespace L3
open PySem L2 PySem.Spec PyProof.Rows
/-! what stands within what -/
def Fits (ks : Knots) : Nat → Str → Prop
  | 0, _ => False
  | n + 1, u => ∀ c ∈ kids ks u, Fits ks n c
def leafF (ks : Knots) : Nat → Str → List Str
  | 0, u => [u]
  | n + 1, u => if u ∈ ks.map (·.1) then (kids ks u).flatMap (leafF ks n) else [u]
theorem kids_none {ks : Knots} {u : Str} (h : ¬ u ∈ ks.map (·.1)) : kids ks u = [] := by
  unfold kids
  rw [List.find?_eq_none.mpr fun p hp => by
    intro q
    exact h (List.mem_map.mpr ⟨p, hp, of_decide_eq_true q⟩)]
  rfl
theorem flatMap_eq {α β : Type} {f g : α → List β} : ∀ {xs : List α}, (∀ x ∈ xs, f x = g x) → xs.flatMap f = xs.flatMap g
  | [], _ => rfl
  | x :: xs, h => by
    rw [List.flatMap_cons, List.flatMap_cons, h x List.mem_cons_self, flatMap_eq fun y hy => h y (List.mem_cons_of_mem _ hy)]
section
variable {ks : Knots} {us : List Str} {deep : Int} {r : Str → Int}
theorem Tree.fits (T : Tree ks us deep r) : ∀ (n : Nat) (u : Str), 1 ≤ n → (u ∈ ks.map (·.1) → deep - r u + 2 ≤ n) → Fits ks n u
  | 0, _, h, _ => by omega
  | n + 1, u, _, h => by
    intro c hc
    by_cases hu : u ∈ ks.map (·.1)
    · have hs := (mem_kids T.names).mp hc
      have h1 := h hu
      obtain ⟨k, hk, e⟩ := List.mem_map.mp hu
      have h2 := T.rng k hk
      rw [e] at h2
      refine Tree.fits T n c (by omega) fun hcn => ?_
      have := T.lev c u hs hcn
      omega
    · rw [kids_none hu] at hc; cases hc
theorem Fits.succ : ∀ {n : Nat} {u : Str}, Fits ks n u → Fits ks (n + 1) u
  | 0, _, h => h.elim
  | _ + 1, _, h => fun c hc => (h c hc).succ
theorem Fits.kid {n : Nat} {u c : Str} (h : Fits ks n u) (hc : c ∈ kids ks u) : Fits ks n c := by
  cases n with
  | zero => exact h.elim
  | succ n => exact (h c hc).succ
theorem leaf_succ : ∀ {n : Nat} {u : Str}, Fits ks n u → leafF ks (n + 1) u = leafF ks n u
  | 0, _, h => h.elim
  | n + 1, u, h => by
    show (if u ∈ ks.map (·.1) then (kids ks u).flatMap (leafF ks (n + 1)) else [u]) = if u ∈ ks.map (·.1) then (kids ks u).flatMap (leafF ks n) else [u]
    rw [flatMap_eq fun c hc => leaf_succ (h c hc)]
theorem leaf_knot {n : Nat} {u : Str} (h : Fits ks n u) (hu : u ∈ ks.map (·.1)) : leafF ks n u = (kids ks u).flatMap (leafF ks n) := by
  cases n with
  | zero => exact h.elim
  | succ n =>
    show (if u ∈ ks.map (·.1) then (kids ks u).flatMap (leafF ks n) else [u]) = _
    rw [if_pos hu]
    exact flatMap_eq fun c hc => (leaf_succ (h c hc)).symm
/-- one is under another: it, or within it -/
inductive Under (ks : Knots) (a : Str) : Str → Prop
  | refl : Under ks a a
  | step {v c : Str} : Under ks a v → Stands ks c v → Under ks a c
theorem Under.trans {a b c : Str} (h1 : Under ks a b) (h2 : Under ks b c) : Under ks a c := by
  induction h2 with
  | refl => exact h1
  | step _ h ih => exact .step ih h
theorem Under.rank (T : Tree ks us deep r) {a b : Str} (h : Under ks a b) : a = b ∨ (a ∈ ks.map (·.1) ∧ (b ∈ ks.map (·.1) → r a < r b)) := by
  have kn : ∀ {v c : Str}, Stands ks c v → v ∈ ks.map (·.1) := fun ⟨xs, h1, _⟩ => List.mem_map_of_mem (f := (·.1)) h1
  induction h with
  | refl => exact .inl rfl
  | @step v c h1 h2 ih =>
    right
    rcases ih with rfl | ⟨h3, h4⟩
    · exact ⟨kn h2, fun hc => T.lev _ _ h2 hc⟩
    · refine ⟨h3, fun hc => ?_⟩
      have := T.lev _ _ h2 hc
      have := h4 (kn h2)
      omega
theorem Under.linear (T : Tree ks us deep r) {a b v : Str} (h1 : Under ks a v) (h2 : Under ks b v) : Under ks a b ∨ Under ks b a := by
  induction h1 with
  | refl => exact .inr h2
  | @step w c g1 g2 ih =>
    cases h2 with
    | refl => exact .inl (.step g1 g2)
    | @step w' _ k1 k2 =>
      cases T.one _ _ _ g2 k2
      exact ih k1
theorem Under.same (T : Tree ks us deep r) {k a b v : Str} (ha : Stands ks a k) (hb : Stands ks b k) (h1 : Under ks a v) (h2 : Under ks b v) : a = b := by
  have kn : ∀ {v c : Str}, Stands ks c v → v ∈ ks.map (·.1) := fun ⟨xs, h1, _⟩ => List.mem_map_of_mem (f := (·.1)) h1
  have key : ∀ {a b : Str}, Stands ks a k → Stands ks b k → Under ks a b → a = b := fun {a b} ha hb h => by
    cases h with
    | refl => rfl
    | @step w _ g1 g2 =>
      cases T.one _ _ _ g2 hb
      rcases g1.rank T with rfl | ⟨h3, h4⟩
      · have := T.lev _ _ ha (kn ha)
        omega
      · have := T.lev _ _ ha h3
        have := h4 (kn ha)
        omega
  rcases h1.linear T h2 with h | h
  · exact key ha hb h
  · exact (key hb ha h).symm
theorem Under.unit (T : Tree ks us deep r) {a v : Str} (h : Under ks a v) : v = a ∨ v ∈ us := by
  cases h with
  | refl => exact .inl rfl
  | step _ h => exact .inr ((T.all _).mpr ⟨_, h⟩)
theorem Under.fits {n : Nat} {a v : Str} (hn : (ks.map (·.1)).Nodup) (h : Under ks a v) (hf : Fits ks n a) : Fits ks n v := by
  induction h with
  | refl => exact hf
  | step _ h ih => exact ih.kid ((mem_kids hn).mpr h)
/-- what is under another stands there in one stretch -/
theorem Under.part {n : Nat} {a v : Str} (hn : (ks.map (·.1)).Nodup) (h : Under ks a v) (hf : Fits ks n a) : ∃ A B, leafF ks n a = A ++ leafF ks n v ++ B := by
  induction h with
  | refl => exact ⟨[], [], by simp⟩
  | @step w c h1 h2 ih =>
    obtain ⟨A, B, e⟩ := ih
    have hw := h1.fits hn hf
    have hwn : w ∈ ks.map (·.1) := by obtain ⟨xs, q, _⟩ := h2; exact List.mem_map_of_mem (f := (·.1)) q
    obtain ⟨K1, K2, ek⟩ := List.append_of_mem ((mem_kids hn).mpr h2)
    rw [leaf_knot hw hwn, ek, List.flatMap_append, List.flatMap_cons] at e
    exact ⟨A ++ K1.flatMap (leafF ks n), K2.flatMap (leafF ks n) ++ B, by rw [e]; simp only [List.append_assoc]⟩
theorem Up.under {u : Str} {p : List Str} (h : Up ks u p) : ∀ x ∈ p, Under ks x u := by
  induction h with
  | top => intro x hx; cases List.mem_singleton.mp hx; exact .refl
  | step h1 h2 h3 ih =>
    intro x hx
    rcases List.mem_append.mp hx with q | q
    · exact .step (ih x q) h2
    · cases List.mem_singleton.mp q; exact .refl
end
/-! places of a stretch -/
end L3
/-! L3zx: repr of data in which small dicts stand -/
namespace L3
open PySem L2 PySem.Spec PyProof.Rows
mutual
inductive Dq (K : PySem.W.Frag) (H : Hp) : V → PyData → Prop
  | fl {v : V} {d : PyData} : FlR v d → Dq K H v d
  | lst {a : Addr} {vs : List V} {ds : List PyData} : SqL K H a vs → Dqs K H vs ds → Dq K H (.ref a) (.list ds)
  | tup {a : Addr} {vs : List V} {ds : List PyData} : SqT K H a vs → Dqs K H vs ds → Dq K H (.ref a) (.tuple ds)
  | dk0 {a : Addr} : H a = some (.dK []) → Dq K H (.ref a) (.dict [])
  | dk1 {a : Addr} {x : Str} {v : V} {d : PyData} : H a = some (.dK [(.inr x, v)]) → FlR v d → Dq K H (.ref a) (.dict [(.str x, d)])
  | dki {a : Addr} {x : Int} {v : V} {d : PyData} : H a = some (.dK [(.inl x, v)]) → FlR v d → Dq K H (.ref a) (.dict [(.int x, d)])
inductive Dqs (K : PySem.W.Frag) (H : Hp) : List V → List PyData → Prop
  | nil : Dqs K H [] []
  | cons {v : V} {vs : List V} {d : PyData} {ds : List PyData} : Dq K H v d → Dqs K H vs ds → Dqs K H (v :: vs) (d :: ds)
end
section
variable {X : Cx} {pins : List (Addr × Obj)} {σ : L2.St} {H : Hp} {s : Shared}
theorem flat_reads {v : V} {u : Value} {d : PyData} (h : FlR v d) (r : RelV v u) : Reads s.heap u d [] := by
  cases h with
  | non => cases (show u = Value.none from r); exact .none
  | bl b => cases (show u = Value.bool b from r); exact .bool b
  | int i => obtain ⟨t, rfl⟩ := r; exact .int i t
  | str x => obtain ⟨t, rfl⟩ := r; exact .str x t
/-- a dict of no or one text key, as it lies in the heap -/
theorem dk0_at (I : Inv X pins σ H s) {a : Addr} (h : H a = some (.dK [])) : (a == sysModules) = false ∧ ∃ o es n, s.heap.get? a = some o ∧ o.cls = .type "dict" ∧ o.data = .dict es n ∧ es.toList = [] := by
  obtain ⟨_, h1, vs, r, o, es, n, h2, h3, h4, _, h6, _⟩ := dk_of I.hok h
  cases r
  cases hes : es.toList with
  | nil => exact ⟨h1, o, es, n, h2, h3.1, h4, hes⟩
  | cons a b => rw [hes] at h6; cases h6
theorem dk1_at (I : Inv X pins σ H s) {a : Addr} {x : Str} {v : V} (h : H a = some (.dK [(.inr x, v)])) : (a == sysModules) = false ∧ ∃ o es n e t, s.heap.get? a = some o ∧ o.cls = .type "dict" ∧ o.data = .dict es n ∧ es.toList = [e] ∧ e.key = .str x t ∧ RelV v e.val := by
  obtain ⟨_, h1, vs, r, o, es, n, h2, h3, h4, _, h6, _⟩ := dk_of I.hok h
  cases r with
  | @cons p0 q p1 q1 r1 r2 =>
    cases r2
    cases hes : es.toList with
    | nil => rw [hes] at h6; cases h6
    | cons e b =>
      rw [hes] at h6
      cases h6 with
      | cons k1 k2 k3 =>
        cases k3
        have ek : q.1 = .inr x := r1.1.symm
        rw [ek] at k1
        rcases keyIs_shape (show keyIs (.inr x) e.key = true from k1) with ⟨i, t, e2, _⟩ | ⟨y, t, e2, e1⟩
        · cases e2
        · cases e2
          exact ⟨h1, o, es, n, e, t, h2, h3.1, h4, hes, e1, by rw [k2]; exact r1.2⟩
theorem dki_at (I : Inv X pins σ H s) {a : Addr} {x : Int} {v : V} (h : H a = some (.dK [(.inl x, v)])) : (a == sysModules) = false ∧ ∃ o es n e t, s.heap.get? a = some o ∧ o.cls = .type "dict" ∧ o.data = .dict es n ∧ es.toList = [e] ∧ e.key = .int x t ∧ RelV v e.val := by
  obtain ⟨_, h1, vs, r, o, es, n, h2, h3, h4, _, h6, _⟩ := dk_of I.hok h
  cases r with
  | @cons p0 q p1 q1 r1 r2 =>
    cases r2
    cases hes : es.toList with
    | nil => rw [hes] at h6; cases h6
    | cons e b =>
      rw [hes] at h6
      cases h6 with
      | cons k1 k2 k3 =>
        cases k3
        have ek : q.1 = .inl x := r1.1.symm
        rw [ek] at k1
        rcases keyIs_shape (show keyIs (.inl x) e.key = true from k1) with ⟨i, t, e2, e1⟩ | ⟨y, t, e2, _⟩
        · cases e2
          exact ⟨h1, o, es, n, e, t, h2, h3.1, h4, hes, e1, by rw [k2]; exact r1.2⟩
        · cases e2
mutual
theorem Dq.reads (I : Inv X pins σ H s) : ∀ (d : PyData) (v : V) (u : Value), Dq X.K H v d → RelV v u → ∃ bs, Reads s.heap u d bs
  | d, _, u, h, r => by
    cases h with
    | fl h => exact ⟨_, flat_reads h r⟩
    | lst h1 h2 =>
      cases (show u = _ from r)
      obtain ⟨ys, ry, ⟨ob, k, g1, g2, _, g3⟩, _⟩ := I.list h1
      obtain ⟨bs, q⟩ := Dqs.reads I _ _ ys h2 ry
      exact ⟨_, .list g1 g2 g3 q⟩
    | tup h1 h2 =>
      cases (show u = _ from r)
      obtain ⟨ys, ry, ⟨ob, g1, g2, k, g3⟩, _⟩ := I.tuple h1
      obtain ⟨bs, q⟩ := Dqs.reads I _ _ ys h2 ry
      exact ⟨_, .tuple g1 g2 g3 q⟩
    | dk0 h1 =>
      cases (show u = _ from r)
      obtain ⟨_, ob, es, k, g1, g2, g3, g4⟩ := dk0_at I h1
      exact ⟨_, .dict (kvs := []) g1 g2 g3 (by rw [g4]; exact .nil) (by rw [g4]; exact .nil)⟩
    | @dk1 a x v d h1 h2 =>
      cases (show u = _ from r)
      obtain ⟨_, ob, es, k, e, t, g1, g2, g3, g4, g5, g6⟩ := dk1_at I h1
      exact ⟨_, .dict (kvs := [(.str x, d)]) g1 g2 g3 (by rw [g4]; show ReadsAll _ [e.key] _ _; rw [g5]; exact .cons (.str x t) .nil) (by rw [g4]; exact .cons (flat_reads h2 g6) .nil)⟩
    | @dki a x v d h1 h2 =>
      cases (show u = _ from r)
      obtain ⟨_, ob, es, k, e, t, g1, g2, g3, g4, g5, g6⟩ := dki_at I h1
      exact ⟨_, .dict (kvs := [(.int x, d)]) g1 g2 g3 (by rw [g4]; show ReadsAll _ [e.key] _ _; rw [g5]; exact .cons (.int x t) .nil) (by rw [g4]; exact .cons (flat_reads h2 g6) .nil)⟩
termination_by d => sizeOf d
theorem Dqs.reads (I : Inv X pins σ H s) : ∀ (ds : List PyData) (vs : List V) (us : List Value), Dqs X.K H vs ds → Vals vs us → ∃ bs, ReadsAll s.heap us ds bs
  | [], _, _, h, r => by cases h; cases r; exact ⟨_, .nil⟩
  | d :: ds, _, _, h, r => by
    cases h with
    | cons h1 h2 =>
      cases r with
      | cons r1 r2 =>
        obtain ⟨bs, q1⟩ := Dq.reads I d _ _ h1 r1
        obtain ⟨cs, q2⟩ := Dqs.reads I ds _ _ h2 r2
        exact ⟨_, .cons q1 q2⟩
termination_by ds => sizeOf ds
end
end
/-! sizes -/
def briefF (d : PyData) : Bool := match d with | .none | .bool _ | .int _ | .str _ => brief d | _ => false
def keyOkQ : PyData → Bool
  | .str x => PyData.strOk x
  | .int i => brief (.int i)
  | _ => false
def briefK : List (PyData × PyData) → Bool
  | [] => true
  | p :: r => match r with
    | [] => keyOkQ p.1 && briefF p.2
    | _ :: _ => false
def wtK : List (PyData × PyData) → Nat
  | [] => 2
  | p :: _ => (match p.1 with | .str x => 10 * x.length + 8 | .int i => wt (.int i) + 8 | _ => 0) + wt p.2
mutual
def briefQ : PyData → Bool
  | .list xs | .tuple xs => briefQs xs
  | .dict kvs => briefK kvs
  | .none => true
  | .bool _ => true
  | .int i => brief (.int i)
  | .str x => brief (.str x)
def briefQs : List PyData → Bool
  | [] => true
  | x :: xs => briefQ x && briefQs xs
end
mutual
def wtQ : PyData → Nat
  | .list xs | .tuple xs => 3 + wtQs xs
  | .dict kvs => wtK kvs
  | .none => 5
  | .bool _ => 5
  | .int i => wt (.int i)
  | .str x => wt (.str x)
def wtQs : List PyData → Nat
  | [] => 0
  | x :: xs => wtQ x + 2 + wtQs xs
end
end L3
/-! L3zy: texts walked sign by sign, chained comparisons, a dict display as data -/
namespace L3
open PySem L2
end L3
/-! L3zz: how many unlike texts a list has: len(set(xs)) -/
namespace L3
open PySem L2 PySem.Spec PyProof.Rows
theorem once_take {xs : List Str} {i : Nat} {x : Str} (h : xs[i]? = some x) : onceL (xs.take (i + 1)) = addOnce (onceL (xs.take i)) x := by
  rw [take_snoc h, onceL_snoc]
section
variable {prog : Program} {w : World} {A : Around} {R : Result → Shared → Prop} {it : Addr} {fp wr : List Addr} {G : Array GenState → Array GenState → Prop} {n : Nat} {P : Nat → Value → Prop} {St : Nat → Shared → Prop}
/-- a set of texts so far: of the first i -/
def Seen (prog : Program) (w : World) (h : Heap) (a : Addr) (xs : List Str) (i : Nat) : Prop := h.SetOf (strKind prog w) a (fun y => decide (y ∈ xs.take i)) (onceL (xs.take i)).length
theorem Seen.at_ {h h' : Heap} {a : Addr} {xs : List Str} {i : Nat} (q : Seen prog w h a xs i) (k : ∀ o, h.get? a = some o → h'.get? a = some o) : Seen prog w h' a xs i :=
  let ⟨o, es, ep, t, e, r⟩ := q; ⟨o, es, ep, t, k o e, r⟩
theorem loop_txt (W : WalksS prog w A.in1 it fp wr G n P St) (a : Addr) (off : a ∉ fp) (xs : List Str) (hn : xs.length = n) (hb : n + 1 < scanBound) (hval : ∀ i v, P i v → ∃ t, v = .str (xs.getD i Str.empty) t) :
    ∀ (k i : Nat) (s : Shared), n - i = k → i ≤ n → St i s → Seen prog w s.heap a xs i → (∀ s', Moved (a :: wr) G s s' → Seen prog w s'.heap a xs n → R (.ok (.ret .none)) s') →
      codeAny (model prog w) A (.builtin "set.update.loop" ⟨[.ref a, .ref it], []⟩) R s := by
  have offw : a ∉ wr := fun h => off (W.sub _ h)
  have more : ∀ b ∈ wr, b ∈ a :: wr := fun _ h => List.mem_cons.mpr (.inr h)
  intro k
  induction k with
  | zero =>
    intro i s e1 e2 st sn fin
    obtain rfl : i = n := by omega
    refine codeAny_builtin F.entry_set_update_loop ?_
    rw [Around.under_plainId F.plain_set_update_loop]
    show wpAny _ A.in1 (pyNext (.ref it) >>= _) _ _ _
    refine wpAny_bind (W.done s _ _ st fun s1 mv => ?_)
    show wpAny _ _ (ret Value.none) _ _ s1
    exact wpAny_pure (fin s1 (mv.mono more) (sn.at_ fun o q => mv.heap a o offw q))
  | succ k ih =>
    intro i s e1 e2 st sn fin
    have lt : i < n := by omega
    have hx : xs[i]? = some (xs.getD i Str.empty) := by rw [List.getD_eq_getElem?_getD, List.getElem?_eq_getElem (by omega)]; rfl
    refine codeAny_builtin F.entry_set_update_loop ?_
    rw [Around.under_plainId F.plain_set_update_loop]
    show wpAny _ A.in1 (pyNext (.ref it) >>= _) _ _ _
    refine wpAny_bind (W.item i s _ _ lt st fun v s1 hv st1 mv => ?_)
    obtain ⟨t, rfl⟩ := hval i v hv
    have sn1 := sn.at_ fun o q => mv.heap a o offw q
    generalize xs.getD i Str.empty = x at hx
    have few : (onceL (xs.take i)).length ≤ i := Nat.le_trans (onceL_len _) (by rw [List.length_take]; omega)
    show wpAny _ A.in1 (holding [Value.str x t] (setAdd a (.str x t)) >>= _) _ _ s1
    refine wpAny_bind (wpAny_holding ?_)
    unfold setAdd
    refine wpAny_holding (wpAny_bind ((strKind prog w).pyHash (k := x) (strKind_is _ _ _ _) ?_))
    refine wpAny_setAddHashed_of (s := { s1 with toks := s1.toks + 1 }) (strKind_is prog w x t) rfl sn1 (by omega) fun h2 sb s2 => ?_
    have sn2 : Seen prog w h2 a xs (i + 1) := by
      refine SetOf_congr s2 (fun y => ?_) ?_
      · show (decide (y ∈ xs.take i) || decide (y = x)) = decide (y ∈ xs.take (i + 1))
        rw [take_snoc hx, ← Bool.decide_or]
        exact decide_eq_decide.mpr (by simp)
      · rw [once_take hx]
        unfold addOnce
        by_cases hm : x ∈ xs.take i
        · rw [if_pos (decide_eq_true hm), if_pos (mem_onceL.mpr hm)]
        · rw [if_neg (by rw [decide_eq_false hm]; decide), if_neg fun q => hm (mem_onceL.mp q), List.length_append]
          rfl
    refine wpAny_pure ⟨plainId_quiet F.plain_set_update_loop _, ih (i + 1) _ (by omega) lt (W.frame _ s1 _ _ st1 (Nat.le_succ _) fun b hm o q => ?_) sn2 fun s3 mv3 sn3 => ?_⟩
    · rw [sb.2 b fun z => off (z ▸ hm)]
      exact q
    · refine fin s3 (Moved.trans W.gtrans ((mv.mono more).then_heap (Nat.le_succ _) fun b o hm q => ?_) mv3) sn3
      rw [sb.2 b fun z => hm (z ▸ List.mem_cons_self)]
      exact q
end
section
variable {prog : Program} {w : World} {A : Around} {E : Value → Shared → Prop} {s : Shared}
def freshSet (led : Bool) : Obj := { cls := .type "set", dict := none, data := .set #[] 0 (.fresh 0 0 led) }
set_option maxHeartbeats 3200000 in
theorem set_of_list {l : Addr} {items : Array Value} {xs : List Str} {Q : Value → Shared → Prop} (calm : A.handled = none) (hl : s.heap.IsList l items) (hi : StrsAre items.toList xs) (hb : xs.length + 1 < scanBound)
    (fin : ∀ (h' : Heap) (tk : Nat), Seen prog w h' s.heap.objs.size xs xs.length → (∀ b o, b < s.heap.objs.size → s.heap.get? b = some o → h'.get? b = some o) → Q (.ref s.heap.objs.size) { s with heap := h', toks := tk }) :
    wpAny (model prog w) A (call (.type "set") [.ref l]) Q E s := by
  obtain ⟨mc, mt, hmro⟩ := PySem.F.called_set.mro
  have d1 := PySem.F.called_set.made
  have d2 := PySem.F.called_set.sub
  refine wpAny_call (codeAny_of_tree ?_)
  show wpAny _ _ (callAny (.type "set") _) _ _ s
  refine wpAny_pure ⟨Code.quiet_builtin _ (by decide +kernel), codeAny_builtin PySem.F.entry_type_call ?_⟩
  rw [Around.under_plain (weight_type_call_type "set" [.ref l] []) rfl]
  have d3 := PySem.F.called_set.notType
  have d4 := PySem.F.called_set.canCreate
  have d5 := PySem.F.typeCall_set_1 (.ref l)
  repeat (any_goals (first | assumption | wp_step))
  refine codeAny_mono (code_set_new_1 (.ref l) (E := E) (Q₁ := fun y s1 => ∃ led : Bool, y = .ref s.heap.objs.size ∧ s1 = { s with heap := s.heap.push (freshSet led) }) fun led => ⟨led, rfl, rfl⟩) fun r s1 hr => ?_
  cases r with
  | error e => exact hr
  | ok fl =>
    cases fl with
    | ret y =>
      obtain ⟨led, rfl, rfl⟩ := hr
      have gS : (s.heap.push (freshSet led)).get? s.heap.objs.size = some (freshSet led) := Heap.get?_push_size _ rfl
      have tS : Shared.TypeIs { s with heap := s.heap.push (freshSet led) } (.ref s.heap.objs.size) "set" := ⟨_, gS, rfl⟩
      have d6 := PySem.F.called_set.init.lookup
      have d7 := PySem.F.called_set.init.bind (.ref s.heap.objs.size)
      repeat (any_goals (first | assumption | wp_step))
      refine codeAny_mono (codeAny_call_builtin (R := wants (fun r s2 => r = .none ∧ ∃ h' tk, s2 = { s with heap := h', toks := tk } ∧ Seen prog w h' s.heap.objs.size xs xs.length ∧ ∀ b o, b < s.heap.objs.size → s.heap.get? b = some o → h'.get? b = some o) E)
        PySem.F.called_set.init.plain PySem.F.entry_set_init (check_set_init_1 tS ?_)) fun r2 s2 hr2 => ?_
      · have sz : xs.length = items.size := by rw [← StrsAre.len_eq hi, Array.length_toList]
        obtain ⟨ob, hob, hcl, nl, hdl⟩ := hl
        obtain ⟨cls, dc, data, sl⟩ := ob
        have hcl : cls = .type "list" := hcl
        have hdl : data = .seq items nl := hdl
        subst hcl hdl
        have lt : l < s.heap.objs.size := Heap.lt_size hob
        have hob1 : (s.heap.push (freshSet led)).get? l = some { cls := .type "list", dict := dc, data := .seq items nl, slots := sl } := Heap.get?_push_of_some _ hob
        have u1 := PySem.F.sub_list_set
        have u2 := PySem.F.sub_list_frozenset
        have u3 : (Value.type "list" == Value.type "dict") = false := by decide
        have il : (s.heap.push (freshSet led)).IsList l items := ⟨_, hob1, rfl, nl, rfl⟩
        unfold Builtin.«set.__init__» noKeywords Builtin.Frozenset.updateFrom
        generalize hp : pyIter = py
        wp_walk
        subst hp
        refine wpAny_pyIter_list il (wpAny_bind (wpAny_runValue ?_))
        have calm3 : A.in1.in1.in1.handled = none := by simp [calm]
        have ps : (s.heap.push (freshSet led)).objs.size = s.heap.objs.size + 1 := Heap.size_push ..
        have n1 : l ≠ (s.heap.push (freshSet led)).objs.size := by
          rw [ps]; exact Nat.ne_of_lt (Nat.lt_succ_of_lt lt)
        have n2 : s.heap.objs.size ∉ [(s.heap.push (freshSet led)).objs.size, l] := by
          rw [ps]
          simp only [List.mem_cons, List.not_mem_nil, or_false, not_or]
          exact ⟨Nat.ne_of_lt (Nat.lt_succ_self _), Nat.ne_of_gt lt⟩
        have g2 : ((s.heap.push (freshSet led)).push { cls := .type "list_iterator", data := .fields #[.ref l, .int 0 0] }).get? s.heap.objs.size = some (freshSet led) := Heap.get?_push_of_some _ gS
        refine loop_txt ((Walks.list calm3 _ l n1 items).toS) s.heap.objs.size n2 xs sz (by omega) (fun i v hv => SS.strs_at hi i v (by rw [Array.getElem?_toList]; exact hv)) (items.size - 0) 0 _ rfl (Nat.zero_le _)
          ⟨⟨_, Heap.get?_push_size _ rfl, rfl, rfl⟩, il.push _⟩ (SetOf_congr ((setObjOf_fresh (knd := strKind prog w) led).setOf g2 (by unfold scanBound; omega)) (fun _ => rfl) rfl) fun s3 mv sn => ?_
        obtain ⟨h3, gs3, dr3, tk3, os3⟩ := s3
        have m1 : gs3 = s.gens := mv.gens
        have m2 : dr3 = s.drawn := mv.drawn
        have m3 : os3 = s.os := mv.os
        subst m1 m2 m3
        show wpAny _ _ _ _ _ _
        refine wpAny_pure ?_
        show wpAny _ _ (ret Value.none) _ _ _
        rw [← sz] at sn
        refine wpAny_pure ⟨rfl, h3, tk3, rfl, sn, fun b o hb e => mv.heap b o ?_ (Heap.get?_push_of_some _ (Heap.get?_push_of_some _ e))⟩
        rw [ps]
        simp only [List.mem_cons, List.not_mem_nil, or_false, not_or]
        exact ⟨Nat.ne_of_lt hb, Nat.ne_of_lt (Nat.lt_succ_of_lt hb)⟩
      · cases r2 with
        | error e => exact hr2
        | ok fl2 =>
          cases fl2 with
          | ret r =>
            obtain ⟨rfl, h3, tk3, rfl, sn, kp⟩ := hr2
            repeat (any_goals (first | assumption | wp_step))
            exact fin _ _ sn kp
          | _ => exact hr2.elim
    | _ => exact hr.elim
end
section
variable {X : Cx}
/-- len(set(xs)) -/
def tLenSetT (K : PySem.W.Frag) (ta : TE) : TE := fun σ H Q => ta σ H fun x H1 => ∃ l, ∃ xs : List Str, x = .ref l ∧ SqL K H1 l (xs.map V.str) ∧ xs.length ≤ 4000 ∧ Q (.int (onceL xs).length) H1
theorem strs_of_vals : ∀ {xs : List Str} {us : List Value}, Vals (xs.map V.str) us → StrsAre us xs
  | [], _, .nil => .nil
  | x :: xs, _, .cons r t => by
    obtain ⟨k, rfl⟩ := r
    exact .cons x k (strs_of_vals t)
theorem pe_lenSetT {K : PySem.W.Frag} (hK : X.K = K) {a : Expr} {ta : TE} {p p2 q pos : Pos} (calm : X.calm = true) (g1 : Gl X "len") (m1 : X.mg "len" = none) (g2 : Gl X "set") (m2 : X.mg "set" = none) (ha : PE X a ta)
    (na : starEach [a] X.env = (false, eval a X.env) :: starEach [] X.env := by rfl) : PE X (.Call (.Name "len" p) [.Call (.Name "set" p2) [a] [] q] [] pos) (tLenSetT K ta) := by
  subst hK
  refine ⟨fun pins s σ H Q I h => Call_ (ld_blt I g1 m1 boot_len ?_)⟩
  refine callWith_builtin1 (args_cons ?_ rfl) rfl rfl
  refine Call_ (ld_blt I g2 m2 boot_set (callWith_type1 (args_cons (thn (ha.run pins s σ H _ I h) fun v s1 ⟨x, H1, I1, r1, q1⟩ => args_nil ?_) na) na rfl))
  obtain ⟨l, xs, ex, hq, hl, q1⟩ := q1
  subst ex
  cases r1
  obtain ⟨its, rv, pl, hz⟩ := I1.list hq
  refine set_of_list (I1.ok.hd calm) pl.isList (by simpa using strs_of_vals rv) (by unfold scanBound; omega) fun h2 tk sn kp => ?_
  refine args_nil ?_
  obtain ⟨o, es, ep, t, ho, hex, hd, _, _, _, hf, hn⟩ := sn
  rw [List.take_length] at hn
  have I2 : Inv X pins σ H1 { s1 with heap := h2, toks := tk } := I1.kept fun b o e => kp b o (Heap.lt_size e) e
  have few := onceL_len xs
  exact call_len_set ho hex hd hf (by rw [hn]; omega) ⟨.int (onceL xs).length, H1, I2.tok _, ⟨_, by rw [hn]⟩, q1⟩
end
section
variable {K : PySem.W.Frag} {l : List O} {ρ : List (Option D)} {R : D → List O → Prop} {ta : TE}
theorem e_lenSet (h : EvS K ta ρ l fun x l1 => ∃ xs : List Str, IsL l1 x (sPy xs) ∧ xs.length ≤ 4000 ∧ R (.f (.int (onceL xs).length)) l1) : EvS K (tLenSetT K ta) ρ l R := fun m B H σ S e Q q => by
  refine h m B H σ S e _ fun v m1 B1 H1 x l1 s1 S1 r1 ⟨xs, hx, hl, z⟩ => ?_
  obtain ⟨a, us, rfl, e2, pr⟩ := hx.at S1 r1
  have eu := frs_str pr
  subst eu
  exact ⟨a, xs, rfl, SqL.of e2, hl, q _ m1 B1 H1 (.f (.int (onceL xs).length)) l1 s1 S1 (FR.int _) z⟩
end
theorem onceL_full {xs : List Str} : (onceL xs).length = xs.length ↔ xs.Nodup := by
  have go : ∀ (n : Nat) (xs : List Str), xs.length = n → (onceL xs).length = xs.length → xs.Nodup := by
    intro n
    induction n with
    | zero => intro xs h _; rw [List.length_eq_zero_iff.mp h]; exact List.nodup_nil
    | succ n ih =>
      intro xs h e
      rcases List.eq_nil_or_concat xs with rfl | ⟨ys, x, rfl⟩
      · cases h
      · rw [List.concat_eq_append] at *
        rw [List.length_append, List.length_singleton] at h e
        rw [onceL_snoc] at e
        have hl := onceL_len ys
        unfold addOnce at e
        by_cases hm : x ∈ onceL ys
        · rw [if_pos hm] at e; omega
        · rw [if_neg hm, List.length_append, List.length_singleton] at e
          have := ih ys (by omega) (by omega)
          rw [List.nodup_append]
          exact ⟨this, by simp, fun a ha b hb => by cases List.mem_singleton.mp hb; exact fun q => hm (mem_onceL.mpr (q ▸ ha))⟩
  refine ⟨go _ xs rfl, fun h => ?_⟩
  have h1 := onceL_len xs
  have h2 := nodup_le h fun x hx => mem_onceL.mpr hx
  omega
end L3
/-! L3zza: steps looked at: their ends, whether they go on, go round -/
namespace L3
open PySem L2
def wantKey (t : Step3) : Str × Str := (t.1, if t.1 = ("last" : Str) then t.2.2 else t.2.1)
/-- the ends of a step, if it is one of the house -/
def endsF (ks : Knots) (ts ws : Ties) (t : Step3) : Option Step3 :=
  if t.1 = ("tie" : Str) then (if (t.2.1, t.2.2) ∈ ts then partF ks t.2.1 t.2.2 else none)
  else (knotOf ks t.2.1).bind fun k => if t.2.1 = t.2.2 ∨ t.2.2 ∉ kids ks k then none else if wantKey t ∈ ws then some (k, t.2.1, t.2.2) else none
theorem endsF_want {ks : Knots} {ts ws : Ties} {t : Step3} {k : Str} (hw : t.1 ≠ "tie") (hk : knotOf ks t.2.1 = some k) : endsF ks ts ws t = if t.2.1 = t.2.2 ∨ t.2.2 ∉ kids ks k then none else if wantKey t ∈ ws then some (k, t.2.1, t.2.2) else none := by
  unfold endsF
  rw [if_neg hw, hk]
  rfl
theorem ne_first : ("first" : Str) ≠ "tie" := by decide
theorem ne_last : ("last" : Str) ≠ "tie" := by decide
def IsWord (w : Str) : Prop := w = "tie" ∨ w = "first" ∨ w = "last"
section
variable {ks : Knots} {us : List Str} {ts ws : Ties} {k : Str}
theorem mem_tieE {x y : Str} : (x, y) ∈ tieE ks k ts ↔ ∃ e ∈ ts, partF ks e.1 e.2 = some (k, x, y) := by
  unfold tieE
  rw [List.mem_filterMap]
  constructor
  · rintro ⟨e, he, h⟩
    refine ⟨e, he, ?_⟩
    unfold tieE1 at h
    cases hp : partF ks e.1 e.2 with
    | none => rw [hp] at h; cases h
    | some q =>
      rw [hp] at h
      obtain ⟨kk, a, b⟩ := q
      simp only at h
      split at h
      · rename_i ek
        cases h; rw [ek]
      · cases h
  · rintro ⟨e, he, h⟩
    refine ⟨e, he, ?_⟩
    unfold tieE1
    rw [h]
    simp
theorem mem_wantE {w x y : Str} : (x, y) ∈ wantE ks k w ws ↔ x ≠ y ∧ x ∈ kids ks k ∧ y ∈ kids ks k ∧ (w, if w = ("last" : Str) then y else x) ∈ ws := by
  unfold wantE wantUs wantRow
  rw [List.mem_flatMap]
  constructor
  · rintro ⟨u, hu, h⟩
    obtain ⟨q, hq, rfl⟩ := List.mem_map.mp hu
    obtain ⟨h1, h2⟩ := List.mem_filter.mp hq
    simp only [Bool.and_eq_true, decide_eq_true_eq] at h2
    obtain ⟨o, ho, e⟩ := List.mem_map.mp h
    obtain ⟨h3, h4⟩ := List.mem_filter.mp ho
    have h4 : o ≠ q.2 := of_decide_eq_true h4
    have hq2 : (w, q.2) ∈ ws := by rw [← h2.1]; exact h1
    split at e
    · rename_i hw
      cases e
      exact ⟨h4, h3, h2.2, by rw [if_pos hw]; exact hq2⟩
    · rename_i hw
      cases e
      exact ⟨fun e => h4 e.symm, h2.2, h3, by rw [if_neg hw]; exact hq2⟩
  · rintro ⟨hne, hx, hy, hw⟩
    by_cases hl : w = ("last" : Str)
    · rw [if_pos hl] at hw
      refine ⟨y, List.mem_map.mpr ⟨(w, y), List.mem_filter.mpr ⟨hw, by simp [hy]⟩, rfl⟩, List.mem_map.mpr ⟨x, List.mem_filter.mpr ⟨hx, decide_eq_true hne⟩, ?_⟩⟩
      rw [if_pos hl]
    · rw [if_neg hl] at hw
      refine ⟨x, List.mem_map.mpr ⟨(w, x), List.mem_filter.mpr ⟨hw, by simp [hx]⟩, rfl⟩, List.mem_map.mpr ⟨y, List.mem_filter.mpr ⟨hy, decide_eq_true fun e => hne e.symm⟩, ?_⟩⟩
      rw [if_neg hl]
theorem mem_edges {x y : Str} : (x, y) ∈ edgesF ks ts ws k ↔ (x, y) ∈ tieE ks k ts ∨ (x, y) ∈ wantE ks k "first" ws ∨ (x, y) ∈ wantE ks k "last" ws := by
  unfold edgesF
  rw [mem_onceL]
  unfold edges0
  rw [List.mem_append, List.mem_append, or_assoc]
end
/-! going on, going round -/
def Linked (es : List Step3) : Prop := ∀ p ∈ es.zip es.tail, p.1.2.2 = p.2.2.1
structure GoOn (es : List Step3) : Prop where
  two : 2 ≤ es.length
  nd : (es.map (·.2.1)).Nodup
  knot : ∀ e ∈ es, ∀ f ∈ es, e.1 = f.1
  link : Linked es
def goOnB (os : List (Option Step3)) : Bool := decide (2 ≤ os.length ∧ none ∉ os ∧ ((os.filterMap id).map (·.2.1)).Nodup ∧ (onceL ((os.filterMap id).map (·.1))).length ≤ 1) && ((os.filterMap id).zip (os.filterMap id).tail).all fun p => decide (p.1.2.2 = p.2.2.1)
theorem somes {os : List (Option Step3)} (h : none ∉ os) : os = (os.filterMap id).map some := by
  induction os with
  | nil => rfl
  | cons o os ih =>
    cases o with
    | none => exact absurd List.mem_cons_self h
    | some e =>
      rw [List.filterMap_cons_some (f := id) (a := some e) (b := e) rfl, List.map_cons, ← ih fun q => h (List.mem_cons_of_mem _ q)]
theorem once_one {xs : List Str} : (onceL xs).length ≤ 1 ↔ ∀ x ∈ xs, ∀ y ∈ xs, x = y := by
  constructor
  · intro h x hx y hy
    have h1 := mem_onceL.mpr hx
    have h2 := mem_onceL.mpr hy
    cases e : onceL xs with
    | nil => rw [e] at h1; cases h1
    | cons a r =>
      rw [e] at h h1 h2
      have : r = [] := List.length_eq_zero_iff.mp (by simpa using h)
      subst this
      rw [List.mem_singleton.mp h1, List.mem_singleton.mp h2]
  · intro h
    cases e : onceL xs with
    | nil => simp
    | cons a r =>
      cases r with
      | nil => simp
      | cons b r =>
        have hn := onceL_nodup xs
        have ha : a ∈ onceL xs := by rw [e]; exact List.mem_cons_self
        have hb : b ∈ onceL xs := by rw [e]; exact List.mem_cons_of_mem _ List.mem_cons_self
        have := h a (mem_onceL.mp ha) b (mem_onceL.mp hb)
        subst this
        rw [e] at hn
        exact absurd List.mem_cons_self (List.nodup_cons.mp hn).1
theorem goOnB_iff {es : List Step3} : goOnB (es.map some) = true ↔ GoOn es := by
  have e1 : (es.map some).filterMap id = es := by
    induction es with
    | nil => rfl
    | cons e es ih => rw [List.map_cons, List.filterMap_cons_some (f := id) (a := some e) (b := e) rfl, ih]
  unfold goOnB
  rw [e1, Bool.and_eq_true, decide_eq_true_eq, List.length_map, List.all_eq_true]
  constructor
  · rintro ⟨⟨h1, _, h3, h4⟩, h5⟩
    exact ⟨h1, h3, fun e he f hf => once_one.mp h4 _ (List.mem_map_of_mem (f := (·.1)) he) _ (List.mem_map_of_mem (f := (·.1)) hf), fun p hp => of_decide_eq_true (h5 p hp)⟩
  · intro h
    refine ⟨⟨h.two, by simp, h.nd, once_one.mpr ?_⟩, fun p hp => decide_eq_true (h.link p hp)⟩
    intro x hx y hy
    obtain ⟨e, he, rfl⟩ := List.mem_map.mp hx
    obtain ⟨f, hf, rfl⟩ := List.mem_map.mp hy
    exact h.knot e he f hf
theorem goOnB_some {os : List (Option Step3)} (h : goOnB os = true) : ∃ es, os = es.map some ∧ GoOn es := by
  have hn : none ∉ os := by
    unfold goOnB at h
    rw [Bool.and_eq_true, decide_eq_true_eq] at h
    exact h.1.2.1
  have e := somes hn
  rw [e] at h
  exact ⟨_, e, goOnB_iff.mp h⟩
def goRoundB (os : List (Option Step3)) : Bool := goOnB os && match os.getLast?, os.head? with
  | some (some l), some (some f) => decide (l.2.2 = f.2.1)
  | _, _ => false
/-! ways have unlike things -/
theorem WaysOk.nodup {ts : List Str} {es : Ties} {one : Str} {Q : Ways} (W : WaysOk ts es one false Q) : ∀ (n : Nat) (p : List Str), p.length = n → p ∈ Q → p.Nodup ∧ ∀ v ∈ p, ∃ s, v :: s ∈ Q ∧ (v :: s).length ≤ n
  | 0, p, h, hp => by
    obtain ⟨c, r, rfl⟩ := W.ne hp
    simp at h
  | n + 1, p, h, hp => by
    obtain ⟨x, r, rfl⟩ := W.ne hp
    have me : ∃ s, x :: s ∈ Q ∧ (x :: s).length ≤ n + 1 := ⟨r, hp, by omega⟩
    by_cases hx : x = one
    · subst hx
      have e0 : r = [] := by
        have e := W.uniq hp (List.mem_of_getElem? (W.ok.choose_spec.1.root)) rfl
        exact (List.cons.inj e).2
      subst e0
      exact ⟨by simp, fun v hv => by cases List.mem_singleton.mp hv; exact me⟩
    · obtain ⟨y, r', e1, hy, _⟩ := W.up hp hx
      subst e1
      obtain ⟨i1, i2⟩ := WaysOk.nodup W n (y :: r') (by simpa using h) hy
      refine ⟨List.nodup_cons.mpr ⟨fun hm => ?_, i1⟩, fun v hv => ?_⟩
      · obtain ⟨s, hs, hl⟩ := i2 x hm
        have := W.uniq hs hp rfl
        rw [this] at hl
        omega
      · rcases List.mem_cons.mp hv with rfl | hv
        · exact me
        · obtain ⟨s, hs, hl⟩ := i2 v hv
          exact ⟨s, hs, by omega⟩
theorem GQ.nodup {ts M : List Str} {Q : Ways} (h : GQ ts M Q) : ∀ (i : Nat) (p : List Str), Q[i]? = some p → p.Nodup ∧ (∀ v ∈ p, ∃ (j : Nat) (s : List Str), j ≤ i ∧ Q[j]? = some (v :: s)) ∧ (∀ v ∈ p.dropLast, v ∉ M) ∧ (∃ m, p.getLast? = some m ∧ m ∈ M)
  | i, p, hp => by
    rcases h.row i p hp with ⟨x, rfl, hx⟩ | ⟨x, q, j, rfl, hj, hq, hx⟩
    · exact ⟨by simp, fun v hv => by cases List.mem_singleton.mp hv; exact ⟨i, [], Nat.le_refl _, hp⟩, nofun, x, rfl, hx⟩
    · obtain ⟨i1, i2, i3, m, i4, i5⟩ := GQ.nodup h j q hq
      obtain ⟨y, q', rfl⟩ := h.ne hq
      refine ⟨List.nodup_cons.mpr ⟨fun hm => ?_, i1⟩, fun v hv => ?_, fun v hv => ?_, m, by rw [List.getLast?_cons_cons]; exact i4, i5⟩
      · obtain ⟨n, s, hn, hs⟩ := i2 x hm
        have h1 := headsL_at hs
        have h2 := headsL_at hp
        have hl : n < (headsL Q).length := (List.getElem?_eq_some_iff.mp h1).1
        have : n = i := (List.getElem?_inj hl h.nd).mp (by rw [h1, h2]; rfl)
        omega
      · rcases List.mem_cons.mp hv with rfl | hv
        · exact ⟨i, y :: q', Nat.le_refl _, hp⟩
        · obtain ⟨n, s, hn, hs⟩ := i2 v hv
          exact ⟨n, s, by omega, hs⟩
      · rw [List.dropLast_cons_cons] at hv
        rcases List.mem_cons.mp hv with rfl | hv
        · exact hx
        · exact i3 v hv
termination_by i => i
end L3
/-! L3zzb: whole rings: what looks let by closes, what is told is let by -/
namespace L3
open PySem L2
def StepsIn (us : List Str) (ss : List Step3) : Prop := ∀ t ∈ ss, IsWord t.1 ∧ t.2.1 ∈ us ∧ t.2.2 ∈ us
def tieRingB (ks : Knots) (ts ws : Ties) (a b : Str) (ss : List Step3) : Bool := decide (ss.head? = some (("tie", a, b) : Step3)) && goRoundB (partF ks a b :: ss.tail.map (endsF ks ts ws))
def wantRingB (ks : Knots) (ts ws : Ties) (w u : Str) : List Step3 → Bool
  | [] => false
  | t :: r => match endsF ks ts (ws ++ [(w, u)]) t with
    | none => false
    | some e => decide (t.1 = w ∧ (if w = ("last" : Str) then e.2.2 else e.2.1) = u) && goRoundB (some e :: r.map (endsF ks ts ws))
theorem wantRingB_cons (ks : Knots) (ts ws : Ties) (w u : Str) (t : Step3) (r : List Step3) : wantRingB ks ts ws w u (t :: r) = match endsF ks ts (ws ++ [(w, u)]) t with
    | none => false
    | some e => decide (t.1 = w ∧ (if w = ("last" : Str) then e.2.2 else e.2.1) = u) && goRoundB (some e :: r.map (endsF ks ts ws)) := rfl
def groupEndsB (k : Str) (M : List Str) (os : List (Option Step3)) : Bool := goOnB os && match os.head?, os.getLast? with
  | some (some f), some (some l) => decide (f.1 = k ∧ f.2.1 ∈ M ∧ l.2.2 ∈ M) && (os.tail.filterMap id).all fun e => !decide (e.2.1 ∈ M)
  | _, _ => false
theorem GoesS.trans {E : Ties} {a b c : Str} (h1 : GoesS E a b) (h2 : GoesS E b c) : GoesS E a c := by
  induction h2 with
  | refl => exact h1
  | tail _ q ih => exact .tail ih q
section
variable {ks : Knots} {us : List Str} {ts ws : Ties} {k : Str}
theorem endsF_in (hB : TreeB ks us) (hP : Parted ks us ts) {t : Step3} (h1 : t.2.1 ∈ us) (h2 : t.2.2 ∈ us) {k x y : Str} (h : endsF ks ts ws t = some (k, x, y)) : k ∈ ks.map (·.1) ∧ x ∈ us ∧ y ∈ us := by
  unfold endsF at h
  split at h
  · split at h
    · obtain ⟨s1, s2, _⟩ := hB.part h1 h2 h
      obtain ⟨_, _, T, _⟩ := hB
      exact ⟨s1.knot, (T.all _).mpr ⟨_, s1⟩, (T.all _).mpr ⟨_, s2⟩⟩
    · cases h
  · cases hk : knotOf ks t.2.1 with
    | none => rw [hk] at h; cases h
    | some k' =>
      rw [hk] at h
      simp only [Option.bind_some] at h
      split at h
      · cases h
      · split at h
        · cases h
          exact ⟨(knotOf_some hk).knot, h1, h2⟩
        · cases h
theorem GoOn.tail {f g : Step3} {r : List Step3} (h : GoOn (f :: g :: r)) : Linked (g :: r) ∧ f.2.2 = g.2.1 := by
  have := h.link
  refine ⟨fun p hp => this p (by simp only [List.tail_cons, List.zip_cons_cons]; exact List.mem_cons_of_mem _ (by simpa using hp)), this (f, g) (by simp)⟩
end
/-! a way through edges, as ends -/
def alongE (k : Str) (q : List Str) : List Step3 := (q.zip q.tail).map fun e => (k, e.1, e.2)
theorem alongE_cons (k a b : Str) (q : List Str) : alongE k (a :: b :: q) = (k, a, b) :: alongE k (b :: q) := rfl
theorem alongE_begun (k : Str) : ∀ q : List Str, (alongE k q).map (·.2.1) = q.dropLast
  | [] => rfl
  | [a] => rfl
  | a :: b :: q => by rw [alongE_cons, List.map_cons, alongE_begun k (b :: q), List.dropLast_cons_cons]
theorem alongE_len (k : Str) (q : List Str) : (alongE k q).length = q.length - 1 := by
  unfold alongE
  rw [List.length_map, List.length_zip, List.length_tail]
  omega
theorem alongE_link (k : Str) : ∀ q : List Str, Linked (alongE k q)
  | [] => fun p hp => by cases hp
  | [a] => fun p hp => by cases hp
  | [a, b] => fun p hp => by
    have : alongE k [a, b] = [(k, a, b)] := rfl
    rw [this] at hp
    cases hp
  | a :: b :: c :: q => fun p hp => by
    have ih := alongE_link k (b :: c :: q)
    rw [alongE_cons, alongE_cons, List.tail_cons, List.zip_cons_cons] at hp
    rcases List.mem_cons.mp hp with rfl | hp
    · rfl
    · exact ih p (by rw [alongE_cons, List.tail_cons]; exact hp)
theorem alongE_go {k : Str} {q : List Str} (h3 : 3 ≤ q.length) (hn : q.dropLast.Nodup) : GoOn (alongE k q) where
  two := by rw [alongE_len]; omega
  nd := by rw [alongE_begun]; exact hn
  knot := fun e he f hf => by
    obtain ⟨_, _, rfl⟩ := List.mem_map.mp he
    obtain ⟨_, _, rfl⟩ := List.mem_map.mp hf
    rfl
  link := alongE_link k q
theorem alongE_last (k : Str) : ∀ (q : List Str) (x : Str), 2 ≤ q.length → q.getLast? = some x → ∃ l, (alongE k q).getLast? = some l ∧ l.2.2 = x ∧ l.1 = k
  | [], _, h, _ => by simp at h
  | [_], _, h, _ => by simp at h
  | [a, b], x, _, h => ⟨(k, a, b), rfl, Option.some.inj h, rfl⟩
  | a :: b :: c :: q, x, _, h => by
    obtain ⟨l, h1, h2, h3⟩ := alongE_last k (b :: c :: q) x (by simp) (by rw [← h]; exact List.getLast?_cons_cons.symm)
    refine ⟨l, ?_, h2, h3⟩
    rw [alongE_cons, alongE_cons, List.getLast?_cons_cons]
    rw [alongE_cons] at h1
    exact h1
/-- a way backward -/
def BackW (E : Ties) : List Str → Prop
  | x :: y :: r => (y, x) ∈ E ∧ BackW E (y :: r)
  | _ => True
def OnW (E : Ties) (q : List Str) : Prop := ∀ e ∈ q.zip q.tail, e ∈ E
theorem onW_snoc {E : Ties} : ∀ {q : List Str} {x y : Str}, OnW E (q ++ [y]) → (y, x) ∈ E → OnW E (q ++ [y] ++ [x])
  | [], x, y, _, h => fun e he => by
    have : e = (y, x) := by simpa using he
    rw [this]; exact h
  | [a], x, y, ho, h => fun e he => by
    have he : e = (a, y) ∨ e = (y, x) := by simpa using he
    rcases he with rfl | rfl
    · exact ho _ (by simp)
    · exact h
  | a :: b :: q, x, y, ho, h => fun e he => by
    have ih := onW_snoc (q := b :: q) (fun e he => ho e (by simp only [List.cons_append, List.tail_cons, List.zip_cons_cons]; exact List.mem_cons_of_mem _ (by simpa using he))) h
    simp only [List.cons_append, List.tail_cons, List.zip_cons_cons] at he
    rcases List.mem_cons.mp he with rfl | he
    · exact ho _ (by simp)
    · exact ih e (by simpa using he)
theorem BackW.on {E : Ties} : ∀ {p : List Str}, BackW E p → OnW E p.reverse
  | [], _ => fun e he => by cases he
  | [x], _ => fun e he => by cases he
  | x :: y :: r, h => by
    have ih := BackW.on h.2
    rw [List.reverse_cons, List.reverse_cons]
    rw [List.reverse_cons] at ih
    exact onW_snoc ih h.1
theorem RW.back {ks : List Str} {E : Ties} {one : Str} {p : List Str} (h : RW (stepM ks E false) one p) : BackW E p ∧ p.getLast? = some one := by
  induction h with
  | base => exact ⟨trivial, rfl⟩
  | @step a b q h1 h2 ih =>
    have h2 : b ∈ nextsM ks E a := h2
    exact ⟨⟨(mem_nextsM.mp h2).2, ih.1⟩, by rw [List.getLast?_cons_cons]; exact ih.2⟩
section
variable {ks : Knots} {us : List Str} {ts ws : Ties} {k : Str}
theorem round_of {k : Str} {q : List Str} (h3 : 3 ≤ q.length) (hn : q.dropLast.Nodup) {x : Str} (h1 : q.head? = some x) (h2 : q.getLast? = some x) : goRoundB ((alongE k q).map some) = true := by
  unfold goRoundB
  rw [Bool.and_eq_true]
  refine ⟨goOnB_iff.mpr (alongE_go h3 hn), ?_⟩
  obtain ⟨l, e1, e2, _⟩ := alongE_last k q x (by omega) h2
  obtain ⟨a, b, r, rfl⟩ : ∃ a b r, q = a :: b :: r := by
    match q with
    | [] => simp at h3
    | [_] => simp at h3
    | a :: b :: r => exact ⟨_, _, _, rfl⟩
  rw [List.getLast?_map, e1]
  cases Option.some.inj h1
  show decide (l.2.2 = x) = true
  exact decide_eq_true e2
end
/-! the search by groups, to its end -/
end L3
/-! L3zzc: x or y, by truth -/
namespace L3
open PySem L2
section
variable {K : PySem.W.Frag} {l : List O} {ρ : List (Option D)} {R : D → List O → Prop} {ta tb : TE}
/-- the truth of a value -/
inductive TruD (l : List O) : D → Bool → Prop
  | non : TruD l (.f .none) false
  | bl (b : Bool) : TruD l (.f (.bool b)) b
  | lst (ds : List PyData) : TruD l (.f (.list ds)) (!ds.isEmpty)
  | own {n : Nat} {ds : List PyData} (h : l[n]? = some (.lst ds)) : TruD l (.own n) (!ds.isEmpty)
theorem frs_empty {B : Hp} {xs : List V} {ds : List PyData} (h : FRs K B xs ds) : xs.isEmpty = ds.isEmpty := by
  cases h <;> rfl
theorem TruD.ok {m : List Addr} {B H : Hp} {x : D} {b : Bool} {v : V} (h : TruD l x b) (S : SR K m B H l) (r : VR K m B v x) : TruV K v H b := by
  cases h with
  | non => cases r; rfl
  | bl b => cases r; rfl
  | lst ds =>
    cases r with
    | lst h1 h2 => exact .inl ⟨_, SqL.of (S.sub _ _ h1), by rw [frs_empty h2]⟩
  | own hn =>
    obtain ⟨a, rfl, ha⟩ := r
    obtain ⟨⟨xs, e, q⟩, _⟩ := S.obj _ _ _ ha hn
    exact .inl ⟨_, SqL.of e, by rw [frs_empty q]⟩
end
end L3
/-! L3zzd: a caught exception stands among the tracked objects: try .. except C as n, isinstance, its fields -/
namespace L3
open PySem L2 PySem.Spec PyProof.Rows
end L3
/-! L3zze: isinstance of a tracked exception, with or without a dict of its own -/
namespace L3
open PySem PySem.Spec PySem.Calls PyProof.Rows PySem.W
end L3
namespace L3
open PySem L2 PySem.Spec PyProof.Rows
end L3
/-! L3zzf: what may raise: the judgements with what flies, raise, calls of defs that may raise, try .. except .. as n -/
namespace L3
open PySem L2 PySem.Spec PyProof.Rows
/-- what flies, as data -/
def Fly (K : PySem.W.Frag) (B : Hp) (cls : Value) (d : Option Addr) (e : PyData) : Prop :=
  ∃ (C : Addr) (x : Str) (ns : List Str) (vs : List V) (ds : List PyData), cls = .ref C ∧ e = exD x ns ds ∧ PySem.W.nsIn K mainGlobals x = some (some (.ref C)) ∧ XdOk B (ns.zip vs) d ∧ ns.length = vs.length ∧ FRs K B vs ds
abbrev RXT := PyData → List (Option D) → List O → Prop
/-- the wish W takes what flies as RX says -/
def XW (K : PySem.W.Frag) (m : List Addr) (B H : Hp) (W : WX) (RX : RXT) : Prop :=
  ∀ cls d e σ' ρ' m' B' H' l', Step m B H m' B' H' → SR K m' B' H' l' → ER K m' B' σ' ρ' → Fly K B' cls d e → RX e ρ' l' → W cls d σ' H'
/-- a def that may raise: arguments, what is wanted of the value, of what flies -/
abbrev SpecX := List D → (D → List O → Prop) → (PyData → Prop) → Prop
def PostX (K : PySem.W.Frag) (B H : Hp) (RX : PyData → Prop) (E : XK) : Prop := ∀ cls d e m' B' H', Step [] B H m' B' H' → SR K [] B' H' [] → Fly K B' cls d e → RX e → E cls d H'
def P3X (K : PySem.W.Frag) (S : SpecX) : Sp := fun vs H Q E => ∃ B ds R RX, SR K [] B H [] ∧ Paired (VR K [] B) vs ds ∧ S ds R RX ∧ Post K [] B H R Q ∧ PostX K B H RX E
section
variable {K : PySem.W.Frag} {m m' m2 : List Addr} {B B' B2 H H' H2 : Hp} {l : List O} {σ : L2.St} {ρ : List (Option D)} {R R' : D → List O → Prop} {E E' : E3} {ta tb te tc : TE} {tt tu : TT} {t u : TS} {ty tz : TA} {g : TG} {W : WX} {RX : RXT}
theorem XW.step (s : Step m B H m' B' H') (h : XW K m B H W RX) : XW K m' B' H' W RX := fun cls d e σ2 ρ2 m2 B2 H2 l2 s2 => h cls d e σ2 ρ2 m2 B2 H2 l2 (s.trans s2)
end
/-- the def at x keeps the promise S; it may raise -/
structure CalX (P : Program) (w : World) (K : PySem.W.Frag) (mg : Str → Option Value) (base : Heap) (k : Nat) (x : Str) (ps : List Str) (S : SpecX) : Prop where
  ex : ∃ a fd, mg x = some (.ref a) ∧ PySem.W.keepIn K (.ref a) = true ∧ Binds K fd ps [] ∧ FnG P w K mg base (L2.CX P w) k a fd ps (P3X K S)
section
variable {P : Program} {w : World} {K : PySem.W.Frag} {mg : Str → Option Value} {base : Heap}
theorem CalX.mono {j k : Nat} {x : Str} {ps : List Str} {S : SpecX} (C : CalX P w K mg base j x ps S) (h : j ≤ k) : CalX P w K mg base k x ps S := by
  obtain ⟨a, fd, h1, h2, h3, h4⟩ := C.ex
  exact ⟨a, fd, h1, h2, h3, h4.mono h⟩
end
/-! try -/
end L3
/-! L3zzg: classes by name, isinstance of what was caught, its field, raise, exceptions with an __init__ of their own -/
namespace L3
open PySem L2 PySem.Spec PyProof.Rows
abbrev NsC (K : PySem.W.Frag) (x : Str) (C : Addr) : Prop := PySem.W.nsIn K mainGlobals x = some (some (.ref C))
/-- the class x of the module -/
structure ClsAt (K : PySem.W.Frag) (mg : Str → Option Value) (x : Str) : Prop where
  ex : ∃ C, NsC K x C ∧ mg x = some (.ref C) ∧ PySem.W.keepIn K (.ref C) = true
/-! isinstance -/
def IsNo (K : PySem.W.Frag) (y : Str) : Prop := ∃ D, NsC K y D ∧ PySem.W.kitOne K (.type "NoneType") (.ref D) = some false
section
variable {K : PySem.W.Frag} {m m' m2 : List Addr} {B B' B2 H H' H2 : Hp} {l : List O} {σ : L2.St} {ρ : List (Option D)} {R R' : D → List O → Prop} {E E' : E3} {ta tb te tc : TE} {tt tu : TT} {t u : TS} {ty tz : TA} {g : TG} {W : WX} {RX : RXT}
/-- the field of what was caught -/
def HasF (K : PySem.W.Frag) (x f : Str) : Prop := ∃ C, NsC K x C ∧ XfC K C ∧ PySem.W.findIn K (.ref C) f = some none
/-! raise -/
/-- a class without an __init__ of its own may be raised -/
structure CanRaise (K : PySem.W.Frag) (mg : Str → Option Value) (x : Str) : Prop where
  ex : ∃ (C : Addr) (bm : List Value) (B nI iI : String), NsC K x C ∧ mg x = some (.ref C) ∧ PySem.W.keepIn K (.ref C) = true ∧ ExcBaseFacts B nI iI bm ∧ PySem.W.excIn K C bm nI = true ∧ PySem.W.subIn K (.ref C) (.type "BaseException") = some true ∧ PySem.W.typeIn K (.ref C) = some (.type "type")
/-! an __init__ of its own: OrderError.__init__(self, text), self.f = e -/
end
end L3
/-! L3zzh: raise of an exception with a field; except clauses by name; __init__ by its body -/
namespace L3
open PySem L2 PySem.Spec PyProof.Rows
section
variable {K : PySem.W.Frag} {m m' m2 : List Addr} {B B' B2 H H' H2 : Hp} {l l2 : List O} {σ : L2.St} {ρ : List (Option D)} {R R' : D → List O → Prop} {E E' : E3} {ta tb te tc : TE} {tt tu : TT} {t u : TS} {ty tz : TA} {g : TG} {W : WX} {RX : RXT}
/-- what was aside is let go, and a dict of an exception stands -/
theorem SR.fields {a dx : Addr} {u : HO} {fs : List (Str × V)} {X1 X2 : HO} (S1 : SR K m B H l) (na : H a = none) (hu : ∀ xs, u ≠ .tup xs) (s2 : Step m B (upd H a u) m2 B2 H2) (S2 : SR K m2 B2 H2 l2) (ndx : H2 dx = none) (nda : dx ≠ a) :
    SR K m2 (upd B2 dx (.xd fs)) (upd (del (upd (upd H2 dx X1) a X2) a) dx (.xd fs)) l2 ∧ Step m B H m2 (upd B2 dx (.xd fs)) (upd (del (upd (upd H2 dx X1) a X2) a) dx (.xd fs)) ∧ H2 a = some u ∧ H dx = none := by
  have h1a : a ∉ m := S1.notin na
  have ha2 : H2 a = some u := s2.keep a u upd_same h1a
  have hBa : B2 a = none := s2.sep a ⟨by rw [upd_same]; simp, fun xs => by rw [upd_same]; intro h; exact hu xs (Option.some.inj h)⟩ (S1.bnone na) h1a
  have hBd : B2 dx = none := S2.bnone ndx
  have h2a : a ∉ m2 := fun h => by
    rcases s2.new a h with h | h
    · exact h1a h
    · rw [upd_same] at h; cases h
  have h2d : dx ∉ m2 := S2.notin ndx
  have hf : ∀ {b : Addr}, b ≠ a → b ≠ dx → (upd (del (upd (upd H2 dx X1) a X2) a) dx (.xd fs)) b = H2 b := fun {b} h1 h2 => by
    rw [upd_ne h2, del_ne h1, upd_ne h1, upd_ne h2]
  have hdn : H dx = none := by
    cases e : H dx with
    | none => rfl
    | some o => exact absurd ndx (s2.live dx (by rw [upd_ne nda, e]; simp))
  have ne1 : ∀ {b o}, H b = some o → b ≠ a ∧ b ≠ dx := fun {b o} e => ⟨(fun z => by rw [z, na] at e; cases e), (fun z => by rw [z, hdn] at e; cases e)⟩
  have sB : Same B2 (upd B2 dx (.xd fs)) := same_new hBd
  refine ⟨⟨fun b o e => ?_, S2.len, S2.nd, fun b hb => ?_, fun n b o g1 g2 => ?_⟩, ⟨s2.sub.trans sB, s2.pre, fun b o e hn => ?_, fun b e => ?_, fun b e1 e2 hn => ?_, fun b hb => ?_⟩, ha2, hdn⟩
  · by_cases hb : b = dx
    · subst hb; rw [upd_same] at e ⊢; exact e
    · rw [upd_ne hb] at e
      rw [hf (fun z => by rw [z, hBa] at e; cases e) hb]
      exact S2.sub b o e
  · rw [hf (fun z => h2a (z ▸ hb)) fun z => h2d (z ▸ hb)]
    exact S2.live b hb
  · obtain ⟨r, q⟩ := S2.obj n b o g1 g2
    have hb := List.mem_of_getElem? g1
    have na' : b ≠ a := fun z => h2a (z ▸ hb)
    have nd' : b ≠ dx := fun z => h2d (z ▸ hb)
    exact ⟨r.up sB ⟨[], by simp⟩ fun u' e => by rw [hf na' nd']; exact e, fun z => by rw [upd_ne nd']; exact q z⟩
  · obtain ⟨h1, h2⟩ := ne1 e
    rw [hf h1 h2]
    exact s2.keep b o (by rw [upd_ne h1]; exact e) hn
  · cases e' : H b with
    | none => exact absurd e' e
    | some o =>
      obtain ⟨h1, h2⟩ := ne1 e'
      rw [hf h1 h2]
      exact s2.live b (by rw [upd_ne h1]; exact e)
  · cases e' : H b with
    | none => exact absurd e' e1.1
    | some o =>
      obtain ⟨h1, h2⟩ := ne1 e'
      rw [upd_ne h2]
      exact s2.sep b (by rw [upd_ne h1]; exact e1) e2 hn
  · rcases s2.new b hb with h | h
    · exact .inl h
    · by_cases hba : b = a
      · exact absurd (hba ▸ hb) h2a
      · rw [upd_ne hba] at h; exact .inr h
end
/-! except x as n -/
/-- the class y is caught by a clause that names x -/
def Ctc (K : PySem.W.Frag) (y x : Str) : Prop := ∃ C D, NsC K y C ∧ NsC K x D ∧ PySem.W.exmOne K (.ref C) (.ref D) = some true
end L3
/-! L3zzi: the facts of the exception classes, put together from what the written part says -/
namespace L3
open PySem L2 PySem.Spec PyProof.Rows
section
variable {K : PySem.W.Frag} {x y : Str} {C D : Addr} {b : Bool}
def XcAt (K : PySem.W.Frag) (x : Str) : Prop := ∃ C, NsC K x C ∧ ExcC K C
def Sub2 (K : PySem.W.Frag) (x y : Str) (b : Bool) : Prop := ∃ C D, NsC K x C ∧ NsC K y D ∧ PySem.W.kitOne K (.ref C) (.ref D) = some b
def SubB (K : PySem.W.Frag) (x : Str) (n : String) (b : Bool) : Prop := ∃ C, NsC K x C ∧ PySem.W.kitOne K (.ref C) (.type n) = some b
theorem xc_mk (h : PySem.W.nsIn K mainGlobals x = some (some (.ref C))) (e1 : PySem.W.findIn K (.ref C) "__getattribute__" = some (some (.builtin "BaseException.__getattribute__"))) (e2 : PySem.W.findIn K (.ref C) "__getattr__" = some none) (e3 : PySem.W.subIn K (.ref C) (.type "BaseException") = some true)
    (e4 : PySem.W.hasDictIn K C = true) (e5 : PySem.W.findIn K (.ref C) "__class__" = some (some (.builtin "object.__class__"))) (e6 : PySem.W.specialIn K (.builtin "object.__class__") "__get__" = some (some (.builtin "getset_descriptor.__get__")))
    (e7 : PySem.W.takesIn K (.builtin "object.__class__") = some true) (e8 : PySem.W.mroIn K C (.type "object") = some true) : XcAt K x := ⟨C, h, e1, e2, e3, e4, e5, e6, e7, e8⟩
theorem kit_own {t : Value} (k0 : PySem.W.hasDictIn K D = true) (k1 : PySem.W.typeIn K (.ref D) = some (.type "type")) (k2 : PySem.W.subIn K t (.ref D) = some b) (k3 : (t == .ref D) = true → b = true) : PySem.W.kitOne K t (.ref D) = some b := by
  unfold PySem.W.kitOne
  by_cases h : (t == Value.ref D) = true
  · rw [if_pos h, k3 h]
  · rw [if_neg h]
    obtain ⟨cd, hc, _⟩ := PySem.W.any_some k0
    show (if ((PySem.W.clsIn K D).isSome && PySem.W.typeIn K (.ref D) == some (.type "type")) = true then PySem.W.subIn K t (.ref D) else none) = some b
    rw [hc, k1]
    exact k2
theorem sub2_mk (h1 : PySem.W.nsIn K mainGlobals x = some (some (.ref C))) (h2 : PySem.W.nsIn K mainGlobals y = some (some (.ref D))) (k0 : PySem.W.hasDictIn K D = true) (k1 : PySem.W.typeIn K (.ref D) = some (.type "type")) (k2 : PySem.W.subIn K (.ref C) (.ref D) = some b)
    (k3 : (Value.ref C == .ref D) = true → b = true) : Sub2 K x y b := ⟨C, D, h1, h2, kit_own k0 k1 k2 k3⟩
theorem subB_mk {n : String} (h1 : PySem.W.nsIn K mainGlobals x = some (some (.ref C))) (k0 : PySem.W.kitMeta n = true) (k2 : PySem.W.subIn K (.ref C) (.type n) = some b) : SubB K x n b := ⟨C, h1, by
  unfold PySem.W.kitOne
  rw [if_neg (show ¬ ((Value.ref C == .type n) = true) from by simp)]
  show (if PySem.W.kitMeta n = true then PySem.W.subIn K (.ref C) (.type n) else none) = some b
  rw [if_pos k0]
  exact k2⟩
theorem isNo_mk (h2 : PySem.W.nsIn K mainGlobals y = some (some (.ref D))) (k0 : PySem.W.hasDictIn K D = true) (k1 : PySem.W.typeIn K (.ref D) = some (.type "type")) (k2 : PySem.W.subIn K (.type "NoneType") (.ref D) = some false) : IsNo K y :=
  ⟨D, h2, kit_own k0 k1 k2 fun h => by simp at h⟩
theorem ctc_mk (h1 : PySem.W.nsIn K mainGlobals x = some (some (.ref C))) (h2 : PySem.W.nsIn K mainGlobals y = some (some (.ref D))) (a1 : PySem.W.subIn K (.ref D) (.type "BaseException") = some true) (a2 : PySem.W.hasDictIn K D = true) (a3 : PySem.W.typeIn K (.ref D) = some (.type "type"))
    (a4 : PySem.W.subIn K (.ref C) (.ref D) = some true) : Ctc K x y := ⟨C, D, h1, h2, PySem.W.exm_ref a1 a2 a3 a4⟩
theorem hasF_mk {f : Str} (h1 : PySem.W.nsIn K mainGlobals x = some (some (.ref C))) (e1 : PySem.W.findIn K (.ref C) "__getattribute__" = some (some (.builtin "BaseException.__getattribute__"))) (e2 : PySem.W.findIn K (.ref C) "__getattr__" = some none) (e3 : PySem.W.subIn K (.ref C) (.type "BaseException") = some true)
    (e4 : PySem.W.hasDictIn K C = true) (e5 : PySem.W.findIn K (.ref C) f = some none) : HasF K x f := ⟨C, h1, ⟨e1, e2, e3, e4⟩, e5⟩
/-- a class by its name: what does not lean on the globals' map -/
def ClsN (K : PySem.W.Frag) (x : Str) : Prop := ∃ C, NsC K x C ∧ PySem.W.keepIn K (.ref C) = true
theorem clsN_mk (h1 : PySem.W.nsIn K mainGlobals x = some (some (.ref C))) (h2 : PySem.W.keepIn K (.ref C) = true) : ClsN K x := ⟨C, h1, h2⟩
theorem ClsN.at {h : Heap} {mg : Str → Option Value} (X : K.In h) (G : h.Ns mainGlobals mg) (c : ClsN K x) : ClsAt K mg x := by
  obtain ⟨C, h1, h2⟩ := c
  exact ⟨C, h1, PySem.W.mg_of X G h1, h2⟩
def RaiseN (K : PySem.W.Frag) (x : Str) : Prop := ∃ (C : Addr) (bm : List Value) (B nI iI : String), NsC K x C ∧ PySem.W.keepIn K (.ref C) = true ∧ ExcBaseFacts B nI iI bm ∧ PySem.W.excIn K C bm nI = true ∧ PySem.W.subIn K (.ref C) (.type "BaseException") = some true ∧ PySem.W.typeIn K (.ref C) = some (.type "type")
theorem raiseN_mk {bm : List Value} {B nI iI : String} (h1 : PySem.W.nsIn K mainGlobals x = some (some (.ref C))) (h2 : PySem.W.keepIn K (.ref C) = true) (F : ExcBaseFacts B nI iI bm) (h3 : PySem.W.excIn K C bm nI = true) (h4 : PySem.W.subIn K (.ref C) (.type "BaseException") = some true) (h5 : PySem.W.typeIn K (.ref C) = some (.type "type")) : RaiseN K x :=
  ⟨C, bm, B, nI, iI, h1, h2, F, h3, h4, h5⟩
theorem RaiseN.at {h : Heap} {mg : Str → Option Value} (X : K.In h) (G : h.Ns mainGlobals mg) (c : RaiseN K x) : CanRaise K mg x := by
  obtain ⟨C, bm, B, nI, iI, h1, h2, F, h3, h4, h5⟩ := c
  exact ⟨C, bm, B, nI, iI, h1, PySem.W.mg_of X G h1, h2, F, h3, h4, h5⟩
end
end L3
/-! L3zzj: d.get(k) -/
namespace L3
open PySem L2
end L3
/-! L3zzk: distances to a goal, found ring by ring around it, in a dict -/
namespace L3
open PySem L2
abbrev Dists := List (Int × Nat)
/-- the search, at the place a -/
structure Bfs (es : List (Int × Int)) (g : Int) (a : Nat) (L : Dists) : Prop where
  far : ∀ p ∈ L, Far es g p.1 p.2
  inc : ∀ (i j : Nat) (p q : Int × Nat), i ≤ j → L[i]? = some p → L[j]? = some q → p.2 ≤ q.2
  nd : (L.map (·.1)).Nodup
  root : L[0]? = some (g, 0)
  shut : ∀ (j : Nat) (p : Int × Nat), j < a → L[j]? = some p → ∀ e ∈ es, e.2 = p.1 → e.1 ∈ L.map (·.1)
  cap : ∀ (q : Int × Nat), L[a]? = some q → ∀ p ∈ L, p.2 ≤ q.2 + 1
/-- .. within the row at the place a, behind the first j ties -/
structure BfsRow (es : List (Int × Int)) (g : Int) (a j : Nat) (c : Int) (D : Nat) (L : Dists) : Prop where
  b : Bfs es g a L
  here : L[a]? = some (c, D)
  top : ∀ p ∈ L, p.2 ≤ D + 1
  done : ∀ e ∈ es.take j, e.2 = c → e.1 ∈ L.map (·.1)
section
variable {es : List (Int × Int)} {g : Int} {a j : Nat} {c : Int} {D : Nat} {L : Dists}
theorem Bfs.start : Bfs es g 0 [(g, 0)] where
  far := fun p hp => by cases List.mem_singleton.mp hp; exact far_goal
  inc := fun i j p q h h1 h2 => by
    cases i with
    | zero => cases h1; exact Nat.zero_le _
    | succ i => simp at h1
  nd := by simp
  root := rfl
  shut := fun j p h => by omega
  cap := fun q hq p hp => by cases List.mem_singleton.mp hp; exact Nat.zero_le _
theorem Bfs.row (h : Bfs es g a L) (hc : L[a]? = some (c, D)) : BfsRow es g a 0 c D L := ⟨h, hc, h.cap _ hc, fun e he => by simp at he⟩
theorem BfsRow.near (h : BfsRow es g a j c D L) : ∀ (d : Nat) (y : Int), d ≤ D → Far es g y d → y ∈ L.map (·.1)
  | 0, y, _, hy => by
    rw [hy.zero]
    exact List.mem_map.mpr ⟨(g, 0), List.mem_of_getElem? h.b.root, rfl⟩
  | d + 1, y, hd, hy => by
    obtain ⟨b, hb, fb⟩ := hy.next
    have hm := h.near d b (by omega) fb
    obtain ⟨p, hp, e⟩ := List.mem_map.mp hm
    have e2 : p.2 = d := (h.b.far p hp).uniq (e ▸ fb)
    obtain ⟨i, hi⟩ := List.getElem?_of_mem hp
    have hia : i < a := by
      by_cases hlt : i < a
      · exact hlt
      · have := h.b.inc a i _ _ (by omega) h.here hi
        simp only at this
        omega
    exact h.b.shut i p hia hi (y, b) hb e.symm
theorem BfsRow.new (h : BfsRow es g a j c D L) {x : Int} (hx : (x, c) ∈ es) (hn : x ∉ L.map (·.1)) : Far es g x (D + 1) := by
  have fc : Far es g c D := h.b.far _ (List.mem_of_getElem? h.here)
  refine ⟨.succ hx fc.st, fun d' hd hs => ?_⟩
  obtain ⟨d2, h2, f2⟩ := far_of hs
  exact hn (h.near d2 x (by omega) f2)
theorem BfsRow.add (h : BfsRow es g a j c D L) {x : Int} (he : es[j]? = some (x, c)) (hn : x ∉ L.map (·.1)) : BfsRow es g a (j + 1) c D (L ++ [(x, D + 1)]) := by
  have hf := h.new (List.mem_of_getElem? he) hn
  have old : ∀ {i : Nat} {p : Int × Nat}, L[i]? = some p → (L ++ [(x, D + 1)])[i]? = some p := fun {i p} e => by
    rw [List.getElem?_append_left (List.getElem?_eq_some_iff.mp e).1]; exact e
  have get : ∀ {i : Nat} {p : Int × Nat}, (L ++ [(x, D + 1)])[i]? = some p → L[i]? = some p ∨ (i = L.length ∧ p = (x, D + 1)) := fun {i p} e => by
    by_cases hi : i < L.length
    · rw [List.getElem?_append_left hi] at e; exact .inl e
    · rw [List.getElem?_append_right (by omega)] at e
      have hi0 : i - L.length = 0 := by
        have := (List.getElem?_eq_some_iff.mp e).1
        simp at this
        omega
      rw [hi0] at e
      exact .inr ⟨by omega, (Option.some.inj e).symm⟩
  have keys : ∀ {y : Int}, y ∈ L.map (·.1) → y ∈ (L ++ [(x, D + 1)]).map (·.1) := fun {y} hy => by rw [List.map_append]; exact List.mem_append_left _ hy
  have top : ∀ p ∈ L ++ [(x, D + 1)], p.2 ≤ D + 1 := fun p hp => by
    rcases List.mem_append.mp hp with hp | hp
    · exact h.top p hp
    · cases List.mem_singleton.mp hp; exact Nat.le_refl _
  refine ⟨⟨fun p hp => ?_, fun i k p q hik h1 h2 => ?_, ?_, old h.b.root, fun i p hi hp e' he' hh => ?_, fun q hq => ?_⟩, old h.here, top, fun f hf => ?_⟩
  · rcases List.mem_append.mp hp with hp | hp
    · exact h.b.far p hp
    · cases List.mem_singleton.mp hp; exact hf
  · rcases get h1 with h1 | ⟨rfl, rfl⟩
    · rcases get h2 with h2 | ⟨rfl, rfl⟩
      · exact h.b.inc i k p q hik h1 h2
      · exact h.top p (List.mem_of_getElem? h1)
    · rcases get h2 with h2 | ⟨rfl, rfl⟩
      · have := (List.getElem?_eq_some_iff.mp h2).1
        omega
      · exact Nat.le_refl _
  · rw [List.map_append, List.nodup_append]
    exact ⟨h.b.nd, by simp, fun y hy z hz e => hn (by
      have : z = x := by simpa using hz
      rw [← this, ← e]; exact hy)⟩
  · rcases get hp with hp | ⟨rfl, _⟩
    · exact keys (h.b.shut i p hi hp e' he' hh)
    · have := (List.getElem?_eq_some_iff.mp h.here).1
      omega
  · rw [old h.here] at hq
    cases hq
    exact top
  · rw [L3.take_next he] at hf
    rcases List.mem_append.mp hf with hf | hf
    · exact fun e => keys (h.done f hf e)
    · cases List.mem_singleton.mp hf
      intro _
      rw [List.map_append]
      exact List.mem_append_right _ (by simp)
theorem Bfs.all (h : Bfs es g a L) (ha : L.length ≤ a) : ∀ (d : Nat) (k : Int), Far es g k d → (k, d) ∈ L
  | 0, k, hk => by rw [hk.zero]; exact List.mem_of_getElem? h.root
  | d + 1, k, hk => by
    obtain ⟨b, hb, fb⟩ := hk.next
    have hm := h.all ha d b fb
    obtain ⟨i, hi⟩ := List.getElem?_of_mem hm
    have := (List.getElem?_eq_some_iff.mp hi).1
    have hx := h.shut i _ (by omega) hi (k, b) hb rfl
    obtain ⟨p, hp, e⟩ := List.mem_map.mp hx
    have e2 : p.2 = d + 1 := (h.far p hp).uniq (by rw [e]; exact hk)
    rw [show (k, d + 1) = p from Prod.ext e.symm e2.symm]
    exact hp
/-- all distances -/
structure AllFar (es : List (Int × Int)) (g : Int) (L : Dists) : Prop where
  nd : (L.map (·.1)).Nodup
  iff : ∀ k d, (k, d) ∈ L ↔ Far es g k d
theorem AllFar.len {n : Nat} (h : AllFar es g L) (he : ∀ e ∈ es, InR n e.1 ∧ InR n e.2) (hg : InR n g) : ∀ p ∈ L, InR n p.1 ∧ p.2 + 1 ≤ n := fun p hp => by
  have hf := (h.iff p.1 p.2).mp hp
  exact ⟨hf.inR he hg, hf.le he hg⟩
end
end L3
/-! L3zzl: an order made anew, the first by places again and again; a ring where nothing is free -/
namespace L3
open PySem L2
def nextA (ts : List Str) (es : Ties) (ord : List Str) : Option Str := ((ts.filter fun x => !decide (x ∈ ord)).filter fun x => decide (cntD es ord x = 0)).head?
def Anew (ts : List Str) (es : Ties) (ord : List Str) : Prop := ∀ (i : Nat) x, ord[i]? = some x → nextA ts es (ord.take i) = some x
theorem Anew.snoc {ts : List Str} {es : Ties} {ord : List Str} {x : Str} (h : Anew ts es ord) (hx : nextA ts es ord = some x) : Anew ts es (ord ++ [x]) := by
  intro i y hi
  by_cases hl : i < ord.length
  · rw [List.getElem?_append_left hl] at hi
    rw [List.take_append_of_le_length (by omega)]
    exact h i y hi
  · rw [List.getElem?_append_right (by omega)] at hi
    have h0 : i - ord.length = 0 := by
      have := (List.getElem?_eq_some_iff.mp hi).1
      simp at this
      omega
    rw [h0] at hi
    have e : i = ord.length := by omega
    subst e
    rw [List.take_left]
    cases hi
    exact hx
theorem Anew.uniq {ts : List Str} {es : Ties} {a b : List Str} (ha : Anew ts es a) (hb : Anew ts es b) (hl : a.length = b.length) : a = b := by
  have go : ∀ n, n ≤ a.length → a.take n = b.take n := by
    intro n
    induction n with
    | zero => intro _; simp
    | succ n ih =>
      intro hn
      have e := ih (by omega)
      have h1 : a[n]? = some a[n] := List.getElem?_eq_getElem (by omega)
      have h2 : b[n]? = some b[n] := List.getElem?_eq_getElem (by omega)
      have e1 := ha n _ h1
      have e2 := hb n _ h2
      rw [e] at e1
      rw [L3.take_next h1, L3.take_next h2, e, Option.some.inj (e1.symm.trans e2)]
  have := go a.length (Nat.le_refl _)
  rw [List.take_of_length_le (Nat.le_refl _), hl, List.take_of_length_le (Nat.le_refl _)] at this
  exact this
end L3
/-! L3zzm: a def that stands under another name -/
namespace L3
open PySem L2
end L3
/-! L3zzn: a dict's keys walked in a comprehension that reads the dict; d == {} -/
namespace L3
open PySem L2
end L3
/-! L3zzo: greatest weights of ways: that there are such, from either end the same; weights of one -/
namespace L3
open PySem L2
end L3
/-! L3zzp: two neighbours exchanged; the pairs that stand unlike, counted -/
namespace L3
open PySem L2
end L3
/-! L3zzq: a set's table of up to 2048 slots: what is put in is found again -/
namespace L3
open PySem L2 PySem.Spec PyProof.Rows
/-- which numbers the round meets, as the bits of one number -/
def marks (m : Nat) : Nat → Nat → Nat → Nat
  | 0, _, acc => acc
  | k + 1, x, acc => marks m k ((x * 5 + 1) % (m + 1)) (acc ||| (1 <<< x))
theorem marks_bit (m : Nat) : ∀ (k a acc j : Nat), (marks m k (lcgN m a) acc).testBit j = true → acc.testBit j = true ∨ ∃ b, a ≤ b ∧ b < a + k ∧ lcgN m b = j
  | 0, a, acc, j, h => .inl h
  | k + 1, a, acc, j, h => by
    have h' : (marks m k (lcgN m (a + 1)) (acc ||| (1 <<< lcgN m a))).testBit j = true := h
    rcases marks_bit m k (a + 1) _ j h' with q | ⟨b, b1, b2, b3⟩
    · rw [Nat.testBit_or, Bool.or_eq_true, Nat.one_shiftLeft, Nat.testBit_two_pow] at q
      rcases q with q | q
      · exact .inl q
      · exact .inr ⟨a, Nat.le_refl _, by omega, of_decide_eq_true q⟩
    · exact .inr ⟨b, by omega, by omega, b3⟩
/-- the round by m meets all slots, and comes back -/
structure Rnd (m : Nat) : Prop where
  all : ∀ j, j ≤ m → ∃ b, b ≤ m ∧ lcgN m b = j
  back : lcgN m (m + 1) = 0
  odd : m % 2 = 1
  bd : m ≤ 2047
theorem Rnd.of {m : Nat} (h : marks m (m + 1) 0 0 = 2 ^ (m + 1) - 1) (h2 : lcgN m (m + 1) = 0) (h3 : m % 2 = 1) (h4 : m ≤ 2047) : Rnd m := by
  refine ⟨fun j hj => ?_, h2, h3, h4⟩
  have t : (marks m (m + 1) (lcgN m 0) 0).testBit j = true := by
    show (marks m (m + 1) 0 0).testBit j = true
    rw [h, Nat.testBit_two_pow_sub_one]
    exact decide_eq_true (by omega)
  rcases marks_bit m (m + 1) 0 0 j t with q | ⟨b, _, b2, b3⟩
  · simp at q
  · exact ⟨b, by omega, b3⟩
section
variable {m : Nat}
theorem Rnd.again (r : Rnd m) (k : Nat) : lcgN m (m + 1 + k) = lcgN m k := by
  induction k with
  | zero => exact r.back
  | succ k ih => exact congrArg (fun x => (x * 5 + 1) % (m + 1)) ih
/-- a run that begins at each slot comes soon -/
theorem Rnd.run (r : Rnd m) (h : Int) {j : Nat} (hj : j ≤ m) : ∃ n, n ≤ m + 12 ∧ runI m (SetTable.bits h) n = j := by
  have far : ∃ k, k ≤ m ∧ lcgI m (runI m (SetTable.bits h) 12) k = j := by
    obtain ⟨a, ha, ea⟩ := r.all _ (runI_le m (SetTable.bits h) 12)
    obtain ⟨b, hb, eb⟩ := r.all j hj
    by_cases hab : a ≤ b
    · exact ⟨b - a, by omega, by rw [← ea, lcgN_add, show a + (b - a) = b by omega, eb]⟩
    · exact ⟨m + 1 + b - a, by omega, by rw [← ea, lcgN_add, show a + (m + 1 + b - a) = m + 1 + b by omega, r.again, eb]⟩
  obtain ⟨k, hk, e⟩ := far
  exact ⟨12 + k, by omega, (runI_tail (bits_lt h) k).trans e⟩
theorem way_in (m : Nat) (h : Int) (k : Nat) : way m h k ≤ m := by
  have b0 : SetTable.bits h % (m + 1) ≤ m := Nat.le_of_lt_succ (Nat.mod_lt _ (Nat.succ_pos m))
  obtain ⟨b1, b2, _⟩ := runEnd_bd b0
  have q := nth_in k (runAt m (SetTable.bits h % (m + 1)) (SetTable.bits h)) (show SetTable.bits h % (m + 1) + (SetTable.runEnd m (SetTable.bits h % (m + 1)) - SetTable.bits h % (m + 1)) ≤ m by omega)
  exact Nat.le_trans (Nat.le_add_right _ _) q
end
/-! ### the table as a list of hashes -/
/-- slot by slot a hash; each is come to on its way over slots that are taken -/
structure Tbl (t : SetTable) (hs : List Int) : Prop where
  rnd : Rnd t.mask
  up : Ris t.place.toList
  none_ : t.dummies = #[]
  many : t.place.toList.length = hs.length
  low : ∀ x ∈ t.place.toList, x ≤ t.mask
  met : ∀ (i : Nat) (h : Int) (j : Nat), hs[i]? = some h → t.place.toList[i]? = some j → ∃ k, way t.mask h k = j ∧ ∀ c, c < k → way t.mask h c ∈ t.place.toList
/-! ### laid anew -/
section
variable {m : Nat} {done : List Int} {owner : Array (Option Nat)}
theorem own_more (r : Rnd m) (W : Own m done owner) (room : done.length ≤ m) (h : Int) :
    ∃ j, SetTable.layClean.free m owner (SetTable.turns m) (SetTable.bits h % (m + 1)) (SetTable.bits h) = some j ∧ Own m (done ++ [h]) (owner.setIfInBounds j (some done.length)) := by
  obtain ⟨used, lu, hu⟩ := W.ps
  obtain ⟨e0, h0, n0⟩ := st_missing used (m + 1) (by omega)
  have free0 : oAt owner e0 = none := Classical.byContradiction fun q => n0 (hu e0 (Nat.le_of_lt_succ h0) q)
  obtain ⟨n, hn, en⟩ := r.run h (Nat.le_of_lt_succ h0)
  have ew : way m h (off m (SetTable.bits h % (m + 1)) (SetTable.bits h) n) = e0 := by
    unfold way
    rw [nth_off, itL_run]
    exact en
  have free1 : oAt owner (way m h (off m (SetTable.bits h % (m + 1)) (SetTable.bits h) n)) = none := ew ▸ free0
  obtain ⟨g, g1, g2, g3⟩ := st_least (p := fun c => oAt owner (way m h c) = none) _ free1
  have hj := way_in m h g
  have hlt : way m h g < owner.size := by rw [W.sz]; omega
  have now := oAt_set_self (some done.length) hlt
  refine ⟨way m h g, free_spec m owner _ n _ _ g (by unfold SetTable.turns; omega) g1 (fun c hc => ?_) (by rw [g2]; rfl), ?_⟩
  · cases z : oAt owner (way m h c) with
    | none => exact absurd z (g3 c hc)
    | some _ => rfl
  have still : ∀ i, oAt owner i ≠ none → oAt (owner.setIfInBounds (way m h g) (some done.length)) i ≠ none := fun i hi => by
    by_cases c : i = way m h g
    · rw [c, now]; simp
    · rw [oAt_set_ne _ c]; exact hi
  constructor
  · rw [Array.size_setIfInBounds]; exact W.sz
  · intro j k hj' e
    by_cases c : j = way m h g
    · rw [c, now] at e
      cases e
      exact ⟨h, g, by simp, c.symm, fun q hq => still _ (g3 q hq)⟩
    · rw [oAt_set_ne _ c] at e
      obtain ⟨h', q, a1, a2, a3⟩ := W.at_ j k hj' e
      exact ⟨h', q, by rw [List.getElem?_append_left (List.getElem?_eq_some_iff.mp a1).1]; exact a1, a2, fun q' hq' => still _ (a3 q' hq')⟩
  · intro k hk
    by_cases c : k < done.length
    · obtain ⟨j, j1, j2⟩ := W.all k c
      exact ⟨j, j1, by rw [oAt_set_ne _ (fun z => by rw [z, g2] at j2; cases j2)]; exact j2⟩
    · have : k = done.length := by simp at hk; omega
      exact ⟨_, hj, this ▸ now⟩
  · refine ⟨way m h g :: used, by simp [lu], fun j j1 j2 => ?_⟩
    by_cases c : j = way m h g
    · rw [c]; exact List.mem_cons_self
    · rw [oAt_set_ne _ c] at j2
      exact List.mem_cons_of_mem _ (hu j j1 j2)
theorem own_all (r : Rnd m) : ∀ (rest done : List Int) (owner : Array (Option Nat)), Own m done owner → done.length + rest.length ≤ m →
    ∃ o2, rest.foldl (L2.stepF m) (some (owner, done.length)) = some (o2, (done ++ rest).length) ∧ Own m (done ++ rest) o2 := by
  intro rest
  induction rest with
  | nil => intro done owner W _; exact ⟨owner, by simp, by simpa using W⟩
  | cons h rest ih =>
    intro done owner W hl
    rw [List.length_cons] at hl
    obtain ⟨j, e, W2⟩ := own_more r W (by omega) h
    obtain ⟨o2, f, W3⟩ := ih (done ++ [h]) _ W2 (by simp; omega)
    rw [List.append_assoc] at f W3
    refine ⟨o2, ?_, W3⟩
    rw [List.foldl_cons, L2.stepF_some e]
    simpa using f
theorem laid {hs : Array Int} (r : Rnd m) (hn : hs.size ≤ m) : ∃ owner, SetTable.layClean m hs = some owner ∧ Own m hs.toList owner := by
  obtain ⟨o2, f, W⟩ := own_all r hs.toList [] _ (Own.init m) (by simpa using hn)
  refine ⟨o2, ?_, W⟩
  rw [layClean_eq]
  simp only [List.length_nil] at f
  rw [f]
  rfl
end
end L3
/-! L3zzr: a set of tuples of texts: searched, one more put in, laid anew -/
namespace L3
open PySem L2 PySem.Spec PyProof.Rows
/-- the tuple at a has the texts k; its hash -/
abbrev TupS (P : Program) (w : World) (h : Heap) (k : List Str) (a : Addr) : Prop := IsTupleKey (strKind P w) h k a
abbrev hashS (P : Program) (w : World) (k : List Str) : Int := tupleKeyHash (strKind P w) k
/-! ### the set -/
def rowS (P : Program) (w : World) (p : Addr × List Str) : Int × Value := (hashS P w p.2, Value.ref p.1)
structure PSet (P : Program) (w : World) (h : Heap) (a : Addr) (L : List (Addr × List Str)) (es : Array (Int × Value)) (ep : Nat) (t : SetTable) : Prop where
  at_ : ∃ o, h.get? a = some o ∧ o.ExactSet ∧ o.data = .set es ep t
  rows : es.toList = L.map (rowS P w)
  tbl : Tbl t (L.map fun p => hashS P w p.2)
  nd : (L.map (·.2)).Nodup
  tup : ∀ p ∈ L, TupS P w h p.2 p.1
  msk : t.mask = 7 ∨ t.mask = 31 ∨ t.mask = 127 ∨ t.mask = 511 ∨ t.mask = 2047
  room : L.length * 5 < t.mask * 3
  few : L.length ≤ 1000
section
variable {P : Program} {w : World} {A : Around} {E : Value → Shared → Prop} {s : Shared} {a x : Addr} {k : List Str} {L : List (Addr × List Str)} {es : Array (Int × Value)} {ep : Nat} {t : SetTable}
theorem PSet.size {h : Heap} (R : PSet P w h a L es ep t) : es.size = L.length := by
  rw [← Array.length_toList, R.rows, List.length_map]
theorem PSet.row {h : Heap} (R : PSet P w h a L es ep t) {i : Nat} {p : Addr × List Str} (e : L[i]? = some p) : es[i]? = some (rowS P w p) := by
  rw [← Array.getElem?_toList, R.rows, List.getElem?_map, e]
  rfl
end
end L3
/-! L3zzs: set(xs), xs a list of tuples of texts -/
namespace L3
open PySem L2 PySem.Spec PyProof.Rows
end L3
/-! L3zzt: set(xs), xs a list or a tuple, of texts or of tuples of texts -/
namespace L3
open PySem L2 PySem.Spec PyProof.Rows
def newSetO (led : Bool) : Obj := { cls := .type "set", dict := none, data := .set #[] 0 (.fresh 0 0 led) }
/-- what the loop of set(..) does with a walk over items -/
def LoopOk (P : Program) (w : World) (A : Around) (h0 : Heap) (items : Array Value) (Done : Heap → Addr → Prop) : Prop :=
  ∀ (S it : Addr) (fp wr : List Addr) (St : Nat → Heap → Prop) (s1 : Shared) (R : Result → Shared → Prop), Walks P w A.in1 it fp wr items.size (fun i v => items[i]? = some v) St → S ∉ fp → (∀ b ∈ wr, h0.get? b = none) → h0.get? S = none →
    St 0 s1.heap → (∃ led, s1.heap.get? S = some (newSetO led)) → (∀ b o, h0.get? b = some o → s1.heap.get? b = some o) →
    (∀ s3, Moved (S :: wr) (fun a b => b = a) s1 s3 → Done s3.heap S → (∀ b o, h0.get? b = some o → s3.heap.get? b = some o) → R (.ok (.ret .none)) s3) → codeAny (model P w) A (.builtin "set.update.loop" ⟨[.ref S, .ref it], []⟩) R s1
set_option maxHeartbeats 3200000 in
theorem set_list {P : Program} {w : World} {A : Around} {E : Value → Shared → Prop} {s : Shared} {c : Addr} {items : Array Value} {Q : Value → Shared → Prop} {Done : Heap → Addr → Prop} (calm : A.handled = none) (hc : s.heap.IsList c items)
    (loop : ∀ B : Around, B.handled = none → B.units ≤ A.units + 2 → LoopOk P w B s.heap items Done) (fin : ∀ (h' : Heap) (tk : Nat), Done h' s.heap.objs.size → (∀ b o, s.heap.get? b = some o → h'.get? b = some o) → Q (.ref s.heap.objs.size) { s with heap := h', toks := tk }) :
    wpAny (model P w) A (call (.type "set") [.ref c]) Q E s := by
  obtain ⟨mc, mt, mro⟩ := PySem.F.called_set.mro
  have f1 := PySem.F.called_set.made
  have f2 := PySem.F.called_set.sub
  refine wpAny_call (codeAny_of_tree ?_)
  show wpAny _ _ (callAny (.type "set") _) _ _ s
  refine wpAny_pure ⟨Code.quiet_builtin _ (by decide +kernel), codeAny_builtin PySem.F.entry_type_call ?_⟩
  rw [Around.under_plain (weight_type_call_type "set" [.ref c] []) rfl]
  have f3 := PySem.F.called_set.notType
  have f4 := PySem.F.called_set.canCreate
  have f5 := PySem.F.typeCall_set_1 (.ref c)
  repeat (any_goals (first | assumption | wp_step))
  refine codeAny_mono (code_set_new_1 (.ref c) (E := E) (Q₁ := fun y s1 => ∃ led : Bool, y = .ref s.heap.objs.size ∧ s1 = { s with heap := s.heap.push (newSetO led) }) fun led => ⟨led, rfl, rfl⟩) fun r s1 hr => ?_
  cases r with
  | error e => exact hr
  | ok fl =>
    cases fl with
    | ret y =>
      obtain ⟨led, rfl, rfl⟩ := hr
      have gS : (s.heap.push (newSetO led)).get? s.heap.objs.size = some (newSetO led) := Heap.get?_push_size _ rfl
      have tS : Shared.TypeIs { s with heap := s.heap.push (newSetO led) } (.ref s.heap.objs.size) "set" := ⟨_, gS, rfl⟩
      have f6 := PySem.F.called_set.init.lookup
      have f7 := PySem.F.called_set.init.bind (.ref s.heap.objs.size)
      repeat (any_goals (first | assumption | wp_step))
      refine codeAny_mono (codeAny_call_builtin (R := wants (fun r s2 => r = .none ∧ ∃ h' tk, s2 = { s with heap := h', toks := tk } ∧ Done h' s.heap.objs.size ∧ ∀ b o, s.heap.get? b = some o → h'.get? b = some o) E)
        PySem.F.called_set.init.plain PySem.F.entry_set_init (check_set_init_1 tS ?_)) fun r2 s2 hr2 => ?_
      · obtain ⟨ob, hob, ecl, nl, ed⟩ := hc
        obtain ⟨cls, dc, data, sl⟩ := ob
        have ecl : cls = .type "list" := ecl
        have ed : data = .seq items nl := ed
        subst ecl ed
        have lt : c < s.heap.objs.size := Heap.lt_size hob
        have hob1 : (s.heap.push (newSetO led)).get? c = some { cls := .type "list", dict := dc, data := .seq items nl, slots := sl } := Heap.get?_push_of_some _ hob
        have u1 := PySem.F.sub_list_set
        have u2 := PySem.F.sub_list_frozenset
        have u3 : (Value.type "list" == Value.type "dict") = false := by decide
        have il : (s.heap.push (newSetO led)).IsList c items := ⟨_, hob1, rfl, nl, rfl⟩
        unfold Builtin.«set.__init__» noKeywords Builtin.Frozenset.updateFrom
        generalize hp : pyIter = py
        wp_walk
        subst hp
        refine wpAny_pyIter_list il (wpAny_bind (wpAny_runValue ?_))
        have calm2 : A.in1.in1.handled = none := by simp [calm]
        have calm3 : A.in1.in1.in1.handled = none := by simp [calm]
        have ps : (s.heap.push (newSetO led)).objs.size = s.heap.objs.size + 1 := Heap.size_push ..
        have n1 : c ≠ (s.heap.push (newSetO led)).objs.size := by
          rw [ps]; exact Nat.ne_of_lt (Nat.lt_succ_of_lt lt)
        have n2 : s.heap.objs.size ∉ [(s.heap.push (newSetO led)).objs.size, c] := by
          rw [ps]
          simp only [List.mem_cons, List.not_mem_nil, or_false, not_or]
          exact ⟨Nat.ne_of_lt (Nat.lt_succ_self _), Nat.ne_of_gt lt⟩
        have absent : ∀ b, s.heap.objs.size ≤ b → s.heap.get? b = none := fun b hb => by
          cases q : s.heap.get? b with
          | none => rfl
          | some o => exact absurd (Heap.lt_size q) (Nat.not_lt.mpr hb)
        refine loop A.in1.in1 calm2 (by simp) s.heap.objs.size _ _ _ _ _ _ (Walks.list calm3 _ c n1 items) n2 (fun b hb => absent b (by have e := List.mem_singleton.mp hb; rw [e, ps]; exact Nat.le_succ _)) (absent _ (Nat.le_refl _))
          ⟨⟨_, Heap.get?_push_size _ rfl, rfl, rfl⟩, il.push _⟩ ⟨led, Heap.get?_push_of_some _ gS⟩ (fun b o e => Heap.get?_push_of_some _ (Heap.get?_push_of_some _ e)) fun s3 mv dn kp => ?_
        obtain ⟨h3, gs3, dr3, tk3, os3⟩ := s3
        have m1 : gs3 = s.gens := mv.gens
        have m2 : dr3 = s.drawn := mv.drawn
        have m3 : os3 = s.os := mv.os
        subst m1 m2 m3
        show wpAny _ _ _ _ _ _
        refine wpAny_pure ?_
        show wpAny _ _ (ret Value.none) _ _ _
        exact wpAny_pure ⟨rfl, h3, tk3, rfl, dn, kp⟩
      · cases r2 with
        | error e => exact hr2
        | ok fl2 =>
          cases fl2 with
          | ret r =>
            obtain ⟨rfl, h3, tk3, rfl, dn, kp⟩ := hr2
            repeat (any_goals (first | assumption | wp_step))
            exact fin _ _ dn kp
          | _ => exact hr2.elim
    | _ => exact hr.elim
section
variable {P : Program} {w : World} {A : Around} {h0 : Heap} {ks : List (Addr × List Str)}
theorem TupS.kept {h h' : Heap} {k : List Str} {b : Addr} (x : TupS P w h k b) (hk : ∀ c o, h.get? c = some o → h'.get? c = some o) : TupS P w h' k b := by
  obtain ⟨o, its, n, e, r⟩ := x
  exact ⟨o, its, n, hk b o e, r⟩
theorem PSet.kept {h h' : Heap} {a : Addr} {L : List (Addr × List Str)} {es : Array (Int × Value)} {ep : Nat} {t : SetTable} (R : PSet P w h a L es ep t) (ha : ∀ o, h.get? a = some o → h'.get? a = some o) (ht : ∀ p ∈ L, TupS P w h' p.2 p.1) : PSet P w h' a L es ep t := by
  obtain ⟨o, e, r⟩ := R.at_
  exact ⟨⟨o, ha o e, r⟩, R.rows, R.tbl, R.nd, ht, R.msk, R.room, R.few⟩
end
end L3
/-! L3zzu: len(set(xs)), xs a list or a tuple, of texts or of tuples of texts -/
namespace L3
open PySem L2 PySem.Spec PyProof.Rows
end L3
/-! L3zzv: a def is called to which our own lists are data; what comes back is made of tuples alone -/
namespace L3
open PySem L2
end L3
/-! L3zzw: data of any sort: its type, names, whole numbers, webs -/
namespace L3
open PySem L2
/-- no exception -/
def Usual (d : PyData) : Prop := ∀ u v, d ≠ .dict [(.tuple u, v)]
theorem Usual.ty {l : List O} {d : PyData} (h : Usual d) : TyD l (.f d) (tyF d) := by
  unfold TyD
  split
  · rename_i e
    cases e
    exact absurd rfl (h _ _)
  · rename_i e
    cases e
    rfl
  · rename_i e; cases e
  · rename_i e; cases e
end L3
/-! L3zzx: repr of a tuple with own lists; going along ties of texts; things put to other places -/
namespace L3
open PySem L2
/-- a tuple of own lists as data -/
def AsdT (l : List O) (x : D) (d : PyData) : Prop := ∃ n ys es, x = .own n ∧ l[n]? = some (.tpr ys) ∧ d = .tuple es ∧ Paired (Asd l) ys es
section
variable {K : PySem.W.Frag} {m : List Addr} {B H : Hp} {l : List O} {R : D → List O → Prop}
theorem AsdT.dp (S : SR K m B H l) {v : V} {x : D} {d : PyData} (r : VR K m B v x) (h : AsdT l x d) (nd : d.hasDict = false) : Dp K H v d := by
  obtain ⟨n, ys, es, rfl, hn, rfl, hp⟩ := h
  obtain ⟨a, rfl, ha⟩ := r
  obtain ⟨⟨xs, e, pr⟩, _⟩ := S.obj n a _ ha hn
  exact .tup (SqT.of e) (dps_of S pr hp (by simpa [PyData.hasDict] using nd))
end
theorem GoesS.one {es : List (Str × Str)} {a b : Str} (h : (a, b) ∈ es) : GoesS es a b := .tail (.refl a) h
def swapS (es : List (Str × Str)) : List (Str × Str) := es.map fun e => (e.2, e.1)
theorem mem_swapS {es : List (Str × Str)} {a b : Str} : (a, b) ∈ swapS es ↔ (b, a) ∈ es := by
  unfold swapS
  rw [List.mem_map]
  constructor
  · rintro ⟨⟨x, y⟩, h, e⟩
    cases e
    exact h
  · intro h
    exact ⟨(b, a), h, rfl⟩
theorem GoesS.back {es : List (Str × Str)} {a b : Str} (h : GoesS es a b) : GoesS (swapS es) b a := by
  induction h with
  | refl => exact .refl _
  | tail _ e ih => exact (GoesS.one (mem_swapS.mpr e)).trans ih
theorem goesS_swap {es : List (Str × Str)} {a b : Str} : GoesS (swapS es) a b ↔ GoesS es b a := by
  refine ⟨fun h => ?_, fun h => h.back⟩
  have := h.back
  have e : swapS (swapS es) = es := by
    unfold swapS
    rw [List.map_map]
    exact List.map_id'' (fun _ => rfl) es
  rwa [e] at this
/-! things put to places -/
end L3
/-! L3zzy: the place of a text in a list; slices between places; what goes for a tie, and where -/
namespace L3
open PySem L2
theorem cut_mid (xs : List PyData) {a b : Nat} (ha : a ≤ xs.length) (hb : b ≤ xs.length) : cutD xs (some (a : Int)) (some (b : Int)) = (xs.take b).drop a := by
  have e1 : HT.sIx xs.length 0 (some (a : Int)) = a := by
    show (if ((a : Int)) < 0 then ((a : Int) + (xs.length : Int)).toNat else min (a : Int).toNat xs.length) = _
    rw [if_neg (by omega)]
    omega
  have e2 : HT.sIx xs.length xs.length (some (b : Int)) = b := by
    show (if ((b : Int)) < 0 then ((b : Int) + (xs.length : Int)).toNat else min (b : Int).toNat xs.length) = _
    rw [if_neg (by omega)]
    omega
  unfold cutD
  rw [e1, e2, List.drop_take]
/-! a tie laid into an order -/
/-- an order of things -/
structure OrdOf (ts ord : List Str) : Prop where
  nd : ord.Nodup
  mem : ∀ x, x ∈ ord ↔ x ∈ ts
theorem OrdOf.len {ts ord : List Str} (h : OrdOf ts ord) : ord.length ≤ ts.length := nodup_le h.nd fun x hx => (h.mem x).mp hx
end L3
/-! L3zzz: sorted(xs, key=f), f a def of the text whose answer is a whole number -/
namespace L3
open PySem L2 PySem.Spec PyProof.Rows
section
variable {X : Cx} {pins : List (Addr × Obj)} {σ : L2.St} {H : Hp} {s : Shared}
/-- an address that none of ours speaks of -/
structure Off1 (X : Cx) (pins : List (Addr × Obj)) (b : Addr) : Prop where
  lo : X.s_0.heap.objs.size ≤ b
  nl : b ≠ X.env.locals
  nc : ∀ x c, X.env.cells.lookup x = some c → c ≠ b
  nf : b ∉ X.fs
  np : ∀ p ∈ X.pn ++ pins, p.1 ≠ b
theorem Off1.cons {b c : Addr} {o : Obj} (W : Off1 X pins b) (h : c ≠ b) : Off1 X ((c, o) :: pins) b := ⟨W.lo, W.nl, W.nc, W.nf, fun p hp => by
  rcases List.mem_append.mp hp with hp | hp
  · exact W.np p (List.mem_append_left _ hp)
  · rcases List.mem_cons.mp hp with rfl | hp
    · exact h
    · exact W.np p (List.mem_append_right _ hp)⟩
end
section
variable {X : Cx} {k : Nat} {ps : List Str} {S : Spec3} {x : Str} {p : Pos}
/-- the def's address -/
noncomputable def defA {P : Program} {w : World} {K : PySem.W.Frag} {mg : Str → Option Value} {base : Heap} {k : Nat} {x : Str} {ps : List Str} {S : Spec3} (C : Cal P w K mg base k x ps S) : Addr := C.ex.choose
/-- a def of the text as a value -/
theorem pe_def {K : PySem.W.Frag} (hK : X.K = K) (C : Cal X.prog X.w X.K X.mg X.base k x ps S) (hg : Gl X x) (hdb : (x == ("__debug__" : Str)) = false := by decide) : PE X (.Name x p) (tC (.ref (defA C))) := by
  obtain ⟨fd, hm, _⟩ := C.ex.choose_spec
  exact pe_glob hg hm rfl hdb
end
end L3
/-! L3zzza: sorted(xs, key=f) of our own list of data, by what f tells -/
namespace L3
open PySem L2 PySem.Spec
end L3
/-! L3zzzb: the moves of a tie: each thing of S, its place, the place it gets; by places -/
namespace L3
open PySem L2
end L3
/-! L3zzzc: what holds between two statements that may raise; a fresh list comes back from a def that sees our own lists as data -/
namespace L3
open PySem L2
end L3
/-! L3zzzd: texts parted and joined; how many keys a dict of pairs has -/
namespace L3
open PySem L2 PySem.Spec
/-! a web as a text -/
end L3
/-! L3zzze: any text read as a web: row by row, and at which row it is none -/
namespace L3
open PySem L2
/-! a text read -/
end L3
/-! L3zzzf: a loop within which may be raised -/
namespace L3
open PySem L2
end L3
/-! L3zzzg: how long joined texts are -/
namespace L3
open PySem L2
end L3
/-! L3zzzh: an order into which a tie is laid goes forward -/
namespace L3
open PySem L2
end L3
/-! L3zzzi: len(set(xs)) of unlike numbers; sorted texts; a tuple of own lists turned to data -/
namespace L3
open PySem L2 PySem.Spec PyProof.Rows
end L3
/-! L3zzzj: the two sorts of a tie's things, met place by place -/
namespace L3
open PySem L2
theorem GoesS.first {es : List (Str × Str)} {a c : Str} (h : GoesS es a c) (hne : a ≠ c) : ∃ b, (a, b) ∈ es ∧ GoesS es b c := by
  induction h with
  | refl => exact absurd rfl hne
  | @tail b c h1 h2 ih =>
    by_cases q : a = b
    · subst q
      exact ⟨c, h2, .refl c⟩
    · obtain ⟨d, d1, d2⟩ := ih q
      exact ⟨d, d1, .tail d2 h2⟩
theorem GoesS.last {es : List (Str × Str)} {a c : Str} (h : GoesS es a c) (hne : a ≠ c) : ∃ b, GoesS es a b ∧ (b, c) ∈ es := by
  cases h with
  | refl => exact absurd rfl hne
  | tail h1 h2 => exact ⟨_, h1, h2⟩
end L3
/-! L3zzzk: what goes back goes back at least one place, what goes forward one forward -/
namespace L3
open PySem L2
end L3
/-! L3zzzl: a sorted list of texts is one alone; sorted of numbers and of texts in one def -/
namespace L3
open PySem L2 PySem.Spec PyProof.Rows
end L3
/-! L3zzzm: own objects within own objects, seen as data by a callee or an operator -/
namespace L3
open PySem L2
mutual
/-- what an own object is as data, however deep -/
inductive ViewN (l : List O) : D → PyData → Prop
  | f (d : PyData) : ViewN l (.f d) d
  | lst {n : Nat} {ds : List PyData} : l[n]? = some (.lst ds) → ViewN l (.own n) (.list ds)
  | rfs {n : Nat} {ds : List D} {fs : List PyData} : l[n]? = some (.rfs ds) → ViewNs l ds fs → ViewN l (.own n) (.list fs)
  | tpr {n : Nat} {ds : List D} {fs : List PyData} : l[n]? = some (.tpr ds) → ViewNs l ds fs → ViewN l (.own n) (.tuple fs)
inductive ViewNs (l : List O) : List D → List PyData → Prop
  | nil : ViewNs l [] []
  | cons {d : D} {ds : List D} {x : PyData} {xs : List PyData} : ViewN l d x → ViewNs l ds xs → ViewNs l (d :: ds) (x :: xs)
end
section
variable {K : PySem.W.Frag} {m m' m2 : List Addr} {B B' B2 H H' H2 : Hp} {l l' : List O} {σ : St} {ρ : List (Option D)} {R R' : D → List O → Prop} {E E' : E3} {ta tb te tc tl : TE} {tt tu : TT} {t u : TS} {ty tz : TA}
theorem ViewNs.append : ∀ {ds es : List D} {xs ys : List PyData}, ViewNs l ds xs → ViewNs l es ys → ViewNs l (ds ++ es) (xs ++ ys)
  | [], _, _, _, h, h' => by cases h; exact h'
  | _ :: _, _, _, _, h, h' => by
    cases h with
    | cons h1 h2 => exact .cons h1 (ViewNs.append h2 h')
mutual
theorem ViewN.up (e : ∀ (n : Nat) (o : O), l[n]? = some o → l'[n]? = some o) : ∀ (x : PyData) (d : D), ViewN l d x → ViewN l' d x
  | .list fs, d, h => by
    cases h with
    | f _ => exact .f _
    | lst h1 => exact .lst (e _ _ h1)
    | rfs h1 h2 => exact .rfs (e _ _ h1) (ViewNs.up e fs _ h2)
  | .tuple fs, d, h => by
    cases h with
    | f _ => exact .f _
    | tpr h1 h2 => exact .tpr (e _ _ h1) (ViewNs.up e fs _ h2)
  | .none, d, h => by cases h; exact .f _
  | .bool _, d, h => by cases h; exact .f _
  | .int _, d, h => by cases h; exact .f _
  | .str _, d, h => by cases h; exact .f _
  | .dict _, d, h => by cases h; exact .f _
theorem ViewNs.up (e : ∀ (n : Nat) (o : O), l[n]? = some o → l'[n]? = some o) : ∀ (xs : List PyData) (ds : List D), ViewNs l ds xs → ViewNs l' ds xs
  | [], _, h => by cases h; exact .nil
  | x :: xs, _, h => by
    cases h with
    | cons h1 h2 => exact .cons (ViewN.up e x _ h1) (ViewNs.up e xs _ h2)
end
mutual
theorem viewN_of (S : SR K m B H l) : ∀ (x : PyData) (v : V) (d : D), VR K m B v d → ViewN l d x → FR K (seenB m B H) v x
  | .list fs, v, d, r, h => by
    cases h with
    | f _ => exact FR.same (seen_same S) _ _ r
    | @lst n ds h1 =>
      obtain ⟨a, rfl, ha⟩ := r
      obtain ⟨⟨xs, e, q⟩, _⟩ := S.obj n a _ ha h1
      refine .lst (xs := xs) ?_ (FRs.same (seen_same S) _ _ q)
      unfold seenB
      rw [if_pos (List.mem_of_getElem? ha), e]
    | @rfs n ds fs h1 h2 =>
      obtain ⟨a, rfl, ha⟩ := r
      obtain ⟨⟨xs, e, q⟩, _⟩ := S.obj n a _ ha h1
      refine .lst (xs := xs) ?_ (viewsN_of S fs _ _ q h2)
      unfold seenB
      rw [if_pos (List.mem_of_getElem? ha), e]
  | .tuple fs, v, d, r, h => by
    cases h with
    | f _ => exact FR.same (seen_same S) _ _ r
    | @tpr n ds fs h1 h2 =>
      obtain ⟨a, rfl, ha⟩ := r
      obtain ⟨⟨xs, e, q⟩, _⟩ := S.obj n a _ ha h1
      refine .tup (xs := xs) (.inl ?_) (viewsN_of S fs _ _ q h2)
      unfold seenB
      rw [if_pos (List.mem_of_getElem? ha), e]
  | .none, v, d, r, h => by cases h; exact FR.same (seen_same S) _ _ r
  | .bool _, v, d, r, h => by cases h; exact FR.same (seen_same S) _ _ r
  | .int _, v, d, r, h => by cases h; exact FR.same (seen_same S) _ _ r
  | .str _, v, d, r, h => by cases h; exact FR.same (seen_same S) _ _ r
  | .dict _, v, d, r, h => by cases h; exact FR.same (seen_same S) _ _ r
theorem viewsN_of (S : SR K m B H l) : ∀ (xs : List PyData) (vs : List V) (ds : List D), Paired (VR K m B) vs ds → ViewNs l ds xs → FRs K (seenB m B H) vs xs
  | [], _, _, r, h => by cases h; cases r; exact .nil
  | x :: xs, _, _, r, h => by
    cases h with
    | cons h1 h2 =>
      cases r with
      | cons r1 r2 => exact .cons (viewN_of S x _ _ r1 h1) (viewsN_of S xs _ _ r2 h2)
end
theorem seen_sub (S : SR K m B H l) : Same (seenB m B H) H := fun b o e => by
  unfold seenB at e
  split at e
  · exact e
  · exact S.sub b o e
/-- own objects are data to an operator -/
theorem ViewN.dp (S : SR K m B H l) {v : V} {x : D} {d : PyData} (r : VR K m B v x) (h : ViewN l x d) (nd : d.hasDict = false) : Dp K H v d :=
  FR.dp _ _ nd (FR.same (seen_sub S) _ _ (viewN_of S d v x r h))
end
end L3
/-! L3zzzn: dicts whose values may be references; the pen as a dict -/
namespace L3
open PySem L2
section
variable {K : PySem.W.Frag} {m m' m2 : List Addr} {B B' B2 H H' H2 : Hp} {l l' : List O} {σ : St} {ρ : List (Option D)} {R R' : D → List O → Prop} {E E' : E3} {ta tb te tc tl : TE} {tt tu : TT} {t u : TS} {ty tz : TA}
/-- dicts as they stand in the store, and as the frame sees them -/
def PG (K : PySem.W.Frag) (m : List Addr) (B : Hp) : List (Key × V) → List (Key × D) → Prop := Paired (fun (p : Key × V) (q : Key × D) => p.1 = q.1 ∧ VR K m B p.2 q.2)
end
/-- the pen as a dict -/
def penG (s : List Int) (at_ dg : Int) : O := .dctD [(.inr "script", .sq s), (.inr "at", .f (.int at_)), (.inr "left", .f (.int dg))]
structure IsPenG (o : O) : Prop where
  ex : ∃ s at_ dg, o = penG s at_ dg ∧ s.length ≤ 63 ∧ 0 ≤ at_ ∧ 0 ≤ dg
theorem IsPenG.under {o : O} {k : Nat} (h : IsPenG o) : o.under k := by
  obtain ⟨s, a, b, rfl, _⟩ := h.ex
  intro p hp
  simp only [List.mem_cons, List.not_mem_nil, or_false] at hp
  rcases hp with rfl | rfl | rfl <;> trivial
theorem IsPenG.free {o : O} (h : IsPenG o) : o.free := by
  obtain ⟨s, a, b, rfl, _⟩ := h.ex
  trivial
theorem IsPenG.shift1 {o : O} (h : IsPenG o) (i k : Nat) : o.shift1 i k = o := by
  obtain ⟨s, a, b, rfl, _⟩ := h.ex
  rfl
theorem IsPenG.shift {o : O} (h : IsPenG o) (k : Nat) : o.shift k = o := by
  obtain ⟨s, a, b, rfl, _⟩ := h.ex
  rfl
def S_drawG : Spec3 := fun ds g R => ∃ o most, ds = [.own 0, .f (.int most)] ∧ g = [o] ∧ IsPenG o ∧ 0 < most ∧ most < 1073741824 ∧ ∀ r o', 0 ≤ r → r < most → IsPenG o' → R (.f (.int r)) [o']
section
variable {K : PySem.W.Frag} {m m1 : List Addr} {B H : Hp} {l : List O} {σ : St} {ρ : List (Option D)} {R : D → List O → Prop} {ty : TA}
theorem e_drawG (i : Nat) {X : XK} (h : EvA K ty ρ l fun ds l1 => ∃ most o, ds = [.own i, .f (.int most)] ∧ l1[i]? = some o ∧ IsPenG o ∧ 0 < most ∧ most < 1073741824 ∧ ∀ r o', 0 ≤ r → r < most → IsPenG o' → R (.f (.int r)) (l1.set i o')) :
    EvS K (tCall (P3 K S_drawG) [] X ty) ρ l R := e_call1 i fun m B H σ S e Q q => h m B H σ S e Q fun vs m' B' H' ds l' s S' r z => q vs m' B' H' ds l' s S' r (by
  obtain ⟨most, o, rfl, ho, hp, h1, h2, z⟩ := z
  refine ⟨o, [.own 0, .f (.int most)], ho, hp.free, by simp [backs], o, most, rfl, rfl, hp, h1, h2, fun r o' h3 h4 h5 => ⟨o', [], rfl, ?_⟩⟩
  rw [h5.shift1]
  have w := z r o' h3 h4 h5
  rw [List.map_nil, List.append_nil]
  exact w)
/-! dict displays with references -/
end
/-! a, b = a list with references -/
end L3
/-! L3zzzo: knots that grow in a store of lists -/
namespace L3
open PySem L2
/-- the pen at 0, the list of knots at 3, how deep they are at 4; each knot a list of its name and its own list -/
structure TreeG (l : List O) (ks : Knots) (ps : List (Nat × Nat)) (kvs : List (Key × PyData)) (o : O) : Prop where
  pen : l[0]? = some o
  isp : IsPenG o
  rfs : l[3]? = some (.rfs (ps.map fun p => D.own p.1))
  dct : l[4]? = some (.dct kvs)
  nd : (ps.map (·.2)).Nodup
  ne : ∀ p ∈ ps, p.1 ≠ 3
  len : ps.length = ks.length
  at_ : ∀ (i : Nat) p k, ps[i]? = some p → ks[i]? = some k → l[p.1]? = some (.rfs [.f (.str k.1), .own p.2]) ∧ l[p.2]? = some (.lst (sPy k.2))
theorem IsPenG.form {o : O} (h : IsPenG o) : ∃ ds, o = .dctD ds := by
  obtain ⟨s, a, b, rfl, _⟩ := h
  exact ⟨_, rfl⟩
section
variable {l : List O} {ks : Knots} {ps : List (Nat × Nat)} {kvs kvs' : List (Key × PyData)} {o o2 : O}
theorem TreeG.knot (h : TreeG l ks ps kvs o) {i : Nat} {k : Str × List Str} (hk : ks[i]? = some k) : ∃ p, ps[i]? = some p := by
  have hi := (List.getElem?_eq_some_iff.mp hk).1
  exact ⟨ps[i]'(by rw [h.len]; exact hi), List.getElem?_eq_getElem _⟩
theorem TreeG.take1 (h : TreeG l ks ps kvs o) : l.take 1 = [o] := by
  have e := h.pen
  cases l with
  | nil => simp at e
  | cons a l => simp at e; subst e; rfl
theorem TreeG.drawn (h : TreeG l ks ps kvs o) (h2 : IsPenG o2) : TreeG (l.set 0 o2) ks ps kvs o2 := by
  obtain ⟨d1, e1⟩ := h.isp.form
  exact {
    pen := set_get_eq h.pen
    isp := h2
    rfs := by rw [List.getElem?_set_ne (by decide)]; exact h.rfs
    dct := by rw [List.getElem?_set_ne (by decide)]; exact h.dct
    nd := h.nd
    ne := h.ne
    len := h.len
    at_ := fun i p k a b => by
      obtain ⟨g1, g2⟩ := h.at_ i p k a b
      exact ⟨set_get_ne h.pen g1 (by rw [e1]; nofun), set_get_ne h.pen g2 (by rw [e1]; nofun)⟩ }
theorem TreeG.lev (h : TreeG l ks ps kvs o) : TreeG (l.set 4 (.dct kvs')) ks ps kvs' o where
  pen := by rw [List.getElem?_set_ne (by decide)]; exact h.pen
  isp := h.isp
  rfs := by rw [List.getElem?_set_ne (by decide)]; exact h.rfs
  dct := set_get_eq h.dct
  nd := h.nd
  ne := h.ne
  len := h.len
  at_ := fun i p k a b => by
    obtain ⟨g1, g2⟩ := h.at_ i p k a b
    exact ⟨set_get_ne h.dct g1 nofun, set_get_ne h.dct g2 nofun⟩
theorem TreeG.put (h : TreeG l ks ps kvs o) {i : Nat} {p : Nat × Nat} {k : Str} {xs ys : List Str} (hp : ps[i]? = some p) (hk : ks[i]? = some (k, xs)) : TreeG (l.set p.2 (.lst (sPy ys))) (ks.set i (k, ys)) ps kvs o := by
  obtain ⟨d1, e1⟩ := h.isp.form
  obtain ⟨b1, b2⟩ := h.at_ i p _ hp hk
  have hlt : i < ks.length := (List.getElem?_eq_some_iff.mp hk).1
  exact {
    pen := set_get_ne b2 h.pen (by rw [e1]; nofun)
    isp := h.isp
    rfs := set_get_ne b2 h.rfs nofun
    dct := set_get_ne b2 h.dct nofun
    nd := h.nd
    ne := h.ne
    len := by rw [List.length_set]; exact h.len
    at_ := fun n q k' a b => by
      by_cases e : n = i
      · subst e
        rw [hp] at a
        cases a
        rw [List.getElem?_set_self hlt] at b
        cases b
        exact ⟨set_get_ne b2 b1 nofun, set_get_eq b2⟩
      · rw [List.getElem?_set_ne (fun q => e q.symm)] at b
        obtain ⟨g1, g2⟩ := h.at_ n q k' a b
        refine ⟨set_get_ne b2 g1 nofun, ?_⟩
        rw [List.getElem?_set_ne]
        · exact g2
        · intro e2
          have z1 : (ps.map (·.2))[n]? = some q.2 := by rw [List.getElem?_map, a]; rfl
          have z2 : (ps.map (·.2))[i]? = some q.2 := by rw [List.getElem?_map, hp, ← e2]; rfl
          obtain ⟨l1, c1⟩ := List.getElem?_eq_some_iff.mp z1
          obtain ⟨l2, c2⟩ := List.getElem?_eq_some_iff.mp z2
          apply e
          rw [← h.nd.idxOf_getElem n l1, ← h.nd.idxOf_getElem i l2, c1, c2] }
theorem TreeG.group (h : TreeG l ks ps kvs o) {x : Str} : TreeG ((l ++ [O.lst [], O.rfs [D.f (.str x), D.own l.length]]).set 3 (O.rfs (ps.map (fun p => D.own p.1) ++ [.own (l.length + 1)]))) (ks ++ [(x, [])]) (ps ++ [(l.length + 1, l.length)]) kvs o := by
  obtain ⟨d1, e1⟩ := h.isp.form
  have h4 := (List.getElem?_eq_some_iff.mp h.dct).1
  have up : ∀ {i : Nat} {y : O}, l[i]? = some y → (l ++ [O.lst [], O.rfs [D.f (.str x), D.own l.length]])[i]? = some y := fun e => by
    rw [List.getElem?_append_left (List.getElem?_eq_some_iff.mp e).1]; exact e
  have n1 : (l ++ [O.lst [], O.rfs [D.f (.str x), D.own l.length]])[l.length]? = some (.lst []) := by rw [List.getElem?_append_right (Nat.le_refl _), Nat.sub_self]; rfl
  have n2 : (l ++ [O.lst [], O.rfs [D.f (.str x), D.own l.length]])[l.length + 1]? = some (.rfs [.f (.str x), .own l.length]) := by rw [List.getElem?_append_right (by omega), Nat.add_sub_cancel_left]; rfl
  exact {
    pen := by rw [List.getElem?_set_ne (by decide)]; exact up h.pen
    isp := h.isp
    rfs := by rw [List.map_append]; exact set_get_eq (up h.rfs)
    dct := by rw [List.getElem?_set_ne (by decide)]; exact up h.dct
    nd := by
      rw [List.map_append]
      refine List.nodup_append.mpr ⟨h.nd, by simp, fun a ha b hb e => ?_⟩
      have hb : b = l.length := List.mem_singleton.mp hb
      subst hb e
      obtain ⟨q, hq, e⟩ := List.mem_map.mp ha
      obtain ⟨n, hn⟩ := List.getElem?_of_mem hq
      have hl : n < ks.length := by rw [← h.len]; exact (List.getElem?_eq_some_iff.mp hn).1
      have g := (h.at_ n q _ hn (List.getElem?_eq_getElem hl)).2
      have := (List.getElem?_eq_some_iff.mp g).1
      omega
    ne := fun p hp => by
      rcases List.mem_append.mp hp with hp | hp
      · exact h.ne p hp
      · cases List.mem_singleton.mp hp
        show l.length + 1 ≠ 3
        omega
    len := by rw [List.length_append, List.length_append, h.len]; rfl
    at_ := fun n q k' a b => by
      have key : (ps[n]? = some q ∧ ks[n]? = some k') ∨ (q = (l.length + 1, l.length) ∧ k' = (x, [])) := by
        rcases Nat.lt_or_ge n ps.length with c | c
        · rw [List.getElem?_append_left c] at a
          rw [List.getElem?_append_left (by rw [← h.len]; exact c)] at b
          exact .inl ⟨a, b⟩
        · rw [List.getElem?_append_right c] at a
          rw [List.getElem?_append_right (by rw [← h.len]; exact c), ← h.len] at b
          have e : n - ps.length = 0 := by
            have := (List.getElem?_eq_some_iff.mp a).1
            simp at this
            omega
          rw [e] at a b
          cases a
          cases b
          exact .inr ⟨rfl, rfl⟩
      rcases key with ⟨a, b⟩ | ⟨rfl, rfl⟩
      · obtain ⟨g1, g2⟩ := h.at_ n q k' a b
        refine ⟨?_, set_get_ne (up h.rfs) (up g2) nofun⟩
        rw [List.getElem?_set_ne fun e => h.ne q (List.mem_of_getElem? a) e.symm]
        exact up g1
      · refine ⟨?_, set_get_ne (up h.rfs) n1 nofun⟩
        rw [List.getElem?_set_ne (show 3 ≠ l.length + 1 by omega)]
        exact n2 }
end
end L3
/-! L3zzzp: tuples, plain or not, read alike; houses of such -/
namespace L3
open PySem L2
/-! houses -/
end L3
/-! L3zzzq: dict(knots)[k], of knots plain or not within -/
namespace L3
open PySem L2
end L3
/-! L3zzzr: tuples of texts that stand in the globals; isinstance of a list or a tuple, either way; defs that aren't reached -/
namespace L3
open PySem L2
end L3
/-! L3zzzs: what is told of houses, and houses with knots told anew, as plain lists -/
namespace L3
open PySem L2
end L3
/-! L3zzzt: d.get(k, x); dict(knots).get(k, ()) -/
namespace L3
open PySem L2
end L3
/-! L3zzzu: plain tuples put together and cut are plain -/
namespace L3
open PySem L2 PySem.Spec PyProof.Rows
end L3
/-! L3zzzv: two tuples with something in them put together are a plain one -/
namespace L3
open PySem L2 PySem.Spec PyProof.Rows
end L3
/-! L3zzzw: a call whose arguments may raise -/
namespace L3
open PySem L2
end L3
/-! L3zzzx: list.pop(i) -/
namespace L3
open PySem L2
end L3
/-! L3zzzy: sorted pairs of texts -/
namespace L3
open PySem L2 PySem.Spec PyProof.Rows
end L3
/-! L3zzzz: a dict beside other data: never equal -/
namespace L3
open PySem PySem.Calls PyProof.Rows PyProof.V PySem.Spec PySem.SeqAt PySem.W
end L3
/-! L3zzzza: data of any sort, dicts of nothing or of one text too: ==, in -/
namespace L3
open PySem L2 PySem.SeqAt
end L3
/-! L3zzzzb: data of any sort, small enough to be shown; what is told of its type -/
namespace L3
open PySem L2
def OddL (n k : Nat) (ds : List PyData) : Prop := briefQs (unplAll ds) = true ∧ wtQs (unplAll ds) ≤ n ∧ PyData.depthAll (unplAll ds) ≤ k
def Odd (n k : Nat) (d : PyData) : Prop := briefQ (unpl d) = true ∧ wtQ (unpl d) ≤ n ∧ (unpl d).depth ≤ k
theorem unplAll_app (a b : List PyData) : unplAll (a ++ b) = unplAll a ++ unplAll b := by
  induction a with
  | nil => rfl
  | cons x xs ih =>
    show unpl x :: unplAll (xs ++ b) = unpl x :: (unplAll xs ++ unplAll b)
    rw [ih]
theorem briefQs_app (a b : List PyData) : briefQs (a ++ b) = (briefQs a && briefQs b) := by
  induction a with
  | nil => simp [briefQs]
  | cons x xs ih =>
    show (briefQ x && briefQs (xs ++ b)) = ((briefQ x && briefQs xs) && briefQs b)
    rw [ih, Bool.and_assoc]
theorem wtQs_app (a b : List PyData) : wtQs (a ++ b) = wtQs a + wtQs b := by
  induction a with
  | nil => simp [wtQs]
  | cons x xs ih =>
    show wtQ x + 2 + wtQs (xs ++ b) = wtQ x + 2 + wtQs xs + wtQs b
    rw [ih]
    omega
theorem depthAll_app (a b : List PyData) : PyData.depthAll (a ++ b) = max (PyData.depthAll a) (PyData.depthAll b) := by
  induction a with
  | nil => simp [PyData.depthAll]
  | cons x xs ih =>
    show max x.depth (PyData.depthAll (xs ++ b)) = max (max x.depth (PyData.depthAll xs)) (PyData.depthAll b)
    rw [ih, Nat.max_assoc]
theorem OddL.nil (n k : Nat) : OddL n k [] := ⟨rfl, Nat.zero_le _, Nat.zero_le _⟩
theorem OddL.app {n m k : Nat} {a b : List PyData} (h1 : OddL n k a) (h2 : OddL m k b) : OddL (n + m) k (a ++ b) := by
  obtain ⟨a1, a2, a3⟩ := h1
  obtain ⟨b1, b2, b3⟩ := h2
  refine ⟨by rw [unplAll_app, briefQs_app, a1, b1]; rfl, by rw [unplAll_app, wtQs_app]; omega, by rw [unplAll_app, depthAll_app]; exact Nat.max_le.mpr ⟨a3, b3⟩⟩
theorem OddL.cons {n m k : Nat} {d : PyData} {ds : List PyData} (h1 : Odd n k d) (h2 : OddL m k ds) : OddL (n + 2 + m) k (d :: ds) := by
  obtain ⟨a1, a2, a3⟩ := h1
  obtain ⟨b1, b2, b3⟩ := h2
  refine ⟨?_, ?_, ?_⟩
  · show (briefQ (unpl d) && briefQs (unplAll ds)) = true
    rw [a1, b1]; rfl
  · show wtQ (unpl d) + 2 + wtQs (unplAll ds) ≤ _
    omega
  · show max (unpl d).depth (PyData.depthAll (unplAll ds)) ≤ k
    exact Nat.max_le.mpr ⟨a3, b3⟩
theorem OddL.one {n k : Nat} {d : PyData} (h : Odd n k d) : OddL (n + 2) k [d] := OddL.cons h (OddL.nil 0 k)
theorem OddL.mono {n m k j : Nat} {ds : List PyData} (h : OddL n k ds) (h1 : n ≤ m) (h2 : k ≤ j) : OddL m j ds := ⟨h.1, Nat.le_trans h.2.1 h1, Nat.le_trans h.2.2 h2⟩
theorem Odd.mono {n m k j : Nat} {d : PyData} (h : Odd n k d) (h1 : n ≤ m) (h2 : k ≤ j) : Odd m j d := ⟨h.1, Nat.le_trans h.2.1 h1, Nat.le_trans h.2.2 h2⟩
theorem OddL.mem {n k : Nat} {ds : List PyData} (h : OddL n k ds) {d : PyData} (hd : d ∈ ds) : Odd n k d := by
  induction ds with
  | nil => cases hd
  | cons x xs ih =>
    obtain ⟨b1, b2, b3⟩ := h
    have c1 : briefQ (unpl x) = true ∧ briefQs (unplAll xs) = true := by simpa [unplAll, briefQs] using b1
    have c2 : wtQ (unpl x) + 2 + wtQs (unplAll xs) ≤ n := b2
    have c3 : max (unpl x).depth (PyData.depthAll (unplAll xs)) ≤ k := b3
    have c4 := Nat.max_le.mp c3
    rcases List.mem_cons.mp hd with rfl | hd
    · exact ⟨c1.1, by omega, c4.1⟩
    · exact ih ⟨c1.2, by omega, c4.2⟩ hd
theorem OddL.list {n k : Nat} {ds : List PyData} (h : OddL n k ds) : Odd (n + 3) (k + 1) (.list ds) := by
  obtain ⟨b1, b2, b3⟩ := h
  refine ⟨?_, ?_, ?_⟩
  · simpa [unpl, briefQ] using b1
  · simp only [unpl, wtQ]; omega
  · simp only [unpl, PyData.depth]; omega
theorem OddL.tuple {n k : Nat} {ds : List PyData} (h : OddL n k ds) : Odd (n + 3) (k + 1) (.tuple ds) := by
  obtain ⟨b1, b2, b3⟩ := h
  refine ⟨?_, ?_, ?_⟩
  · simpa [unpl, briefQ] using b1
  · simp only [unpl, wtQ]; omega
  · simp only [unpl, PyData.depth]; omega
theorem Odd.none {k : Nat} : Odd 5 k .none := ⟨rfl, Nat.le_refl _, Nat.zero_le _⟩
theorem Odd.bool {k : Nat} (b : Bool) : Odd 5 k (.bool b) := ⟨rfl, Nat.le_refl _, Nat.zero_le _⟩
theorem Odd.int {k : Nat} {i : Int} (h : i.natAbs < 10 ^ 40) : Odd 42 k (.int i) := ⟨by simpa [unpl, briefQ, brief] using h, Nat.le_refl _, Nat.zero_le _⟩
theorem Odd.str {k : Nat} {x : Str} (h : PyData.strOk x = true) : Odd (10 * x.length + 2) k (.str x) := ⟨by simpa [unpl, briefQ, brief] using h, Nat.le_refl _, Nat.zero_le _⟩
theorem Odd.dict {k : Nat} : Odd 5 (k + 1) (.dict []) := ⟨rfl, by decide, by simp [unpl, PyData.depth, PyData.depthKv]⟩
/-- of a sort that is told by its type -/
theorem ty_odd {d : PyData} (h : briefQ (unpl d) = true) (l : List O) : TyD l (.f d) (tyF d) := by
  cases d with
  | none => rfl
  | bool _ => rfl
  | int _ => rfl
  | str _ => rfl
  | list _ => rfl
  | tuple _ => rfl
  | dict kvs =>
    cases kvs with
    | nil => rfl
    | cons p r =>
      obtain ⟨k, v⟩ := p
      cases r with
      | cons q r => cases k <;> rfl
      | nil =>
        cases k with
        | none => rfl
        | bool _ => rfl
        | int _ => rfl
        | str _ => rfl
        | list _ => rfl
        | dict _ => rfl
        | tuple xs =>
          simp [unpl, briefQ, briefK, keyOkQ] at h
theorem ty_one (d : PyData) : tyF d = "NoneType" ∨ tyF d = "bool" ∨ tyF d = "int" ∨ tyF d = "str" ∨ tyF d = "list" ∨ tyF d = "tuple" ∨ tyF d = "dict" := by
  unfold tyF
  split <;> simp
theorem kit_ty {d : PyData} (n : String) (hn : n = "list" ∨ n = "str" ∨ n = "tuple") : kitB (tyF d) n = some (decide (tyF d = n)) := by
  rcases hn with rfl | rfl | rfl <;> rcases ty_one d with h | h | h | h | h | h | h <;> rw [h] <;> decide +kernel
end L3
/-! L3zzzzc: comprehensions over enumerate, items by number, lengths of joined texts -/
namespace L3
open PySem L2
end L3
/-! L3zzzzd: a, b = a list of data -/
namespace L3
open PySem L2
end L3
/-! L3zzzze: exchanges of numbers; comprehensions over a range told by a function; a local list becomes data; str(int); the place of a number -/
namespace L3
open PySem L2
/-! exchanges of numbers -/
def exI (ys : List Int) (i : Nat) : List Int := ys.take i ++ [ys.getD (i + 1) 0, ys.getD i 0] ++ ys.drop (i + 2)
def ledI : List Int → List Nat → List Int
  | ys, [] => ys
  | ys, i :: is => ledI (exI ys i) is
def tiedI (es : List (Int × Int)) (a b : Int) : Bool := decide ((a, b) ∈ es) || decide ((b, a) ∈ es)
def FreeI (es : List (Int × Int)) : List Int → List Nat → Prop
  | _, [] => True
  | ys, i :: is => (i + 1 < ys.length ∧ tiedI es (ys.getD i 0) (ys.getD (i + 1) 0) = false) ∧ FreeI es (exI ys i) is
theorem FreeI.app {es : List (Int × Int)} : ∀ {a b : List Nat} {ys : List Int}, FreeI es ys (a ++ b) ↔ FreeI es ys a ∧ FreeI es (ledI ys a) b
  | [], b, ys => by simp [FreeI, ledI]
  | i :: a, b, ys => by
    show (_ ∧ FreeI es (exI ys i) (a ++ b)) ↔ (_ ∧ FreeI es (exI ys i) a) ∧ FreeI es (ledI (exI ys i) a) b
    rw [FreeI.app]
    exact and_assoc.symm
end L3
/-! L3zzzzf: xs[a:c] = ys, c perhaps beyond the end -/
namespace L3
open PySem L2
end L3
/-! L3zzzzg: data of any sort != [] -/
namespace L3
open PySem L2 PySem.SeqAt
end L3
/-! L3zzzzh: a text times a number -/
namespace L3
open PySem L2 PySem.SeqAt
end L3
/-! L3zzzzi: try .. except X: without a name -/
namespace L3
open PySem L2 PySem.Spec PyProof.Rows
end L3
/-! L3zzzzj: len(set(xs)) of any numbers -/
namespace L3
open PySem L2 PySem.Spec PyProof.Rows
end L3
/-! L3zzzzk: sorted(xs) of a tuple of texts -/
namespace L3
open PySem L2 PySem.Spec PyProof.Rows
end L3
/-! L3zzzzl: a def that keeps one promise where it doesn't raise, another one where it raises; a loop whose row raises; own dicts as data of which nothing more is told -/
namespace L3
open PySem L2 PySem.Spec PyProof.Rows
/-- the type of data is told -/
def TyOk (d : PyData) : Prop := ∀ l : List O, TyD l (.f d) (tyF d)
theorem TyOk.odd {d : PyData} (h : briefQ (unpl d) = true) : TyOk d := ty_odd h
theorem TyOk.any : TyOk anyD := fun _ => rfl
theorem TyOk.int (i : Int) : TyOk (.int i) := fun _ => rfl
end L3
/-! L3zzzzm: two defs that call one another; data without plain tuples; deeds as data of any sort -/
namespace L3
open PySem L2 PySem.Spec PyProof.Rows
mutual
/-- no plain tuple is in it -/
def npB : PyData → Bool
  | .list xs => npAll xs
  | .tuple xs => npAll xs
  | .dict [(.none, _)] => false
  | _ => true
def npAll : List PyData → Bool
  | [] => true
  | x :: xs => npB x && npAll xs
end
theorem npAll_mem : ∀ {ds : List PyData}, npAll ds = true → ∀ d ∈ ds, npB d = true
  | [], _, _, h => by cases h
  | x :: xs, h, d, hd => by
    have h : npB x = true ∧ npAll xs = true := by simpa [npAll] using h
    rcases List.mem_cons.mp hd with rfl | hd
    · exact h.1
    · exact npAll_mem h.2 d hd
/-- whatever may be looked at: small, without plain tuples -/
structure AnyD (n : Nat) (d : PyData) : Prop where
  odd : Odd n 30 d
  np : npB d = true
structure AnyL (n : Nat) (ds : List PyData) : Prop where
  odd : OddL n 30 ds
  np : npAll ds = true
theorem AnyL.mem {n : Nat} {ds : List PyData} (h : AnyL n ds) {d : PyData} (hd : d ∈ ds) : AnyD n d := ⟨h.odd.mem hd, npAll_mem h.np d hd⟩
theorem oddL_len {n k : Nat} : ∀ {ds : List PyData}, OddL n k ds → 2 * ds.length ≤ n := by
  intro ds
  induction ds generalizing n with
  | nil => exact fun _ => Nat.zero_le _
  | cons d ds ih =>
    intro h
    obtain ⟨h1, h2, h3⟩ := h
    have h1 : briefQ (unpl d) = true ∧ briefQs (unplAll ds) = true := by
      have : briefQs (unpl d :: unplAll ds) = true := h1
      simpa [briefQs] using this
    have h2 : wtQ (unpl d) + 2 + wtQs (unplAll ds) ≤ n := h2
    have h3 : max (unpl d).depth (PyData.depthAll (unplAll ds)) ≤ k := by
      have : PyData.depthAll (unpl d :: unplAll ds) ≤ k := h3
      simpa [PyData.depthAll] using this
    have := ih (n := wtQs (unplAll ds)) ⟨h1.2, Nat.le_refl _, by omega⟩
    rw [List.length_cons]
    omega
theorem AnyL.len {n : Nat} {ds : List PyData} (h : AnyL n ds) : 2 * ds.length ≤ n := oddL_len h.odd
theorem AnyD.ty {n : Nat} {d : PyData} (h : AnyD n d) : TyOk d := .odd h.odd.1
theorem AnyD.mono {n m : Nat} {d : PyData} (h : AnyD n d) (hm : n ≤ m) : AnyD m d := ⟨h.odd.mono hm (Nat.le_refl _), h.np⟩
theorem AnyL.mono {n m : Nat} {ds : List PyData} (h : AnyL n ds) (hm : n ≤ m) : AnyL m ds := ⟨h.odd.mono hm (Nat.le_refl _), h.np⟩
end L3
/-! L3zzzzn: x.replace(a, b, 1) of written texts: some text not much longer; list displays that begin with a written text plus one. -/
namespace PySem
open Builtin Builtin.Str
end PySem
namespace L3
open PySem PySem.Spec PyProof.Rows L2 CwR
end L3
/-! L3zzzzo: defs that are called within an except suite (they neither loop nor raise): CalW, ok4W, pe_calW -/
namespace L3
open PySem L2 PySem.Spec PyProof.Rows
/-- room for k more levels, whatever is handled -/
structure RoomW (k : Nat) (A : Around) : Prop where
  r : L2H.RoomH k A
  g : A.guards = some []
theorem RoomG.w {k : Nat} {A : Around} (h : RoomG k A) : RoomW k A := ⟨L2H.roomH_of h.r, h.g⟩
theorem RoomW.mono {j k : Nat} {A : Around} (h : RoomW k A) (hjk : j ≤ k) : RoomW j A := ⟨h.r.mono hjk, h.g⟩
theorem RoomW.units {k : Nat} {A : Around} (h : RoomW k A) : A.units + 64 < cLine := by have := h.r.un; omega
theorem RoomW.un {k : Nat} {A : Around} (h : RoomW k A) : A.units + 16 * k + 200 < cLine := h.r.un
theorem RoomW.one {k : Nat} {A : Around} (h : RoomW k A) : A.units + 1 < cLine := by have := h.r.un; omega
end L3
/-! L3zzzzp: list(enumerate(xs)), list(zip(xs, ys)): the pairs that an iterator gives, kept in a list -/
namespace L3
open PySem L2 PySem.Spec PyProof.Rows
/-- pairs laid one behind the other -/
inductive Prs (f : Nat → List V) : Nat → Hp → List V → Hp → Prop
  | nil {H : Hp} : Prs f 0 H [] H
  | snoc {i : Nat} {H H' : Hp} {vs : List V} {T : Addr} : Prs f i H vs H' → H' T = none → Prs f (i + 1) H (vs ++ [.ref T]) (upd H' T (.tup (f i)))
theorem Prs.same {f : Nat → List V} {i : Nat} {H H' : Hp} {vs : List V} (h : Prs f i H vs H') : Same H H' := by
  induction h with
  | nil => exact Same.refl _
  | snoc _ hn ih => exact ih.trans (same_new hn)
theorem Prs.len {f : Nat → List V} {i : Nat} {H H' : Hp} {vs : List V} (h : Prs f i H vs H') : vs.length = i := by
  induction h with
  | nil => rfl
  | snoc _ hn ih => rw [List.length_append, ih]; rfl
/-! ### list(enumerate(xs)), list(zip(xs, ys)) -/
end L3
/-! L3zzzzq: a list == [], != []: by its length alone -/
namespace L3
open PySem L2 PySem.SeqAt
def rNil (K : PySem.W.Frag) (neg : Bool) : R2 := fun x y H Q => ∃ a b xs, x = .ref a ∧ y = .ref b ∧ SqL K H a xs ∧ SqL K H b [] ∧ Q (.bl (if neg then !xs.isEmpty else xs.isEmpty)) H
section
variable {X : Cx}
theorem u_eq0 {K : PySem.W.Frag} (hK : X.K = K) (hu : X.A.units + 64 < cLine) : OpR X (compareOp .Eq) (rNil K false) := by
  subst hK
  intro pins s σ H x y v u Q I rx ry h
  obtain ⟨a, b, xs, rfl, rfl, h1, h2, q⟩ := h
  cases rx; cases ry
  obtain ⟨us, r1, p1, _⟩ := I.list h1
  obtain ⟨ws, r2, p2, _⟩ := I.list h2
  have z1 : xs.length = us.toArray.size := by rw [List.size_toArray]; exact r1.length
  have z2 : ws.toArray.size = 0 := by rw [List.size_toArray]; exact r2.length.symm
  by_cases c : xs = []
  · subst c
    have z0 : us.toArray.size = 0 := z1.symm
    refine RcAt.lists (e := fun _ => true) p1.isList p2.isList (by rw [z0, z2]) (by omega) (fun j i1 i2 => absurd i2 (by rw [z2]; omega)) X.prog X.w X.xe _ ?_
    rw [z0]
    exact ⟨.bl _, H, I, rfl, q⟩
  · have hl : 0 < xs.length := List.length_pos_iff.mpr c
    refine RcAt.lists_lengths p1.isList p2.isList (bne_iff_ne.mpr (by rw [z2]; omega)) (by omega) X.prog X.w X.xe _ ?_
    have e : xs.isEmpty = false := by cases xs with
      | nil => exact absurd rfl c
      | cons a b => rfl
    rw [e] at q
    exact ⟨.bl _, H, I, rfl, q⟩
end
section
variable {K : PySem.W.Frag} {m : List Addr} {B H : Hp} {l : List O} {R : D → List O → Prop}
theorem o_nil {neg : Bool} {x : D} {ds : List PyData} (h1 : IsL l x ds) (z : R (.f (.bool (if neg then !ds.isEmpty else ds.isEmpty))) l) : OpS K (rNil K neg) x (.f (.list [])) l R := fun m B H vx vy S r1 r2 Q q => by
  obtain ⟨a, xs, e1, e2, pr⟩ := h1.at S r1
  cases r2 with
  | lst g1 g2 =>
    cases g2
    have e : xs.isEmpty = ds.isEmpty := by
      have := pr.length
      cases xs <;> cases ds <;> first | rfl | (simp at this)
    refine ⟨a, _, xs, e1, rfl, SqL.of e2, SqL.of (S.sub _ _ g1), ?_⟩
    rw [e]
    exact retF S q (FR.bl _) z
end
end L3
/-! L3zzzzr: x.upper(), bool(i) -/
namespace L3
open PySem L2 PySem.Spec
end L3
/-! L3zzzzs: try with several clauses, the first of which names what comes -/
namespace L3
open PySem L2 PySem.Spec PyProof.Rows
end L3
/-! L3zzzzt: what was made as own objects, however deep, becomes data -/
namespace L3
open PySem L2
section
variable {K : PySem.W.Frag} {m m' : List Addr} {B B' H H' : Hp} {l l' : List O} {σ : St} {ρ : List (Option D)} {R : D → List O → Prop} {te : TE} {k : Nat}
theorem drop_at {n : Nat} {a : Addr} (h : m[n]? = some a) (hk : k ≤ n) : a ∈ m.drop k := by
  refine List.mem_of_getElem? (i := n - k) ?_
  rw [List.getElem?_drop, show k + (n - k) = n by omega]
  exact h
theorem seenK_same (S : SR K m B H l) : Same B (seenB (m.drop k) B H) := fun b o e => by
  unfold seenB
  split
  · exact S.sub b o e
  · exact e
theorem seenK_sub (S : SR K m B H l) : Same (seenB (m.drop k) B H) H := fun b o e => by
  unfold seenB at e
  split at e
  · exact e
  · exact S.sub b o e
mutual
theorem viewK_of (S : SR K m B H l) (hl : ∀ (n : Nat) (o : O), l'[n]? = some o → o ≠ .gone → k ≤ n ∧ l[n]? = some o) : ∀ (x : PyData) (v : V) (d : D), VR K m B v d → ViewN l' d x → FR K (seenB (m.drop k) B H) v x
  | .list fs, v, d, r, h => by
    cases h with
    | f _ => exact FR.same (seenK_same S) _ _ r
    | @lst n ds h1 =>
      obtain ⟨hk, h1⟩ := hl _ _ h1 (by simp)
      obtain ⟨a, rfl, ha⟩ := r
      obtain ⟨⟨xs, e, q⟩, _⟩ := S.obj n a _ ha h1
      refine .lst (xs := xs) ?_ (FRs.same (seenK_same S) _ _ q)
      unfold seenB
      rw [if_pos (drop_at ha hk), e]
    | @rfs n ds fs h1 h2 =>
      obtain ⟨hk, h1⟩ := hl _ _ h1 (by simp)
      obtain ⟨a, rfl, ha⟩ := r
      obtain ⟨⟨xs, e, q⟩, _⟩ := S.obj n a _ ha h1
      refine .lst (xs := xs) ?_ (viewsK_of S hl fs _ _ q h2)
      unfold seenB
      rw [if_pos (drop_at ha hk), e]
  | .tuple fs, v, d, r, h => by
    cases h with
    | f _ => exact FR.same (seenK_same S) _ _ r
    | @tpr n ds fs h1 h2 =>
      obtain ⟨hk, h1⟩ := hl _ _ h1 (by simp)
      obtain ⟨a, rfl, ha⟩ := r
      obtain ⟨⟨xs, e, q⟩, _⟩ := S.obj n a _ ha h1
      refine .tup (xs := xs) (.inl ?_) (viewsK_of S hl fs _ _ q h2)
      unfold seenB
      rw [if_pos (drop_at ha hk), e]
  | .none, v, d, r, h => by cases h; exact FR.same (seenK_same S) _ _ r
  | .bool _, v, d, r, h => by cases h; exact FR.same (seenK_same S) _ _ r
  | .int _, v, d, r, h => by cases h; exact FR.same (seenK_same S) _ _ r
  | .str _, v, d, r, h => by cases h; exact FR.same (seenK_same S) _ _ r
  | .dict _, v, d, r, h => by cases h; exact FR.same (seenK_same S) _ _ r
theorem viewsK_of (S : SR K m B H l) (hl : ∀ (n : Nat) (o : O), l'[n]? = some o → o ≠ .gone → k ≤ n ∧ l[n]? = some o) : ∀ (xs : List PyData) (vs : List V) (ds : List D), Paired (VR K m B) vs ds → ViewNs l' ds xs → FRs K (seenB (m.drop k) B H) vs xs
  | [], _, _, r, h => by cases h; cases r; exact .nil
  | x :: xs, _, _, r, h => by
    cases h with
    | cons h1 h2 =>
      cases r with
      | cons r1 r2 => exact .cons (viewK_of S hl x _ _ r1 h1) (viewsK_of S hl xs _ _ r2 h2)
end
/-- what an expression makes becomes data, all that was made on the way is let go -/
theorem e_frzA (h : EvS K te ρ l fun d l1 => ∃ n x l', d = .own n ∧ (∀ (n : Nat) (o : O), l'[n]? = some o → o ≠ .gone → l.length ≤ n ∧ l1[n]? = some o) ∧ ViewN l' (.own n) x ∧ (∀ o ∈ l1.take l.length, o.under l.length) ∧ R (.f x) (l1.take l.length)) : EvS K te ρ l R := fun m B H σ S e Q q => by
  refine h m B H σ S e _ fun v m1 B1 H1 d l1 s1 S1 r1 ⟨n, x, l', ed, hl, hv, hu, z⟩ => ?_
  subst ed
  have fr := viewK_of S1 hl x v _ r1 hv
  have Sc := S1.cut l.length hu
  have e12 : Same B1 (seenB (m1.drop l.length) B1 H1) := seenK_same S1
  have nd : ∀ a, a ∈ m1.take l.length → a ∉ m1.drop l.length := fun a h1 h2 => by
    have := S1.nd
    rw [← List.take_append_drop l.length m1, List.nodup_append] at this
    exact this.2.2 a h1 a h2 rfl
  have S2 : SR K (m1.take l.length) (seenB (m1.drop l.length) B1 H1) H1 (l1.take l.length) := by
    refine ⟨seenK_sub S1, Sc.len, Sc.nd, Sc.live, fun i a o h1 h2 => ?_⟩
    obtain ⟨r, c⟩ := Sc.obj i a o h1 h2
    refine ⟨r.up e12 ⟨[], by simp⟩ fun u e => e, fun ho => ?_⟩
    unfold seenB
    rw [if_neg (nd a (List.mem_of_getElem? h1))]
    exact c ho
  have sc := s1.cut S1 (k := l.length) (by rw [S.len]; exact Nat.le_refl _)
  have s2 : Step m B H (m1.take l.length) (seenB (m1.drop l.length) B1 H1) H1 := by
    refine ⟨s1.sub.trans e12, sc.pre, s1.keep, s1.live, fun a h1 h2 h3 => ?_, sc.new⟩
    unfold seenB
    by_cases hd : a ∈ m1.drop l.length
    · rcases s1.new a (List.mem_of_mem_drop hd) with c | c
      · exact absurd c h3
      · exact absurd c h1.1
    · rw [if_neg hd]
      exact s1.sep a h1 h2 h3
  exact q v _ _ _ (.f x) _ s2 S2 fr z
end
end L3
/-! L3zzzzu: a list that an expression made becomes data, what was made on the way is let go; sorted of texts or pairs of texts, in lists and tuples -/
namespace L3
open PySem L2 PySem.Spec PyProof.Rows
section
variable {K : PySem.W.Frag} {l : List O} {ρ : List (Option D)} {R : D → List O → Prop} {te : TE}
theorem e_frzL (h : EvS K te ρ l fun d l1 => ∃ n ds, d = .own n ∧ l.length ≤ n ∧ l1[n]? = some (.lst ds) ∧ (∀ o ∈ l1.take l.length, o.under l.length) ∧ R (.f (.list ds)) (l1.take l.length)) : EvS K te ρ l R :=
  e_frzA (h.imp fun d l1 ⟨n, ds, e, hn, h1, hu, z⟩ => by
    have hg : (List.replicate n O.gone ++ [O.lst ds])[n]? = some (.lst ds) := by
      rw [List.getElem?_append_right (by rw [List.length_replicate]; exact Nat.le_refl _), List.length_replicate, Nat.sub_self]
      rfl
    refine ⟨n, .list ds, List.replicate n .gone ++ [.lst ds], e, fun k o hk ho => ?_, .lst hg, hu, z⟩
    by_cases c : k < n
    · rw [List.getElem?_append_left (by rw [List.length_replicate]; exact c), List.getElem?_replicate, if_pos c] at hk
      exact absurd (Option.some.inj hk).symm ho
    · have hl := (List.getElem?_eq_some_iff.mp hk).1
      rw [List.length_append, List.length_replicate] at hl
      have e2 : k = n := by have : k < n + 1 := hl; omega
      subst e2
      rw [hg] at hk
      exact ⟨hn, h1.trans hk⟩)
end
end L3
/-! L3zzzzv: the text of data is of real signs -/
namespace L3
open PySem L2 PySem.Spec PyProof.Rows
def OkT (x : Str) : Prop := ∀ c ∈ x.cps.toList, c < 0x110000
theorem OkT.ok {x : Str} (h : OkT x) : PyData.strOk x = true := by
  unfold PyData.strOk
  rw [Array.all_eq_true']
  intro c hc
  exact decide_eq_true (h c (by simpa using hc))
theorem OkT.app {x y : Str} (h1 : OkT x) (h2 : OkT y) : OkT (x ++ y) := fun c h => by
  have h : c ∈ (x.cps ++ y.cps).toList := h
  rw [Array.toList_append] at h
  rcases List.mem_append.mp h with h | h
  · exact h1 c h
  · exact h2 c h
end L3
/-! L3zzzzw: a def taken out of a list of three is called; zip of two lists or of two tuples -/
namespace L3
open PySem L2 PySem.Spec PyProof.Rows
/-- one of three defs, told by a number, is called -/
def tPick (K : PySem.W.Frag) (a1 a2 a3 : Addr) (S1 S2 S3 : Spec3) (ti : TE) (ty : TA) : TE := fun σ H Q =>
  tOp (rIxU K) (tLst (tCons (tC (.ref a1)) (tCons (tC (.ref a2)) (tCons (tC (.ref a3)) tNil)))) ti σ H fun v H1 =>
    (v = .ref a1 ∧ tCall (P3 K S1) [] E0 ty σ H1 Q) ∨ (v = .ref a2 ∧ tCall (P3 K S2) [] E0 ty σ H1 Q) ∨ (v = .ref a3 ∧ tCall (P3 K S3) [] E0 ty σ H1 Q)
section
variable {X : Cx} {k1 k2 k3 : Nat} {ps1 ps2 ps3 : List Str} {S1 S2 S3 : Spec3} {x1 x2 x3 : Str} {p1 p2 p3 pl pp pos : Pos} {ix e : Expr} {es : List Expr} {t : TA} {ti : TE}
theorem pe_pick {K : PySem.W.Frag} (hK : X.K = K) (hu : X.A.units + 1 < cLine) (C1 : Cal X.prog X.w X.K X.mg X.base k1 x1 ps1 S1) (C2 : Cal X.prog X.w X.K X.mg X.base k2 x2 ps2 S2) (C3 : Cal X.prog X.w X.K X.mg X.base k3 x3 ps3 S3)
    (r1 : RoomG k1 X.A) (r2 : RoomG k2 X.A) (r3 : RoomG k3 X.A) (g1 : Gl X x1) (g2 : Gl X x2) (g3 : Gl X x3) (hi : PE X ix ti) (hs : PlainIx ix) (ha : PA X (e :: es) t)
    (d1 : (x1 == ("__debug__" : Str)) = false := by decide) (d2 : (x2 == ("__debug__" : Str)) = false := by decide) (d3 : (x3 == ("__debug__" : Str)) = false := by decide)
    (na : starEach [.Name x1 p1, .Name x2 p2, .Name x3 p3] X.env = [(false, eval (.Name x1 p1) X.env), (false, eval (.Name x2 p2) X.env), (false, eval (.Name x3 p3) X.env)] := by rfl)
    (he : starEach (e :: es) X.env = (false, eval e X.env) :: starEach es X.env := by rfl) (hpl : (backTo pos (starEach es X.env)).any (·.1) = false := by rfl) :
    PE X (.Call (.Subscript (.List [.Name x1 p1, .Name x2 p2, .Name x3 p3] pl) ix pp) (e :: es) [] pos) (tPick K (defA C1) (defA C2) (defA C3) S1 S2 S3 ti t) := by
  subst hK
  constructor
  intro pins s σ H Q I h
  have hf := pe_ix (pos := pp) (u_ix (X := X) rfl hu) (pe_lst (pos := pl) (pa_cons (pe_def (p := p1) rfl C1 g1 d1) (pa_cons (pe_def (p := p2) rfl C2 g2 d2) (pa_cons (pe_def (p := p3) rfl C3 g3 d3) pa_nil)))) hi hs
  show wpAny _ _ (eval (.Subscript (.List [.Name x1 p1, .Name x2 p2, .Name x3 p3] pl) ix pp) X.env >>= fun f => callWith pos f [] (backTo pos (starEach (e :: es) X.env)) []) _ _ s
  refine wpAny_bind (thn (hf.run pins s σ H _ I h) fun u s1 ⟨v, H1, I1, ru, q⟩ => ?_)
  have go : ∀ {k : Nat} {x : Str} {ps : List Str} {S : Spec3} (C : Cal X.prog X.w X.K X.mg X.base k x ps S), RoomG k X.A → tCall (P3 X.K S) [] E0 t σ H1 Q → v = .ref (defA C) → wpAny (model X.prog X.w) X.A (callWith pos u [] (backTo pos (starEach (e :: es) X.env)) []) (fun u s' => ∃ v H', Inv X pins σ H' s' ∧ RelV v u ∧ Q v H') X.xe s1 := by
    clear q
    intro k x ps S C hr q ev
    subst ev
    obtain rfl : u = Value.ref (defA C) := ru
    obtain ⟨fd, hm, hk, hb, F⟩ := C.ex.choose_spec
    refine PySem.W.callWith_K (h₀ := X.base) I1.ok.mod.kin hk (thn (ha.run pos pins s1 σ H1 _ I1 q) ?_) he hpl
    rintro us s2 ⟨vs, H2, I2, r, q⟩
    refine ⟨I2.kIn, wpAny_call ?_⟩
    rw [List.append_nil] at q
    have hl : us.length = ps.length := by rw [← r.length]; exact F.size q
    have b := hb s2 us I2.kIn (by rw [List.append_nil]; exact hl)
    rw [List.append_nil] at b
    refine codeAny_mono (F.go hr I2.env0 b r q) ?_
    intro res s3 z
    match res, z with
    | .error _, z => exact z.elim
    | .ok (.ret u), z => exact I2.after z
  rcases q with ⟨ev, q⟩ | ⟨ev, q⟩ | ⟨ev, q⟩
  · exact go C1 r1 q ev
  · exact go C2 r2 q ev
  · exact go C3 r3 q ev
end
section
variable {K : PySem.W.Frag} {l : List O} {ρ : List (Option D)} {R : D → List O → Prop} {ti : TE} {ty : TA} {S1 S2 S3 : Spec3} {a1 a2 a3 : Addr}
theorem e_pick (h : EvS K ti ρ l fun d l1 => ∃ i : Int, d = .f (.int i) ∧ ((i = 0 ∧ EvS K (tCall (P3 K S1) [] E0 ty) ρ l1 R) ∨ (i = 1 ∧ EvS K (tCall (P3 K S2) [] E0 ty) ρ l1 R) ∨ (i = 2 ∧ EvS K (tCall (P3 K S3) [] E0 ty) ρ l1 R))) : EvS K (tPick K a1 a2 a3 S1 S2 S3 ti ty) ρ l R := fun m B H σ S e Q q => by
  show tOp (rIxU K) (tLst (tCons (tC (.ref a1)) (tCons (tC (.ref a2)) (tCons (tC (.ref a3)) tNil)))) ti σ H _
  refine ⟨by show 3 ≤ sizeLine; decide, fun p hp => ?_⟩
  obtain ⟨S', s1, hb⟩ := S.allocF (u := .lst [.ref a1, .ref a2, .ref a3]) hp
  refine h m _ _ σ S' (e.step s1) _ fun v m2 B2 H2 d l2 s2 S2' r2 ⟨i, ed, hi⟩ => ?_
  subst ed
  have hv := int_of r2
  subst hv
  have hl : SqL K H2 p [.ref a1, .ref a2, .ref a3] := SqL.of (S2'.sub _ _ (s2.sub _ _ hb))
  rcases hi with ⟨rfl, z⟩ | ⟨rfl, z⟩ | ⟨rfl, z⟩
  · exact .inl (.inl ⟨p, _, 0, .ref a1, rfl, rfl, hl, rfl, .inl ⟨rfl, z m2 B2 H2 σ S2' (e.step (s1.trans s2)) Q (q.step (s1.trans s2))⟩⟩)
  · exact .inl (.inl ⟨p, _, 1, .ref a2, rfl, rfl, hl, rfl, .inr (.inl ⟨rfl, z m2 B2 H2 σ S2' (e.step (s1.trans s2)) Q (q.step (s1.trans s2))⟩)⟩)
  · exact .inl (.inl ⟨p, _, 2, .ref a3, rfl, rfl, hl, rfl, .inr (.inr ⟨rfl, z m2 B2 H2 σ S2' (e.step (s1.trans s2)) Q (q.step (s1.trans s2))⟩)⟩)
end
section
variable {X : Cx} {pos p tpos : Pos}
theorem u_zipA {K : PySem.W.Frag} (hK : X.K = K) {e e2 : Expr} {ta : TA} {elts : List Expr} {kk : Nat} (hg : Gl X "zip") (hm : X.mg "zip" = none) (ha : PA X [e, e2] ta)
    (hs : starEach [e, e2] X.env = (false, eval e X.env) :: starEach [e2] X.env := by rfl) (hpl : (backTo pos (starEach [e2] X.env)).any (·.1) = false := by rfl) :
    PI X (.Tuple elts kk tpos) (.Call (.Name "zip" p) [e, e2] [] pos) (RZ.iZipA K ta) := by
  subst hK
  exact RZ.pi_zipA hg hm ha hs hpl
end
section
variable {K : PySem.W.Frag} {l : List O} {ρ : List (Option D)} {ty : TA}
theorem i_zipAL {R : (List O → Prop) → Nat → (Nat → D) → List O → Prop} (h : EvA K ty ρ l fun zs l1 => ∃ x y ds es, zs = [x, y] ∧ ((IsL l1 x ds ∧ IsL l1 y es ∧ R (fun l' => IsL l' x ds ∧ IsL l' y es) (min ds.length es.length) (fun i => .f (zipD ds es i)) l1) ∨
    (x = .f (.tuple ds) ∧ y = .f (.tuple es) ∧ R (fun _ => True) (min ds.length es.length) (fun i => .f (zipD ds es i)) l1))) : EvI K (RZ.iZipA K ty) ρ l R := fun m B H σ S e Rt q => by
  refine h m B H σ S e _ fun vs m1 B1 H1 zs l1 s1 S1 r1 ⟨x, y, ds, es, exs, hz⟩ => ?_
  subst exs
  cases r1 with
  | cons r1 rr =>
  cases rr with
  | cons r2 rr =>
    cases rr
    rcases hz with ⟨hL, hL2, z⟩ | ⟨rfl, rfl, z⟩
    · obtain ⟨a, us, rfl, e2, qq⟩ := hL.at S1 r1
      obtain ⟨b, us2, rfl, e2', qq2⟩ := hL2.at S1 r2
      refine ⟨a, b, us, us2, rfl, .inl ⟨SqL.of e2, SqL.of e2', q (Itz K a b) m1 B1 H1 l1 _ _ _ s1 S1 (fun i m' B' H' l' hs hp S' P => ?_) z⟩⟩
      obtain ⟨a', ws, ea, e3, q3⟩ := P.1.at S' (r1.up hs hp)
      cases ea
      obtain ⟨b', ws2, ea, e3', q3'⟩ := P.2.at S' (r2.up hs hp)
      cases ea
      have hl := q3.length
      have hl2 := q3'.length
      refine ⟨fun hi => ?_, fun hi => ⟨ws, ws2, SqL.of e3, SqL.of e3', by omega⟩⟩
      have hi1 : i < ds.length := by omega
      have hi2 : i < es.length := by omega
      have hd : ds[i]? = some ds[i] := by simp [hi1]
      have hd2 : es[i]? = some es[i] := by simp [hi2]
      obtain ⟨v, hv, rv⟩ := q3.get hd
      obtain ⟨v2, hv2, rv2⟩ := q3'.get hd2
      refine ⟨⟨ws, ws2, v, v2, SqL.of e3, SqL.of e3', hv, hv2⟩, fun y H3 ⟨T, w, w2, ey, hT, eH, hy, hy2⟩ => ?_⟩
      subst ey eH
      have := hy ws (SqL.of e3)
      rw [hv] at this; cases this
      have := hy2 ws2 (SqL.of e3')
      rw [hv2] at this; cases this
      obtain ⟨S3, s3, e4⟩ := S'.allocF (u := .tup [v, v2]) hT
      refine ⟨_, s3, S3, ?_⟩
      show FR K _ (.ref T) (zipD ds es i)
      unfold zipD
      rw [List.getD_eq_getElem?_getD, hd, List.getD_eq_getElem?_getD, hd2]
      exact .tup (.inl e4) (.cons (FR.same s3.sub _ _ rv) (.cons (FR.same s3.sub _ _ rv2) .nil))
    · cases r1 with
      | @tup a us _ h1 q1 =>
      cases r2 with
      | @tup b us2 _ h2 q2 =>
      refine ⟨a, b, us, us2, rfl, .inr ⟨sqT_same S1.sub h1.sq, sqT_same S1.sub h2.sq, q (RZ.ItzT K a b) m1 B1 H1 l1 _ _ _ s1 S1 (fun i m' B' H' l' hs hp S' _ => ?_) z⟩⟩
      have g1 := sqT_same S'.sub (sqT_same hs h1.sq)
      have g2 := sqT_same S'.sub (sqT_same hs h2.sq)
      have hl := q1.length
      have hl2 := q2.length
      refine ⟨fun hi => ?_, fun hi => ⟨us, us2, g1, g2, by omega⟩⟩
      have hi1 : i < ds.length := by omega
      have hi2 : i < es.length := by omega
      have hd : ds[i]? = some ds[i] := by simp [hi1]
      have hd2 : es[i]? = some es[i] := by simp [hi2]
      obtain ⟨v, hv, rv⟩ := q1.get hd
      obtain ⟨v2, hv2, rv2⟩ := q2.get hd2
      refine ⟨⟨us, us2, v, v2, g1, g2, hv, hv2⟩, fun y H3 ⟨T, w, w2, ey, hT, eH, hy, hy2⟩ => ?_⟩
      subst ey eH
      have := hy us g1
      rw [hv] at this; cases this
      have := hy2 us2 g2
      rw [hv2] at this; cases this
      obtain ⟨S3, s3, e4⟩ := S'.allocF (u := .tup [v, v2]) hT
      refine ⟨_, s3, S3, ?_⟩
      show FR K _ (.ref T) (zipD ds es i)
      unfold zipD
      rw [List.getD_eq_getElem?_getD, hd, List.getD_eq_getElem?_getD, hd2]
      exact .tup (.inl e4) (.cons (FR.same s3.sub _ _ (FR.same hs _ _ rv)) (.cons (FR.same s3.sub _ _ (FR.same hs _ _ rv2)) .nil))
end
end L3
namespace Qk44
open PySem L3
open L2 hiding take_next mem_ins len_ins stepF stepF_some
def top (i : Nat) : Stmt := PySem.Challenge.pw_orderkeep_k44_rings_looked_at.main.body.getD i (.Pass ⟨0, 0, 0, 0⟩)
local macro_rules
  | `(tactic| walk_at "c") => `(tactic| first
    | decide
    | assumption
    | omega
    | (dsimp only; omega)
    | exact Or.inr ⟨by decide, by decide⟩
    | exact Or.inl ⟨by decide, by decide⟩
    | (refine Or.inl ⟨?_, ?_⟩ <;> omega)
    | (refine Or.inr ⟨?_, ?_⟩ <;> omega)
    | (refine And.intro ?_ ?_ <;> omega))
local macro_rules
  | `(tactic| walk_at "e") => `(tactic| first
    | ((with_reducible refine' e_var ?hv ?_); (case hv => exact rfl))
    | with_reducible refine' e_int ?_
    | with_reducible refine' e_op ?_
    | with_reducible refine' e_cb ?_
    | with_reducible refine' a_cons ?_
    | with_reducible refine' a_nil ?_
    | with_reducible refine' e_str ?_
    | with_reducible refine' e_bl ?_
    | with_reducible refine' e_non ?_
    | with_reducible refine' t_test ?_
    | with_reducible refine' t_B ?_
    | with_reducible refine' t_and ?_
    | with_reducible refine' t_or ?_
    | with_reducible refine' t_not ?_
    | with_reducible refine' t_yes ?_
    | with_reducible refine' e_un ?_
    | with_reducible refine' e_andV ?_
    | with_reducible refine' e_orV ?_
    | with_reducible refine' e_notV ?_
    | with_reducible refine' e_tIf ?_
    | with_reducible refine' e_m1 ?_
    | with_reducible refine' e_sl ?_
    | with_reducible refine' e_dK ?_
    | with_reducible refine' e_dT ?_
    | with_reducible refine' o_none ?_
    | with_reducible refine' o_some ?_
    | with_reducible refine' iteT ?_
    | with_reducible refine' iteF ?_
    | with_reducible refine' iteNT ?_
    | with_reducible refine' iteNF ?_
    | with_reducible refine' Exists.intro _ (And.intro (rfl : D.f (PyData.bool _) = D.f (PyData.bool _)) ?_)
    | with_reducible refine' Exists.intro _ (And.intro (rfl : D.f (PyData.int _) = D.f (PyData.int _)) ?_)
    | with_reducible refine' Exists.intro _ (And.intro (rfl : [D.f (PyData.int _)] = [D.f (PyData.int _)]) ?_)
    | ((with_reducible refine' Exists.intro _ (And.intro (?hz : unF _ = some _) ?_)); (case hz => exact rfl))
    | ((with_reducible refine' And.intro ?ha ?_); (case ha => first | decide | exact Nat.le_of_ble_eq_true rfl))
    | with_reducible refine' And.intro (Exists.intro _ rfl) ?_
    | with_reducible refine' o_addI ?_
    | with_reducible refine' o_I0i ?_
    | with_reducible refine' o_I0b ?_
    | with_reducible refine' o_isN ?_
    | with_reducible refine' o_notN ?_
    | with_reducible refine' o_eqI ?_
    | with_reducible refine' o_neI ?_
    | with_reducible refine' o_eqS ?_
    | with_reducible refine' o_neS ?_
    | ((with_reducible refine' o_Ii ?hc ?_); (case hc => walk_at "c"))
    | ((with_reducible refine' o_mulI ?hc ?_); (case hc => walk_at "c"))
    | ((with_reducible refine' o_ixR ?ha ?hb ?_); (case ha => exact rfl); (case hb => exact rfl))
    | ((with_reducible refine' o_ixQ isq_tup ?hb ?_); (case hb => exact rfl))
    | ((with_reducible refine' o_ixQ isq_list ?hb ?_); (case hb => exact rfl))
    | ((with_reducible refine' o_ixQ (isq_own ?hn) ?hb ?_); (case hn => exact rfl); (case hb => exact rfl))
    | with_reducible refine' o_ipI ?_
    | with_reducible refine' c_abs ?_
    | with_reducible refine' c_min2 ?_
    | with_reducible refine' c_max2 ?_
    | with_reducible refine' c_intB ?_
    | with_reducible refine' c_lenSq ?_
    | with_reducible refine' c_lenP ?_
    | with_reducible refine' c_lenQ isq_tup ?_
    | with_reducible refine' c_lenQ isq_list ?_
    | ((with_reducible refine' c_lenQ (isq_own ?hn) ?_); (case hn => exact rfl))
    | with_reducible refine' e_bmL ?_
    | with_reducible refine' e_tup ?_
    | ((with_reducible refine' And.intro (Exists.intro _ (isl_own ?hn)) ?_); (case hn => exact rfl))
    | with_reducible refine' And.intro (Exists.intro _ isl_list) ?_
    | with_reducible refine' g_name ?_
    | with_reducible refine' g_nil ?_
    | with_reducible refine' g_cons ?_
    | refine' g_cons (gs := gCons _ _) ?_
    | refine' g_cons (gs := gNil) ?_
    | refine' g_nil (R := _) ?_
    | ((with_reducible refine' g_tup ?hn ?_); (case hn => exact rfl))
    | with_reducible refine' xs_seq ?_
    | with_reducible refine' xs_set ?_
    | with_reducible refine' xs_asg ?_
    | with_reducible refine' xs_drop ?_
    | with_reducible refine' xs_next ?_
    | with_reducible refine' xs_ret ?_
    | with_reducible refine' xs_if ?_
    | with_reducible refine' xs_dput ?_
    | with_reducible refine' x_set ?_
    | with_reducible refine' x_asg ?_
    | with_reducible refine' x_drop ?_
    | with_reducible refine' x_ret ?_
    | with_reducible refine' x_if ?_
    | with_reducible refine' x_dput ?_)
local macro_rules
  | `(tactic| walk_at "w") => `(tactic| repeat' (walk_at "e"))
local macro_rules
  | `(tactic| walk_at "t") => `(tactic| (with_reducible refine' e_tup ?_); (walk_at "w"))
local macro_rules
  | `(tactic| walk_at "d") => `(tactic| (refine e_draw 0 ?_; walk_at "w"; refine ⟨_, _, rfl, rfl, by assumption, by first | decide | omega, by first | decide | omega, ?_⟩))
local macro_rules
  | `(tactic| walk_at "s") => `(tactic| repeat' ((fail_if_success (with_reducible refine' xs_if ?_)); (walk_at "e")))
local macro_rules
  | `(tactic| walk_at "v") => `(tactic| repeat' (first
    | exact trivial
    | exact Nat.le_of_ble_eq_true rfl
    | (apply IsPen.under; assumption)
    | (apply IsPenG.under; assumption)
    | refine And.intro ?_ ?_))
local macro_rules
  | `(tactic| walk_at "u") => `(tactic| (refine And.intro ?hs (And.intro ?ho ?_); (case hs => walk_at "v"); (case ho => walk_at "v")))
local macro_rules
  | `(tactic| walk_at "dg") => `(tactic| (refine e_drawG 0 ?_; walk_at "w"; refine ⟨_, _, rfl, rfl, by assumption, by first | decide | omega, by first | decide | omega, ?_⟩))
structure Bi (K : PySem.W.Frag) (mg : Str → Option Value) : Prop where
  b_abs : mg "abs" = none
  b_all : mg "all" = none
  b_dict : mg "dict" = none
  b_int : mg "int" = none
  b_isinstance : mg "isinstance" = none
  b_len : mg "len" = none
  b_list : mg "list" = none
  b_min : mg "min" = none
  b_range : mg "range" = none
  b_repr : mg "repr" = none
  b_set : mg "set" = none
  b_str : mg "str" = none
  b_tuple : mg "tuple" = none
  b_zip : mg "zip" = none
  gc_TOP : ∃ t : Tok, mg "TOP" = some (.str "" t)
section
variable {P : Program} {w : World} {K : PySem.W.Frag} {mg : Str → Option Value} {base : Heap}
abbrev S__law_pen := S_pen
abbrev s__law_pen : Stmt := top 17
theorem sc__law_pen : FnScope ["_law_script"] ["_law_script"] (defScope s__law_pen) := ⟨rfl, rfl, rfl, by decide +kernel, rfl, by decide +kernel, by decide +kernel⟩
set_option maxHeartbeats 4000000 in
theorem ok__law_pen (T : Bi K mg) (Df : DefAt K mg "_law_pen" s__law_pen ["_law_script"]) : Cal P w K mg base 1 "_law_pen" ["_law_script"] S__law_pen := by
  refine ok4 Df sc__law_pen (fun ds g R h0 => by obtain ⟨_, h, _⟩ := h0; rw [h]; rfl) (fun cdv A outer s H E f hr => ?_)
  have hu1 := hu_of hr.r
  have hu64 := hr.units
  have hu65 : (A.deeper (PyProof.Rows.envOfC "_law_pen" (defScope s__law_pen) s.heap.objs.size f cdv)).units + 65 < cLine := by have := hr.un; omega
  refine ⟨_, (pss_one (ps_ret (pe_lst (pa_cons (pv 0) (pa_cons pe_int (pa_cons pe_int pa_nil)))))), fun ds g R hS => ?_⟩
  obtain ⟨s, rfl, rfl, hs, z⟩ := hS
  show ExS K _ [some _] _ _
  refine x_ret (e_rfs ?_)
  walk_at "w"
  exact .inl (z _ ⟨s, 0, 0, rfl, hs, Int.le_refl _, Int.le_refl _⟩)
abbrev S__law_draw := S_draw
abbrev s__law_draw : Stmt := top 18
theorem sc__law_draw : FnScope ["_law_pen_here", "_law_most", "_law_found", "_law_place", "_law_cell", "_law_first", "_law_second"] ["_law_pen_here", "_law_most"] (defScope s__law_draw) := ⟨rfl, rfl, rfl, by decide +kernel, rfl, by decide +kernel, by decide +kernel⟩
set_option maxHeartbeats 4000000 in
theorem ok__law_draw (T : Bi K mg) (Df : DefAt K mg "_law_draw" s__law_draw ["_law_pen_here", "_law_most"]) : Cal P w K mg base 1 "_law_draw" ["_law_pen_here", "_law_most"] S__law_draw := by
  refine ok4 Df sc__law_draw (fun ds g R h0 => by obtain ⟨_, _, h, _⟩ := h0; rw [h]; rfl) (fun cdv A outer s H E f hr => ?_)
  have hu1 := hu_of hr.r
  have hu64 := hr.units
  have hu65 : (A.deeper (PyProof.Rows.envOfC "_law_draw" (defScope s__law_draw) s.heap.objs.size f cdv)).units + 65 < cLine := by have := hr.un; omega
  refine ⟨_, (pss_cons (ps_if (pt_cmpR op_gt (pe_ix (u_ix (K := K) rfl hu1) (pv 0) pe_int (fun _ _ => rfl)) pe_int (nomark _))
    (pss_cons (ps_set (i := 2) sc__law_draw.nd rfl (by first | exact Or.inl rfl | exact Or.inr rfl) (pe_op op_mod (pe_ix (u_ix (K := K) rfl hu1) (pv 0) pe_int (fun _ _ => rfl)) (pv 1)))
    (pss_cons (ps_asg (pe_op op_fdivW (pe_ix (u_ix (K := K) rfl hu1) (pv 0) pe_int (fun _ _ => rfl)) (pv 1)) (pg_sub (pv 0) pe_int set_list))
    (pss_one (ps_ret (pv 2)))))
    pss_nil)
    (pss_cons (ps_set (i := 3) sc__law_draw.nd rfl (by first | exact Or.inl rfl | exact Or.inr rfl) (pe_ix (u_ix (K := K) rfl hu1) (pv 0) pe_int (fun _ _ => rfl)))
    (pss_cons (ps_asg (pe_op (u_add (K := K) rfl) (pv 3) pe_int) (pg_sub (pv 0) pe_int set_list))
    (pss_cons (ps_set (i := 4) sc__law_draw.nd rfl (by first | exact Or.inl rfl | exact Or.inr rfl) pe_int)
    (pss_cons (ps_if (pt_cmpR op_gt (pe_callB (u_len (K := K) rfl) (by rfl) T.b_len (by decide +kernel) (pa_cons (pe_ix (u_ix (K := K) rfl hu1) (pv 0) pe_int (fun _ _ => rfl)) pa_nil)) pe_int (nomark _))
    (pss_one (ps_set (i := 4) sc__law_draw.nd rfl (by first | exact Or.inl rfl | exact Or.inr rfl) (pe_ix (u_ix (K := K) rfl hu1) (pe_ix (u_ix (K := K) rfl hu1) (pv 0) pe_int (fun _ _ => rfl)) (pe_op op_mod (pv 3) (pe_callB (u_len (K := K) rfl) (by rfl) T.b_len (by decide +kernel) (pa_cons (pe_ix (u_ix (K := K) rfl hu1) (pv 0) pe_int (fun _ _ => rfl)) pa_nil))) (fun _ _ => rfl))))
    pss_nil)
    (pss_cons (ps_if (PW.pt (pw_and (pt_cmpR op_lt (pv 3) (pe_callB (u_len (K := K) rfl) (by rfl) T.b_len (by decide +kernel) (pa_cons (pe_ix (u_ix (K := K) rfl hu1) (pv 0) pe_int (fun _ _ => rfl)) pa_nil)) (nomark _)) (pw_and1 (pt_cmpR op_ge (pe_callB u_abs (by rfl) T.b_abs (by decide +kernel) (pa_cons (pv 4) pa_nil)) (pe_op op_pow pe_int pe_int) (nomark _)))))
    (pss_cons (ps_asg (pe_op op_fdivW (pe_callB u_abs (by rfl) T.b_abs (by decide +kernel) (pa_cons (pv 4) pa_nil)) (pv 1)) (pg_sub (pv 0) pe_int set_list))
    (pss_one (ps_ret (pe_op op_mod (pe_callB u_abs (by rfl) T.b_abs (by decide +kernel) (pa_cons (pv 4) pa_nil)) (pv 1)))))
    pss_nil)
    (pss_cons (ps_set (i := 5) sc__law_draw.nd rfl (by first | exact Or.inl rfl | exact Or.inr rfl) (pe_op op_mod (pe_op u_mul (pe_op (u_add (K := K) rfl) (pe_op (u_add (K := K) rfl) (pe_op op_mod (pv 4) pe_int) (pe_op u_mul pe_int (pv 3))) pe_int) pe_int) pe_int))
    (pss_cons (ps_set (i := 6) sc__law_draw.nd rfl (by first | exact Or.inl rfl | exact Or.inr rfl) (pe_op op_mod (pe_op (u_add (K := K) rfl) (pe_op (u_add (K := K) rfl) (pe_op u_mul (pv 5) (pv 5)) (pe_op u_mul pe_int (pv 3))) pe_int) pe_int))
    (pss_one (ps_ret (pe_op op_mod (pe_op op_fdivW (pv 6) pe_int) (pv 1)))))))))))), fun ds g R hS => ?_⟩
  obtain ⟨o, most, rfl, rfl, ⟨s, at_, dg, rfl, hs, h0, h1⟩, h2, h3, z⟩ := hS
  have ret : ∀ {r at' dg' : Int} {l : List O}, 0 ≤ r → r < most → 0 ≤ at' → 0 ≤ dg' → l = [penO s at' dg'] → Res 1 R (.f (.int r)) l := fun a b c d e => by subst e; exact .inl (z _ _ a b ⟨s, _, _, rfl, hs, c, d⟩)
  have e80 : (2 : Nat) ^ 80 = 1208925819614629174706176 := by decide
  have m80 : most.natAbs < 2 ^ 80 := by rw [e80]; omega
  have cw : ∀ x : Int, CDivW x most := fun x => wide_div h2 m80 (by decide) (by decide)
  show ExS K _ [some _, some _, none, none, none, none, none] _ _
  walk_at "w"
  refine d_both (fun hd => ?_) (fun hd => ?_)
  · walk_at "w"
    refine o_Ii (cw _) ?_
    refine g_setR ?_
    walk_at "w"
    refine ⟨0, _, 2, 2, rfl, rfl, rfl, rfl, ?_⟩
    walk_at "w"
    exact ret (Int.emod_nonneg _ (Int.ne_of_gt h2)) (Int.emod_lt_of_pos _ h2) h0 (Int.ediv_nonneg h1 (Int.le_of_lt h2)) rfl
  · walk_at "w"
    refine g_setR ?_
    walk_at "w"
    refine ⟨0, _, 1, 1, rfl, rfl, rfl, rfl, ?_⟩
    refine xs_set ?_
    walk_at "e"
    refine xs_mid (fun ρ' l' => ∃ c, ρ' = [some (.own 0), some (.f (.int most)), none, some (.f (.int at_)), some (.f (.int c)), none, none] ∧ l' = [penO s (at_ + 1) dg]) ?_ ?_
    · walk_at "w"
      refine d_both (fun hl => ?_) (fun hl => ?_)
      · obtain ⟨k, hk⟩ := at_mod (i := at_) hl
        walk_at "w"
        refine o_ixSq hk ?_
        exact ⟨k, rfl, rfl⟩
      · exact x_next ⟨0, rfl, rfl⟩
    · rintro ρ' l' ⟨c, rfl, rfl⟩
      have hm : ∀ {x : Int} {l : List O}, l = [penO s (at_ + 1) dg] → Res 1 R (.f (.int (x % most))) l := fun e => ret (Int.emod_nonneg _ (Int.ne_of_gt h2)) (Int.emod_lt_of_pos _ h2) (by omega) h1 e
      walk_at "w"
      refine d_both (fun ha => ?_) (fun ha => ?_)
      · walk_at "w"
        refine d_both (fun hb => ?_) (fun hb => ?_)
        · have hc : (0 : Int) ≤ if c < 0 then -c else c := by split <;> omega
          walk_at "w"
          refine o_Ii (cw _) ?_
          refine g_setR ?_
          walk_at "w"
          refine ⟨0, _, 2, 2, rfl, rfl, rfl, rfl, ?_⟩
          walk_at "w"
          exact ret (Int.emod_nonneg _ (Int.ne_of_gt h2)) (Int.emod_lt_of_pos _ h2) (by omega) (Int.ediv_nonneg hc (Int.le_of_lt h2)) rfl
        · walk_at "w"
          refine o_Ii (wide_div (b := 7) (by decide) (by decide) (by decide) (by decide)) ?_
          walk_at "w"
          exact hm rfl
      · walk_at "w"
        refine o_Ii (wide_div (b := 7) (by decide) (by decide) (by decide) (by decide)) ?_
        walk_at "w"
        exact hm rfl
def NamesOk (many : Int) (xs : List Str) : Prop := (xs.length : Int) = many ∧ xs.Nodup ∧ ∀ x ∈ xs, Low x ∧ 1 ≤ x.length ∧ x.length ≤ 30
theorem strs_of {acc : List PyData} {n : Nat} {f : Nat → Str} (hl : acc.length = n) (h : ∀ (i : Nat) d, acc[i]? = some d → d = .str (f i)) : acc = sPy ((List.range n).map f) := by
  refine List.ext_getElem? fun i => ?_
  show _ = (((List.range n).map f).map PyData.str)[i]?
  rw [List.getElem?_map, List.getElem?_map]
  by_cases hi : i < n
  · have e : acc[i]? = some acc[i] := List.getElem?_eq_getElem (by omega)
    rw [List.getElem?_range hi, e, h i _ e]
    rfl
  · rw [List.getElem?_eq_none (by omega), List.getElem?_eq_none (by simpa using hi)]
    rfl
theorem range_nodup {n : Nat} {f : Nat → Str} (h : ∀ i j, i < n → j < n → f i = f j → i = j) : ((List.range n).map f).Nodup := by
  have h0 : (List.range n).Nodup := List.nodup_range
  unfold List.Nodup at *
  rw [List.pairwise_map]
  refine List.Pairwise.imp_of_mem (fun ha hb hne e => hne ?_) h0
  exact h _ _ (List.mem_range.mp ha) (List.mem_range.mp hb) e
theorem cut_head_len {x : Str} {k : Int} (h0 : 0 ≤ k) (h1 : k ≤ x.length) : ((cutS x none (some k)).length : Int) = k := by
  rw [← cs_len, cs_cut, List.length_take, List.length_drop, cs_len]
  have e1 : HT.sIx x.length 0 none = 0 := rfl
  have e2 : HT.sIx x.length x.length (some k) = k.toNat := by
    unfold HT.sIx
    simp only
    split <;> omega
  rw [e1, e2]
  omega
theorem app_left {a x y : Str} (h : a ++ x = a ++ y) : x = y := by
  have e := congrArg cs h
  rw [cs_app, cs_app] at e
  exact cs_ext (List.append_cancel_left e)
theorem app_right {a x y : Str} (h : x ++ a = y ++ a) : x = y := by
  have e := congrArg cs h
  rw [cs_app, cs_app] at e
  exact cs_ext (List.append_cancel_right e)
theorem one_inj {a b : Nat} (h : (⟨#[a]⟩ : Str) = ⟨#[b]⟩) : a = b := by
  have e := congrArg cs h
  simpa [cs] using e
theorem two_inj {a b c d : Nat} (h : (⟨#[a]⟩ : Str) ++ ⟨#[b]⟩ = ⟨#[c]⟩ ++ ⟨#[d]⟩) : a = c ∧ b = d := by
  have e := congrArg cs h
  rw [cs_app, cs_app] at e
  simpa [cs] using e
theorem str_assoc (x y z : Str) : x ++ y ++ z = x ++ (y ++ z) := cs_ext (by rw [cs_app, cs_app, cs_app, cs_app, List.append_assoc])
def sign (t : Int) (i : Nat) : Str := ⟨#[97 + ((t + 5 * i) % 26).toNat]⟩
theorem sign_low (t : Int) (i : Nat) : Low (sign t i) ∧ (sign t i).length = 1 := by
  have g1 := Int.emod_nonneg (t + 5 * i) (show (26 : Int) ≠ 0 by decide)
  have g2 := Int.emod_lt_of_pos (t + 5 * i) (show (0 : Int) < 26 by decide)
  exact ⟨Low.one (by omega) (by omega), rfl⟩
def S__law_names : Spec3 := fun ds g R => ∃ o many, ds = [.own 0, .f (.int many)] ∧ g = [o] ∧ IsPen o ∧ 0 ≤ many ∧ many ≤ 60 ∧ ∀ o' xs, IsPen o' → NamesOk many xs → R (.own 1) [o', .lst (sPy xs)]
abbrev s__law_names : Stmt := top 19
theorem sc__law_names : FnScope ["_law_pen_here", "_law_many", "_law_letters", "_law_words", "_law_base", "_law_size", "_law_at", "_law_turn", "_law_manner", "_law_signs", "_law_head", "_law_tail", "_law_k", "_law_sign"] ["_law_pen_here", "_law_many"] (defScope s__law_names) := ⟨rfl, rfl, rfl, by decide +kernel, rfl, by decide +kernel, by decide +kernel⟩
set_option maxHeartbeats 4000000 in
theorem ok__law_names (T : Bi K mg) (Df : DefAt K mg "_law_names" s__law_names ["_law_pen_here", "_law_many"]) (C__law_draw : Cal P w K mg base 1 "_law_draw" ["_law_pen_here", "_law_most"] S__law_draw) : Cal P w K mg base 2 "_law_names" ["_law_pen_here", "_law_many"] S__law_names := by
  refine ok4 Df sc__law_names (fun ds g R h0 => by obtain ⟨_, _, h, _⟩ := h0; rw [h]; rfl) (fun cdv A outer s H E f hr => ?_)
  have hu1 := hu_of hr.r
  have hu64 := hr.units
  have hu65 : (A.deeper (PyProof.Rows.envOfC "_law_names" (defScope s__law_names) s.heap.objs.size f cdv)).units + 65 < cLine := by have := hr.un; omega
  refine ⟨_, (pss_cons (ps_set (i := 2) sc__law_names.nd rfl (by first | exact Or.inl rfl | exact Or.inr rfl) pe_str)
    (pss_cons (ps_set (i := 3) sc__law_names.nd rfl (by first | exact Or.inl rfl | exact Or.inr rfl) (pe_lst (pa_cons pe_str (pa_cons pe_str (pa_cons pe_str (pa_cons pe_str (pa_cons pe_str (pa_cons pe_str (pa_cons pe_str (pa_cons pe_str (pa_cons pe_str (pa_cons pe_str (pa_cons pe_str (pa_cons pe_str pa_nil))))))))))))))
    (pss_cons (ps_set (i := 3) sc__law_names.nd rfl (by first | exact Or.inl rfl | exact Or.inr rfl) (pe_op (u_add (K := K) rfl) (pv 3) (pe_lst (pa_cons pe_str (pa_cons pe_str (pa_cons pe_str (pa_cons pe_str (pa_cons pe_str pa_nil))))))))
    (pss_cons (ps_set (i := 4) sc__law_names.nd rfl (by first | exact Or.inl rfl | exact Or.inr rfl) (u_join (K := K) rfl pe_str (pe_lc (own := [("_law_k", 12)]) (by rfl) sc__law_names.nd (pi_range1 (by rfl) T.b_range (pa_cons pe_int pa_nil)) (blkOk_by (own := [("_law_k", 12)]) (N := ["_law_pen_here", "_law_many", "_law_letters", "_law_words", "_law_base", "_law_size", "_law_at", "_law_turn", "_law_manner", "_law_signs", "_law_head", "_law_tail", "_law_k", "_law_sign"]) (sc := defScope s__law_names) (by decide +kernel)) (fun _ _ _ _ _ => (pg_name (i := 12) sc__law_names.nd rfl (by first | exact Or.inl rfl | exact Or.inr rfl))) (fun _ _ _ _ _ => pts_nil) (fun _ _ _ _ _ => (pe_ix (u_ix (K := K) rfl hu1) (pv 2) (pe_cal (K := K) rfl C__law_draw (hr.mono (by decide)) (by rfl) (pa_cons (pv 0) (pa_cons pe_int pa_nil))) (fun _ _ => rfl))))))
    (pss_cons (ps_set (i := 5) sc__law_names.nd rfl (by first | exact Or.inl rfl | exact Or.inr rfl) (pe_op (u_add (K := K) rfl) pe_int (pe_cal (K := K) rfl C__law_draw (hr.mono (by decide)) (by rfl) (pa_cons (pv 0) (pa_cons pe_int pa_nil)))))
    (pss_cons (ps_set (i := 6) sc__law_names.nd rfl (by first | exact Or.inl rfl | exact Or.inr rfl) (pe_cal (K := K) rfl C__law_draw (hr.mono (by decide)) (by rfl) (pa_cons (pv 0) (pa_cons (pv 5) pa_nil))))
    (pss_cons (ps_set (i := 7) sc__law_names.nd rfl (by first | exact Or.inl rfl | exact Or.inr rfl) (pe_cal (K := K) rfl C__law_draw (hr.mono (by decide)) (by rfl) (pa_cons (pv 0) (pa_cons pe_int pa_nil))))
    (pss_cons (ps_set (i := 8) sc__law_names.nd rfl (by first | exact Or.inl rfl | exact Or.inr rfl) (pe_cal (K := K) rfl C__law_draw (hr.mono (by decide)) (by rfl) (pa_cons (pv 0) (pa_cons pe_int pa_nil))))
    (pss_cons (ps_if (PW.pt (pw_and (pt_cmpR (u_eq (K := K) rfl hu64) (pv 8) pe_int (nomark _)) (pw_and1 (pt_cmpR op_lt (pv 1) pe_int (nomark _)))))
    (pss_one (ps_ret (pe_lc (own := [("_law_k", 12)]) (by rfl) sc__law_names.nd (pi_range1 (by rfl) T.b_range (pa_cons (pv 1) pa_nil)) (blkOk_by (own := [("_law_k", 12)]) (N := ["_law_pen_here", "_law_many", "_law_letters", "_law_words", "_law_base", "_law_size", "_law_at", "_law_turn", "_law_manner", "_law_signs", "_law_head", "_law_tail", "_law_k", "_law_sign"]) (sc := defScope s__law_names) (by decide +kernel)) (fun _ _ _ _ _ => (pg_name (i := 12) sc__law_names.nd rfl (by first | exact Or.inl rfl | exact Or.inr rfl))) (fun _ _ _ _ _ => pts_nil) (fun _ _ _ _ _ => (pe_slice (u_sl (K := K) rfl) (pv 4) po_none (po_some (pe_op (u_add (K := K) rfl) (pe_op op_mod (pe_op (u_add (K := K) rfl) (pv 7) (pe_op u_mul pe_int (pv 12))) pe_int) pe_int)))))))
    pss_nil)
    (pss_cons (ps_if (PW.pt (pw_and (pt_cmpR (u_eq (K := K) rfl hu64) (pv 8) pe_int (nomark _)) (pw_and1 (pt_cmpR op_lt (pv 1) pe_int (nomark _)))))
    (pss_one (ps_ret (pe_lc (own := [("_law_k", 12)]) (by rfl) sc__law_names.nd (pi_range1 (by rfl) T.b_range (pa_cons (pv 1) pa_nil)) (blkOk_by (own := [("_law_k", 12)]) (N := ["_law_pen_here", "_law_many", "_law_letters", "_law_words", "_law_base", "_law_size", "_law_at", "_law_turn", "_law_manner", "_law_signs", "_law_head", "_law_tail", "_law_k", "_law_sign"]) (sc := defScope s__law_names) (by decide +kernel)) (fun _ _ _ _ _ => (pg_name (i := 12) sc__law_names.nd rfl (by first | exact Or.inl rfl | exact Or.inr rfl))) (fun _ _ _ _ _ => pts_nil) (fun _ _ _ _ _ => (pe_ix (u_ix (K := K) rfl hu1) (pv 3) (pe_op op_mod (pe_op (u_add (K := K) rfl) (pv 7) (pv 12)) pe_int) (fun _ _ => rfl))))))
    pss_nil)
    (pss_cons (ps_set (i := 9) sc__law_names.nd rfl (by first | exact Or.inl rfl | exact Or.inr rfl) (pe_lc (own := [("_law_k", 12)]) (by rfl) sc__law_names.nd (pi_range1 (by rfl) T.b_range (pa_cons (pv 1) pa_nil)) (blkOk_by (own := [("_law_k", 12)]) (N := ["_law_pen_here", "_law_many", "_law_letters", "_law_words", "_law_base", "_law_size", "_law_at", "_law_turn", "_law_manner", "_law_signs", "_law_head", "_law_tail", "_law_k", "_law_sign"]) (sc := defScope s__law_names) (by decide +kernel)) (fun _ _ _ _ _ => (pg_name (i := 12) sc__law_names.nd rfl (by first | exact Or.inl rfl | exact Or.inr rfl))) (fun _ _ _ _ _ => pts_nil) (fun _ _ _ _ _ => (pe_ix (u_ix (K := K) rfl hu1) (pv 2) (pe_op op_mod (pe_op (u_add (K := K) rfl) (pv 7) (pe_op u_mul pe_int (pv 12))) pe_int) (fun _ _ => rfl)))))
    (pss_cons (ps_if (pt_cmpR op_lt (pv 1) pe_int (nomark _))
    (pss_one (ps_ret (pe_lc (own := [("_law_sign", 13)]) (by rfl) sc__law_names.nd (u_seq (K := K) rfl (pv 9)) (blkOk_by (own := [("_law_sign", 13)]) (N := ["_law_pen_here", "_law_many", "_law_letters", "_law_words", "_law_base", "_law_size", "_law_at", "_law_turn", "_law_manner", "_law_signs", "_law_head", "_law_tail", "_law_k", "_law_sign"]) (sc := defScope s__law_names) (by decide +kernel)) (fun _ _ _ _ _ => (pg_name (i := 13) sc__law_names.nd rfl (by first | exact Or.inl rfl | exact Or.inr rfl))) (fun _ _ _ _ _ => pts_nil) (fun _ _ _ _ _ => (pe_op (u_add (K := K) rfl) (pe_op (u_add (K := K) rfl) (pe_slice (u_sl (K := K) rfl) (pv 4) po_none (po_some (pv 6))) (pv 13)) (pe_slice (u_sl (K := K) rfl) (pv 4) (po_some (pe_op (u_add (K := K) rfl) (pv 6) pe_int)) (po_some (pv 5))))))))
    pss_nil)
    (pss_cons (ps_set (i := 10) sc__law_names.nd rfl (by first | exact Or.inl rfl | exact Or.inr rfl) (pe_slice (u_sl (K := K) rfl) (pv 4) po_none (po_some (pe_op op_mod (pv 6) pe_int))))
    (pss_cons (ps_set (i := 11) sc__law_names.nd rfl (by first | exact Or.inl rfl | exact Or.inr rfl) (pe_slice (u_sl (K := K) rfl) (pv 4) (po_some (pe_op op_mod (pv 6) pe_int)) (po_some (pe_op op_mod (pv 5) pe_int))))
    (pss_one (ps_ret (pe_lc (own := [("_law_k", 12)]) (by rfl) sc__law_names.nd (pi_range1 (by rfl) T.b_range (pa_cons (pv 1) pa_nil)) (blkOk_by (own := [("_law_k", 12)]) (N := ["_law_pen_here", "_law_many", "_law_letters", "_law_words", "_law_base", "_law_size", "_law_at", "_law_turn", "_law_manner", "_law_signs", "_law_head", "_law_tail", "_law_k", "_law_sign"]) (sc := defScope s__law_names) (by decide +kernel)) (fun _ _ _ _ _ => (pg_name (i := 12) sc__law_names.nd rfl (by first | exact Or.inl rfl | exact Or.inr rfl))) (fun _ _ _ _ _ => pts_nil) (fun _ _ _ _ _ => (pe_op (u_add (K := K) rfl) (pe_op (u_add (K := K) rfl) (pe_op (u_add (K := K) rfl) (pv 10) (pe_ix (u_ix (K := K) rfl hu1) (pv 9) (pv 12) (fun _ _ => rfl))) (pe_ix (u_ix (K := K) rfl hu1) (pv 2) (pe_op op_fdiv (pv 12) pe_int) (fun _ _ => rfl))) (pv 11)))))))))))))))))))), fun ds g R hS => ?_⟩
  obtain ⟨o, many, rfl, rfl, hp, h0, h1, z⟩ := hS
  show ExS K _ [some _, some _, none, none, none, none, none, none, none, none, none, none, none, none] _ _
  refine xs_set ?_
  walk_at "e"
  refine xs_mid (fun ρ' l' => ∃ W, ρ' = [some (.own 0), some (.f (.int many)), some (.f (.str lets)), some (.own 1), none, none, none, none, none, none, none, none, none, none] ∧ l' = [o, .lst (sPy W)] ∧ W.length = 12 ∧ W = (["top", "group", "tie", "wait", "first", "last", "thing", "untie", "drop", "want", "unwant", "many"] : List Str)) ?_ ?_
  · walk_at "w"
    refine e_lst ?_
    walk_at "w"
    refine ⟨["top", "group", "tie", "wait", "first", "last", "thing", "untie", "drop", "want", "unwant", "many"], rfl, rfl, rfl, rfl⟩
  rintro ρ' l' ⟨W, rfl, rfl, hW1, hW⟩
  refine xs_mid (fun ρ' l' => ∃ W W2, ρ' = [some (.own 0), some (.f (.int many)), some (.f (.str lets)), some (.own 3), none, none, none, none, none, none, none, none, none, none] ∧ l' = [o, .lst (sPy W), .lst (sPy W2), .lst (sPy (W ++ W2))] ∧ (W ++ W2).length = 17 ∧ (W ++ W2).Nodup ∧ ∀ x ∈ W ++ W2, Low x ∧ 1 ≤ x.length ∧ x.length ≤ 8) ?_ ?_
  · walk_at "w"
    refine e_lst ?_
    walk_at "w"
    refine o_addL (.inr ⟨_, rfl, rfl⟩) (.inr ⟨_, rfl, rfl⟩) (by rw [sPy_len, hW1]; decide) ?_
    refine ⟨W, ["lay", "ring", "place", "bar", "house"], rfl, by rw [sPy_app]; rfl, by rw [List.length_append, hW1]; rfl, ?_, ?_⟩
    · subst hW; decide +kernel
    · subst hW; decide +kernel
  clear hW hW1 W
  rintro ρ' l' ⟨W, W2, rfl, rfl, hW1, hWn, hW⟩
  walk_at "w"
  refine e_lcR (gg_name (by decide)) ?_
  walk_at "w"
  refine ⟨fun i acc l' => ∃ o' ys, IsPen o' ∧ l' = [o', .lst (sPy W), .lst (sPy W2), .lst (sPy (W ++ W2))] ∧ acc = sPy ys ∧ ys.length = i ∧ ∀ y ∈ ys, Low y ∧ y.length = 1, ⟨o, [], hp, rfl, rfl, rfl, fun _ h => by cases h⟩, ?_, ?_, ?_⟩
  · rintro i acc l' hi ⟨o', ys, _, _, rfl, hyl, _⟩
    rw [sPy_len]
    have : i ≤ 8 := hi
    omega
  · rintro i acc l' hi ⟨o', ys, hp', rfl, rfl, hl, hy⟩
    walk_at "w"
    walk_at "d"
    intro r o2 hr1 hr2 hp2
    refine o_ixS (by rw [lets_len]; decide) (lets_at hr1 hr2) ?_
    refine ⟨_, rfl, o2, ys ++ [⟨#[97 + r.toNat]⟩], hp2, rfl, by rw [sPy_app]; rfl, by rw [List.length_append, hl]; rfl, fun y hy' => ?_⟩
    rcases List.mem_append.mp hy' with h | h
    · exact hy y h
    · have e : y = ⟨#[97 + r.toNat]⟩ := by simpa using h
      subst e
      exact ⟨Low.one (by omega) (by omega), rfl⟩
  rintro acc l' ⟨o', ys, hp', rfl, rfl, hl, hy⟩
  have hys : ys.length = 8 := hl
  refine m_join (ys := ys) (.inl (.inr ⟨_, rfl, rfl⟩)) (by rw [sum_len ys 1 fun y h => (hy y h).2, hys]; decide) ?_
  have hbL : Low (Txt.join "" ys) := Low.join fun y h => (hy y h).1
  have hbl : (Txt.join "" ys).length = 8 := by rw [join_len ys 1 fun y h => (hy y h).2, hys]
  generalize Txt.join "" ys = base at hbL hbl
  have fin : ∀ {n : Nat} {l' : List O} {o' : O} {xs : List Str}, l'[n]? = some (.lst (sPy xs)) → 1 ≤ n → l'.take 1 = [o'] → IsPen o' → (xs.length : Int) = many → xs.Nodup → (∀ x ∈ xs, Low x ∧ 1 ≤ x.length ∧ x.length ≤ 30) → Res 1 R (.own n) l' := fun h1 h2 h3 h4 h5 h7 h6 =>
    Res.own h1 trivial nofun h2 (by rw [h3]; intro x hx; cases hx with | head => exact h4.under | tail _ h => cases h) (by rw [h3]; exact z _ _ h4 ⟨h5, h7, h6⟩)
  walk_at "w"
  walk_at "d"
  intro r1 o1 a1 b1 p1
  walk_at "w"
  walk_at "d"
  intro r2 o2 a2 b2 p2
  walk_at "w"
  walk_at "d"
  intro r3 o3 a3 b3 p3
  walk_at "w"
  walk_at "d"
  intro r4 o4 a4 b4 p4
  refine xs_gate ?_ ?_
  · walk_at "w"
    refine d_both (fun c1 => ?_) (fun c1 => rfl)
    walk_at "w"
    refine d_both (fun c2 => ?_) (fun c2 => rfl)
    walk_at "w"
    refine e_lcRp (fun i y => y = .str (cutS base none (some ((r3 + 3 * i) % 8 + 1)))) (gg_name (by decide)) ?_
    walk_at "w"
    refine ⟨by omega, by omega, fun i hi => ?_, fun acc ha hx => ?_⟩
    · walk_at "w"
      refine s_str (by omega) ?_
      exact ⟨_, rfl, rfl, rfl⟩
    · have e := strs_of (f := fun i => cutS base none (some ((r3 + 3 * (i : Int)) % 8 + 1))) ha hx
      subst e
      have hlen : ∀ i : Nat, ((cutS base none (some ((r3 + 3 * (i : Int)) % 8 + 1))).length : Int) = (r3 + 3 * (i : Int)) % 8 + 1 := fun i => cut_head_len (by omega) (by omega)
      refine fin (n := 5) rfl (by decide) rfl p4 (by rw [List.length_map, List.length_range]; omega) (range_nodup fun i j hi hj e => ?_) fun x hx => ?_
      · have e1 := hlen i
        rw [e, hlen j] at e1
        omega
      · obtain ⟨i, _, rfl⟩ := List.mem_map.mp hx
        have e1 := hlen i
        exact ⟨hbL.cut _ _, by omega, by omega⟩
  refine xs_gate ?_ ?_
  · walk_at "w"
    refine d_both (fun c1 => ?_) (fun c1 => rfl)
    walk_at "w"
    refine d_both (fun c2 => ?_) (fun c2 => rfl)
    walk_at "w"
    refine e_lcRp (fun i y => y = .str ((W ++ W2).getD ((r3 + i) % 17).toNat "")) (gg_name (by decide)) ?_
    walk_at "w"
    have inW : ∀ i : Nat, ((r3 + (i : Int)) % 17).toNat < (W ++ W2).length := fun i => by
      have g1 := Int.emod_nonneg (r3 + i) (show (17 : Int) ≠ 0 by decide)
      have g2 := Int.emod_lt_of_pos (r3 + i) (show (0 : Int) < 17 by decide)
      omega
    have getW : ∀ i : Nat, (W ++ W2).getD ((r3 + (i : Int)) % 17).toNat "" = (W ++ W2)[((r3 + (i : Int)) % 17).toNat]'(inW i) := fun i => by
      rw [List.getD_eq_getElem?_getD, List.getElem?_eq_getElem (inW i)]
      rfl
    refine ⟨by omega, by omega, fun i hi => ?_, fun acc ha hx => ?_⟩
    · walk_at "w"
      have g1 := Int.emod_nonneg (r3 + i) (show (17 : Int) ≠ 0 by decide)
      obtain ⟨j, hj⟩ := Int.eq_ofNat_of_zero_le g1
      have hjl : j < (W ++ W2).length := by have := inW i; omega
      have hx : (sPy (W ++ W2))[j]? = some (.str ((W ++ W2)[j])) := by
        show ((W ++ W2).map PyData.str)[j]? = _
        rw [List.getElem?_map]; simp [hjl]
      refine o_ixQ (isq_own (n := 3) rfl) (by rw [hj]; exact atI_nat hx) ?_
      refine ⟨_, rfl, ?_, rfl⟩
      rw [hj, List.getD_eq_getElem?_getD, show ((j : Int)).toNat = j from rfl, List.getElem?_eq_getElem hjl]
      rfl
    · have e := strs_of (f := fun i => (W ++ W2).getD ((r3 + (i : Int)) % 17).toNat "") ha hx
      subst e
      refine fin (n := 5) rfl (by decide) rfl p4 (by rw [List.length_map, List.length_range]; omega) (range_nodup fun i j hi hj e => ?_) fun x hx => ?_
      · rw [getW, getW] at e
        have e1 := congrArg (fun x => (W ++ W2).idxOf x) e
        simp only [hWn.idxOf_getElem] at e1
        have g1 := Int.emod_nonneg (r3 + i) (show (17 : Int) ≠ 0 by decide)
        have g2 := Int.emod_nonneg (r3 + j) (show (17 : Int) ≠ 0 by decide)
        omega
      · obtain ⟨i, _, rfl⟩ := List.mem_map.mp hx
        have hm := hW _ (List.getElem_mem (inW i))
        rw [← getW i] at hm
        exact ⟨hm.1, hm.2.1, by omega⟩
  walk_at "w"
  refine e_lcRp (fun i y => y = .str (sign r3 i)) (gg_name (by decide)) ?_
  walk_at "w"
  refine ⟨by omega, by omega, fun i hi => ?_, fun acc ha hx => ?_⟩
  · walk_at "w"
    refine o_ixS lets_le (lets_at (Int.emod_nonneg _ (by decide)) (Int.emod_lt_of_pos _ (by decide))) ?_
    exact ⟨_, rfl, rfl, rfl⟩
  have e := strs_of (f := sign r3) ha hx
  subst e
  clear hx ha
  refine xs_gate ?_ ?_
  · walk_at "w"
    refine d_both (fun c1 => ?_) (fun c1 => rfl)
    walk_at "w"
    refine e_lcQp (fun d y => ∃ x, d = .str x ∧ y = .str (cutS base none (some r2) ++ x ++ cutS base (some (r2 + 1)) (some (1 + r1)))) (gg_name (by decide)) ?_
    walk_at "w"
    refine ⟨sPy ((List.range many.toNat).map (sign r3)), isq_own (n := 5) rfl, by rw [sPy_len, List.length_map, List.length_range]; omega, fun d hd => ?_, fun acc ha hx => ?_⟩
    · obtain ⟨x, hxm, rfl⟩ := sPy_mem hd
      obtain ⟨i, _, rfl⟩ := List.mem_map.mp hxm
      have x2 := (sign_low r3 i).2
      walk_at "w"
      refine s_str (by omega) ?_
      walk_at "w"
      have q1 := cut_len base none (some r2)
      refine o_addS (by omega) ?_
      walk_at "w"
      refine s_str (by omega) ?_
      have q2 := cut_len base (some (r2 + 1)) (some (1 + r1))
      refine o_addS (by rw [len_app]; omega) ?_
      exact ⟨_, rfl, ⟨_, rfl, rfl⟩, rfl⟩
    · rw [sPy_len, List.length_map, List.length_range] at ha
      have e := strs_of (f := fun i => cutS base none (some r2) ++ sign r3 i ++ cutS base (some (r2 + 1)) (some (1 + r1))) ha fun i d hd => by
        have hi : i < many.toNat := by rw [← ha]; exact (List.getElem?_eq_some_iff.mp hd).1
        obtain ⟨x, e1, e2⟩ := hx i (.str (sign r3 i)) d (sPy_get_of (by rw [List.getElem?_map, List.getElem?_range hi]; rfl)) hd
        cases e1
        exact e2
      subst e
      have q1 := cut_len base none (some r2)
      have q2 := cut_len base (some (r2 + 1)) (some (1 + r1))
      refine fin (n := 6) rfl (by decide) rfl p4 (by rw [List.length_map, List.length_range]; omega) (range_nodup fun i j hi hj e => ?_) fun x hx => ?_
      · have e1 := one_inj (app_left (app_right e))
        omega
      · obtain ⟨i, _, rfl⟩ := List.mem_map.mp hx
        have x2 := sign_low r3 i
        exact ⟨((hbL.cut _ _).app x2.1).app (hbL.cut _ _), by rw [len_app, len_app]; omega, by rw [len_app, len_app]; omega⟩
  walk_at "w"
  refine s_str (by omega) ?_
  walk_at "w"
  refine s_str (by omega) ?_
  walk_at "w"
  refine e_lcRp (fun i y => y = .str (cutS base none (some (r2 % 6)) ++ sign r3 i ++ ⟨#[97 + ((i : Int) / 26).toNat]⟩ ++ cutS base (some (r2 % 6)) (some ((1 + r1) % 7)))) (gg_name (by decide)) ?_
  walk_at "w"
  refine ⟨by omega, by omega, fun i hi => ?_, fun acc ha hx => ?_⟩
  · have hil : i < many.toNat := hi
    walk_at "w"
    have hs : (sPy ((List.range many.toNat).map (sign r3)))[i]? = some (.str (sign r3 i)) := sPy_get_of (by rw [List.getElem?_map, List.getElem?_range hil]; rfl)
    refine o_ixQ (isq_own (n := 5) rfl) (atI_nat hs) ?_
    have x2 := (sign_low r3 i).2
    have q1 := cut_len base none (some (r2 % 6))
    have q2 := cut_len base (some (r2 % 6)) (some ((1 + r1) % 7))
    refine o_addS (by omega) ?_
    walk_at "w"
    refine o_ixS lets_le (lets_at (Int.ediv_nonneg (by omega) (by decide)) (by omega)) ?_
    refine o_addS (by rw [len_app, one_len]; omega) ?_
    walk_at "w"
    refine o_addS (by rw [len_app, len_app, one_len]; omega) ?_
    exact ⟨_, rfl, rfl, rfl⟩
  have e := strs_of (f := fun i => cutS base none (some (r2 % 6)) ++ sign r3 i ++ ⟨#[97 + ((i : Int) / 26).toNat]⟩ ++ cutS base (some (r2 % 6)) (some ((1 + r1) % 7))) ha hx
  subst e
  have q1 := cut_len base none (some (r2 % 6))
  have q2 := cut_len base (some (r2 % 6)) (some ((1 + r1) % 7))
  refine fin (n := 6) rfl (by decide) rfl p4 (by rw [List.length_map, List.length_range]; omega) (range_nodup fun i j hi hj e => ?_) fun x hx => ?_
  · have e0 := app_right e
    rw [str_assoc, str_assoc] at e0
    obtain ⟨e1, e2⟩ := two_inj (app_left e0)
    omega
  · obtain ⟨i, hi, rfl⟩ := List.mem_map.mp hx
    have hi := List.mem_range.mp hi
    have x2 := sign_low r3 i
    exact ⟨(((hbL.cut _ _).app x2.1).app (Low.one (by omega) (by omega))).app (hbL.cut _ _), by rw [len_app, len_app, len_app]; omega, by rw [len_app, len_app, len_app, one_len]; omega⟩
def S__law_tree : Spec3 := fun ds g R => ∃ o us deep, ds = [.own 0, .f (.list (sPy us)), .f (.int deep)] ∧ g = [o] ∧ IsPen o ∧ us.length ≤ 60 ∧ us.Nodup ∧ (∀ u ∈ us, 1 ≤ u.length) ∧ 0 ≤ deep ∧ ∀ o' ks r, IsPen o' → Tree ks us deep r → R (.f (plD (ksPy ks))) [o']
abbrev s__law_tree : Stmt := top 20
theorem sc__law_tree : FnScope ["_law_pen_here", "_law_names_here", "_law_deep", "_law_knots", "_law_levels", "_law_name", "_law_knot", "_law_some"] ["_law_pen_here", "_law_names_here", "_law_deep"] (defScope s__law_tree) := ⟨rfl, rfl, rfl, by decide +kernel, rfl, by decide +kernel, by decide +kernel⟩
set_option maxHeartbeats 4000000 in
theorem ok__law_tree (T : Bi K mg) (Df : DefAt K mg "_law_tree" s__law_tree ["_law_pen_here", "_law_names_here", "_law_deep"]) (C__law_draw : Cal P w K mg base 1 "_law_draw" ["_law_pen_here", "_law_most"] S__law_draw) : Cal P w K mg base 2 "_law_tree" ["_law_pen_here", "_law_names_here", "_law_deep"] S__law_tree := by
  refine ok4 Df sc__law_tree (fun ds g R h0 => by obtain ⟨_, _, _, h, _⟩ := h0; rw [h]; rfl) (fun cdv A outer s H E f hr => ?_)
  have hu1 := hu_of hr.r
  have hu64 := hr.units
  have hu65 : (A.deeper (PyProof.Rows.envOfC "_law_tree" (defScope s__law_tree) s.heap.objs.size f cdv)).units + 65 < cLine := by have := hr.un; omega
  refine ⟨_, (pss_cons (ps_set (i := 3) sc__law_tree.nd rfl (by first | exact Or.inl rfl | exact Or.inr rfl) (pe_lst (pa_cons (pe_tup (pa_cons pe_str (pa_cons (pe_lst pa_nil) pa_nil))) pa_nil)))
    (pss_cons (ps_set (i := 4) sc__law_tree.nd rfl (by first | exact Or.inl rfl | exact Or.inr rfl) (pe_disp (pps_cons pe_str pe_int pps_nil) (by rfl) (by rfl) (List.cons_ne_nil _ _) (Nat.le_of_ble_eq_true rfl)))
    (pss_cons (ps_for PassesOwn.never rfl (u_seq (K := K) rfl (pv 1)) (pg_name (i := 5) sc__law_tree.nd rfl (by first | exact Or.inl rfl | exact Or.inr rfl))
    (pss_cons (ps_asg (pe_ix (u_ix (K := K) rfl hu1) (pv 3) (pe_cal (K := K) rfl C__law_draw (hr.mono (by decide)) (by rfl) (pa_cons (pv 0) (pa_cons (pe_callB (u_len (K := K) rfl) (by rfl) T.b_len (by decide +kernel) (pa_cons (pv 3) pa_nil)) pa_nil))) (fun _ _ => rfl)) (u_tup (K := K) (n := 2) rfl (by rfl) (pgs_cons (pg_name (i := 6) sc__law_tree.nd rfl (by first | exact Or.inl rfl | exact Or.inr rfl)) (pgs_cons (pg_name (i := 7) sc__law_tree.nd rfl (by first | exact Or.inl rfl | exact Or.inr rfl)) pgs_nil))))
    (pss_cons (ps_expr (u_bm (K := K) rfl PySem.F.plainAttrs_list PySem.F.slot_list_insert PySem.F.type_list_insert u_insert (pv 7) (pa_cons (pe_cal (K := K) rfl C__law_draw (hr.mono (by decide)) (by rfl) (pa_cons (pv 0) (pa_cons (pe_op (u_add (K := K) rfl) (pe_callB (u_len (K := K) rfl) (by rfl) T.b_len (by decide +kernel) (pa_cons (pv 7) pa_nil)) pe_int) pa_nil))) (pa_cons (pv 5) pa_nil))))
    (pss_one (ps_if (PW.pt (pw_and (pt_cmpR op_lt (pe_ix (u_ix (K := K) rfl hu1) (pv 4) (pv 6) (fun _ _ => rfl)) (pv 2) (nomark _)) (pw_and1 (pt_cmpR (u_eq (K := K) rfl hu64) (pe_cal (K := K) rfl C__law_draw (hr.mono (by decide)) (by rfl) (pa_cons (pv 0) (pa_cons pe_int pa_nil))) pe_int (nomark _)))))
    (pss_cons (ps_dput hu1 (pv 4) (pv 5) (pe_op (u_add (K := K) rfl) (pe_ix (u_ix (K := K) rfl hu1) (pv 4) (pv 6) (fun _ _ => rfl)) pe_int) rfl)
    (pss_one (ps_expr (u_bm (K := K) rfl PySem.F.plainAttrs_list PySem.F.slot_list_insert PySem.F.type_list_insert u_insert (pv 3) (pa_cons (pe_op (u_add (K := K) rfl) pe_int (pe_cal (K := K) rfl C__law_draw (hr.mono (by decide)) (by rfl) (pa_cons (pv 0) (pa_cons (pe_callB (u_len (K := K) rfl) (by rfl) T.b_len (by decide +kernel) (pa_cons (pv 3) pa_nil)) pa_nil)))) (pa_cons (pe_tup (pa_cons (pv 5) (pa_cons (pe_lst pa_nil) pa_nil))) pa_nil))))))
    pss_nil)))))
    (pss_one (ps_ret (pe_callTy (u_tupleP (K := K) rfl) (by rfl) T.b_tuple (by decide +kernel) (pa_cons (pe_lc (own := [("_law_name", 5), ("_law_some", 7)]) (by rfl) sc__law_tree.nd (u_seq (K := K) rfl (pv 3)) (blkOk_by (own := [("_law_name", 5), ("_law_some", 7)]) (N := ["_law_pen_here", "_law_names_here", "_law_deep", "_law_knots", "_law_levels", "_law_name", "_law_knot", "_law_some"]) (sc := defScope s__law_tree) (by decide +kernel)) (fun _ _ _ _ _ => (u_tup (K := K) (n := 2) rfl (by rfl) (pgs_cons (pg_name (i := 5) sc__law_tree.nd rfl (by first | exact Or.inl rfl | exact Or.inr rfl)) (pgs_cons (pg_name (i := 7) sc__law_tree.nd rfl (by first | exact Or.inl rfl | exact Or.inr rfl)) pgs_nil)))) (fun _ _ _ _ _ => pts_nil) (fun _ _ _ _ _ => (pe_tup (pa_cons (pv 5) (pa_cons (pe_callTy (u_tupleP (K := K) rfl) (by rfl) T.b_tuple (by decide +kernel) (pa_cons (pv 7) pa_nil)) pa_nil))))) pa_nil))))))), fun ds g R hS => ?_⟩
  obtain ⟨o, us, deep, rfl, rfl, hp, hul, hun, hu1, hd, z⟩ := hS
  show ExS K _ [some _, some _, some _, none, none, none, none, none] _ _
  refine xs_set (e_rfs (a_cons (e_tpr (a_cons (e_str (a_cons (e_lst (a_nil ⟨[], rfl, by decide, a_nil ⟨Nat.le_of_ble_eq_true rfl, a_nil ⟨Nat.le_of_ble_eq_true rfl, ?_⟩⟩⟩))))))))
  refine xs_set (e_disp (by decide) (e_str (e_int ⟨.inr "", .int 0, rfl, rfl, by decide, rfl, ?_⟩)))
  show ExS K _ [some (.own 0), some (.f (.list (sPy us))), some (.f (.int deep)), some (.own 3), some (.own 4), none, none, none] [o, .lst (sPy []), .tpr [.f (.str nil0), .own 1], .rfs [.own 2], .dct [((Sum.inr nil0 : Key), PyData.int 0)]] _
  have hS0 : TreeS [o, .lst (sPy []), .tpr [.f (.str nil0), .own 1], .rfs [.own 2], .dct [((Sum.inr nil0 : Key), PyData.int 0)]] [(nil0, [])] [(2, 1)] [((Sum.inr nil0 : Key), PyData.int 0)] o := by
    refine ⟨rfl, hp, rfl, rfl, by simp, rfl, fun i p k a b => ?_⟩
    cases i with
    | zero => cases a; cases b; exact ⟨rfl, rfl⟩
    | succ i => simp at a
  refine xs_forQ (e_var rfl ⟨sPy us, isq_list, fun i ρ' l' => ∃ ks ps kvs o' r a b c, ρ' = [some (.own 0), some (.f (.list (sPy us))), some (.f (.int deep)), some (.own 3), some (.own 4), a, b, c] ∧ TreeS l' ks ps kvs o' ∧ Tree ks (us.take i) deep r ∧ kvs.length ≤ i + 1 ∧ ∀ k ∈ ks, lookD kvs (.inr k.1) = some (.int (r k.1)),
    ⟨_, _, _, _, _, none, none, none, rfl, hS0, Tree.start hd, Nat.le_refl _, fun k hk => by cases List.mem_singleton.mp hk; rfl⟩, fun _ _ _ _ _ => isq_list, ?_, ?_⟩)
  · rintro i d ρ' l' hdd ⟨ks, ps, kvs, o', r, a, b, c, rfl, hS, hT, hkl, hlv⟩
    obtain ⟨x, hx, rfl⟩ := sPy_get hdd
    have hil : i < us.length := (List.getElem?_eq_some_iff.mp hx).1
    have hks : 0 < ks.length := by obtain ⟨xs, rest, e⟩ := hT.first; rw [e]; simp
    have hkb : ks.length ≤ 61 := by have := hT.len; rw [List.length_take] at this; omega
    refine g_name (xs_asg (e_op (e_var rfl (e_draw 0 (a_cons (e_var rfl (a_cons (e_cb (a_cons (e_var rfl (a_nil (c_lenR hS.rfs ?_))))))))))))
    rw [List.length_map, hS.len]
    refine a_nil ⟨_, _, rfl, hS.pen, hS.isp, by omega, by omega, fun r1 o2 a1 b1 p2 => ?_⟩
    have hS2 := hS.drawn p2
    obtain ⟨j, rfl⟩ := Int.eq_ofNat_of_zero_le a1
    have hj : j < ks.length := by omega
    have hk : ks[j]? = some ks[j] := List.getElem?_eq_getElem hj
    obtain ⟨p, hpj⟩ := hS2.knot hk
    obtain ⟨g1, g2⟩ := hS2.at_ j p _ hpj hk
    refine o_ixR hS2.rfs (show atI (ps.map fun p => D.own p.1) ((j : Nat) : Int) = some (.own p.1) from atI_nat (by rw [List.getElem?_map, hpj]; rfl)) ?_
    refine g_tpr g1 rfl (g_cons (g_name (g_cons (g_name (g_nil ?_)))))
    have hxi : ¬ x ∈ us.take i := not_mem_take hun hx
    have hxe : x ≠ nil0 := fun e => by
      have := hu1 x (List.mem_of_getElem? hx)
      rw [e] at this
      exact absurd this (by decide)
    have hkl2 : ks[j].2.length ≤ us.length := nodup_le (hT.nd _ (List.getElem_mem hj)) fun y hy => List.mem_of_mem_take ((hT.all y).mpr ⟨_, _, List.getElem_mem hj, hy⟩)
    refine xs_drop (e_bmL (e_var rfl ⟨⟨_, isl_own g2⟩, ?_⟩))
    refine a_cons (e_draw 0 (a_cons (e_var rfl (a_cons (e_op (e_cb (a_cons (e_var rfl (a_nil (c_lenQ (isq_own g2) (e_int (o_addI ?_))))))))))))
    rw [sPy_len]
    refine a_nil ⟨_, _, rfl, hS2.pen, hS2.isp, by omega, by omega, fun r2 o3 a2 b2 p3 => ?_⟩
    have hS3 := hS2.drawn p3
    refine a_cons (e_var rfl (a_nil (m_insert (hS3.at_ j p _ hpj hk).2 (by rw [sPy_len]; omega) a2 (by omega) ?_)))
    rw [sPy_insAt]
    have hS4 := hS3.put (ys := insAt ks[j].2 r2.toNat x) hpj hk
    have hT4 := hT.put (k := ks[j].1) (xs := ks[j].2) hk r2.toNat hxi hxe
    have hnm := set_names (ys := insAt ks[j].2 r2.toNat x) (k := ks[j].1) (xs := ks[j].2) hk
    have hlen4 : (ks.set j (ks[j].1, insAt ks[j].2 r2.toNat x)).length = ks.length := List.length_set ..
    have hst : Stands (ks.set j (ks[j].1, insAt ks[j].2 r2.toNat x)) x ks[j].1 := (stands_put (k := ks[j].1) (xs := ks[j].2) hk _).mpr (.inr ⟨rfl, rfl⟩)
    have hlv4 : ∀ k ∈ ks.set j (ks[j].1, insAt ks[j].2 r2.toNat x), lookD kvs (.inr k.1) = some (.int (r k.1)) := fun k hk4 => by
      have : k.1 ∈ ks.map (·.1) := by rw [← hnm]; exact List.mem_map_of_mem hk4
      obtain ⟨k0, h0, e0⟩ := List.mem_map.mp this
      rw [← e0]
      exact hlv k0 h0
    have hjk := hlv _ (List.getElem_mem hj)
    generalize ks.set j (ks[j].1, insAt ks[j].2 r2.toNat x) = ks4 at hS4 hT4 hnm hlen4 hst hlv4
    rw [← L3.take_next hx] at hT4
    have hxn : ¬ x ∈ ks4.map (·.1) := fun h => by
      rw [hnm] at h
      rcases hT.knot_in h with e | e
      · exact hxe e
      · exact hxi e
    generalize ((l'.set 0 o2).set 0 o3).set p.2 (.lst (sPy (insAt ks[j].2 r2.toNat x))) = l4 at hS4
    clear hS3 hS2 hS g1 g2
    show ExS K _ [some (.own 0), some (.f (.list (sPy us))), some (.f (.int deep)), some (.own 3), some (.own 4), some (.f (.str x)), some (.f (.str ks[j].1)), some (.own p.2)] l4 _
    have no : ∀ {o4 : O} {l5 : List O} {kn : Str} {pn : Nat}, TreeS l5 ks4 ps kvs o4 → ∃ ks ps kvs o' r a b c, [some (D.own 0), some (.f (.list (sPy us))), some (.f (.int deep)), some (.own 3), some (.own 4), some (.f (.str x)), some (.f (.str kn)), some (.own pn)] = [some (.own 0), some (.f (.list (sPy us))), some (.f (.int deep)), some (.own 3), some (.own 4), a, b, c] ∧ TreeS l5 ks ps kvs o' ∧ Tree ks (us.take (i + 1)) deep r ∧ kvs.length ≤ i + 1 + 1 ∧ ∀ k ∈ ks, lookD kvs (.inr k.1) = some (.int (r k.1)) := fun h =>
      ⟨ks4, ps, kvs, _, r, _, _, _, rfl, h, hT4, by omega, hlv4⟩
    refine x_if (t_and (t_test (e_op (e_op (e_var rfl (e_var rfl (o_ixDk (k := .inr ks[j].1) hS4.dct hjk (e_var rfl (o_I0b ⟨_, rfl, ?_⟩)))))))))
    refine d_both (fun c1 => ?_) (fun c1 => iteF (x_next (no hS4)))
    refine t_test (e_op (e_draw 0 (a_cons (e_var rfl (a_cons (e_int (a_nil ⟨_, _, rfl, hS4.pen, hS4.isp, by decide, by decide, fun r3 o4 a3 b3 p4 => e_int (o_eqI ⟨_, rfl, ?_⟩)⟩)))))))
    have hS5 := hS4.drawn p4
    refine d_both (fun c2 => ?_) (fun c2 => x_next (no hS5))
    refine xs_dput (e_op (e_op (e_var rfl (e_var rfl (o_ixDk (k := .inr ks[j].1) hS5.dct hjk (e_int (o_addI ?_)))))))
    refine e_var rfl (e_var rfl ⟨4, kvs, .inr x, .int _, rfl, rfl, rfl, hS5.dct, by omega, ?_⟩)
    have hS6 := hS5.lev (kvs' := putD kvs (.inr x) (.int (r ks[j].1 + 1)))
    generalize (l4.set 0 o4).set 4 (.dct (putD kvs (.inr x) (.int (r ks[j].1 + 1)))) = l6 at hS6
    refine x_drop (e_bmR (e_var rfl ⟨⟨_, _, rfl, hS6.rfs⟩, ?_⟩))
    refine a_cons (e_op (e_int (e_draw 0 (a_cons (e_var rfl (a_cons (e_cb (a_cons (e_var rfl (a_nil (c_lenR hS6.rfs ?_)))))))))))
    have hps : ps.length = ks4.length := hS6.len
    refine a_nil ⟨_, _, rfl, hS6.pen, hS6.isp, by rw [List.length_map]; omega, by rw [List.length_map]; omega, fun r4 o5 a4 b4 p5 => o_addI ?_⟩
    rw [List.length_map] at b4
    have hS7 := hS6.drawn p5
    refine a_cons (e_tpr (a_cons (e_var rfl (a_cons (e_lst (a_nil ⟨[], rfl, by decide, a_nil ⟨Nat.le_of_ble_eq_true rfl, ?_⟩⟩))))))
    have hS8 := hS7.group (x := x) (j := r4.toNat + 1) (by omega)
    have el : (l6.set 0 o5 ++ [O.lst []] ++ [O.tpr [D.f (.str x), D.own (l6.set 0 o5).length]]) = l6.set 0 o5 ++ [O.lst [], O.tpr [D.f (.str x), D.own (l6.set 0 o5).length]] := by rw [List.append_assoc]; rfl
    refine a_nil (m_insertR (n := 3) (ds := ps.map fun p => D.own p.1) ?_ (by rw [List.length_map]; omega) (by omega) (by omega) ?_)
    · rw [List.append_assoc, List.getElem?_append_left (List.getElem?_eq_some_iff.mp hS7.rfs).1]
      exact hS7.rfs
    have e1 : (1 + r4).toNat = r4.toNat + 1 := by omega
    have e2 : (l6.set 0 o5 ++ [O.lst []]).length = (l6.set 0 o5).length + 1 := by rw [List.length_append]; rfl
    rw [e1, e2, el]
    refine ⟨insAt ks4 (r4.toNat + 1) (x, []), _, _, _, fun y => if y = x then r ks[j].1 + 1 else r y, _, _, _, rfl, hS8, hT4.group r4.toNat hst hxn rfl c1 (by
      have h1 := hT.len
      have h2 : (us.take (i + 1)).length = (us.take i).length + 1 := by rw [L3.take_next hx, List.length_append]; rfl
      omega), ?_, ?_⟩
    · have := putD_len kvs (.inr x) (.int (r ks[j].1 + 1))
      omega
    · intro k hk4
      rw [lookD_put]
      rcases mem_insAt.mp hk4 with hk4 | rfl
      · have ne : k.1 ≠ x := fun e => hxn (e ▸ List.mem_map_of_mem hk4)
        rw [if_neg fun e => ne (Sum.inr.inj e).symm]
        show _ = some (PyData.int (if k.1 = x then _ else _))
        rw [if_neg ne]
        exact hlv4 k hk4
      · rw [if_pos rfl]
        show _ = some (PyData.int (if x = x then _ else _))
        rw [if_pos rfl]
  rintro ρ' l' ⟨ks, ps, kvs, o', r, a, b, c, rfl, hS, hT, hkl, hlv⟩
  rw [sPy_len, List.take_length] at hT
  refine x_ret (e_cb (a_cons (e_lcRf (gg_tup (gg_cons (gg_name (by decide)) (gg_cons (gg_name (by decide)) gg_nil mono_name) mono_name)) (e_var rfl ⟨3, _, rfl, hS.rfs, fun i acc l2 => l2 = l' ∧ acc = ksPy (ks.take i), ⟨rfl, rfl⟩, ?_, ?_, ?_⟩))))
  · rintro i acc l2 hi ⟨rfl, rfl⟩
    refine ⟨hS.rfs, ?_⟩
    rw [ksPy_len, List.length_take]
    have := hT.len
    omega
  · rintro i d acc l2 hdd ⟨rfl, rfl⟩
    rw [List.getElem?_map] at hdd
    cases hpi : ps[i]? with
    | none => rw [hpi] at hdd; cases hdd
    | some p =>
      rw [hpi] at hdd
      cases hdd
      have hil : i < ks.length := by rw [← hS.len]; exact (List.getElem?_eq_some_iff.mp hpi).1
      have hki : ks[i]? = some ks[i] := List.getElem?_eq_getElem hil
      obtain ⟨g1, g2⟩ := hS.at_ i p _ hpi hki
      refine g_tpr g1 rfl (g_cons (g_name (g_cons (g_name (g_nil (t_yes ?_))))))
      refine e_tup (a_cons (e_var rfl (a_cons (e_cb (a_cons (e_var rfl (a_nil (c_tupleP (isl_own g2) (a_nil ⟨_, rfl, Nat.le_of_ble_eq_true rfl, ?_⟩)))))))))
      refine ⟨_, rfl, rfl, ?_⟩
      rw [L3.take_next hki, ksPy_app]
      rfl
  · rintro acc l2 ⟨rfl, rfl⟩
    have e : ks.take (ps.map fun p => D.own p.1).length = ks := by rw [List.length_map, hS.len, List.take_length]
    rw [e]
    refine a_nil (c_tupleP (isl_own (n := l2.length) (by rw [List.getElem?_append_right (Nat.le_refl _), Nat.sub_self]; rfl)) ?_)
    have hl1 : 1 ≤ l2.length := by have := (List.getElem?_eq_some_iff.mp hS.pen).1; omega
    have ht : (l2 ++ [O.lst (ksPy ks)]).take [o].length = [o'] := by
      show (l2 ++ [O.lst (ksPy ks)]).take 1 = _
      rw [List.take_append_of_le_length hl1]; exact hS.take1
    refine Res.dat (by rw [ht]; intro y hy; cases hy with | head => exact hS.isp.under | tail _ h => cases h) ?_
    rw [ht]
    exact z o' ks r hS.isp hT
def S__law_around : Spec3 := fun ds g R => ∃ ks us, ds = [.f (plD (ksPy ks))] ∧ g = [] ∧ TreeB ks us ∧ ∀ kvs, Arounds ks kvs → R (.own 0) [.dct kvs]
abbrev s__law_around : Stmt := top 21
theorem sc__law_around : FnScope ["_law_knots", "_law_found", "_law_name", "_law_some", "_law_unit"] ["_law_knots"] (defScope s__law_around) := ⟨rfl, rfl, rfl, by decide +kernel, rfl, by decide +kernel, by decide +kernel⟩
set_option maxHeartbeats 4000000 in
theorem ok__law_around (T : Bi K mg) (Df : DefAt K mg "_law_around" s__law_around ["_law_knots"]) : Cal P w K mg base 1 "_law_around" ["_law_knots"] S__law_around := by
  refine ok4 Df sc__law_around (fun ds g R h0 => by obtain ⟨_, _, h, _⟩ := h0; rw [h]; rfl) (fun cdv A outer s H E f hr => ?_)
  have hu1 := hu_of hr.r
  have hu64 := hr.units
  have hu65 : (A.deeper (PyProof.Rows.envOfC "_law_around" (defScope s__law_around) s.heap.objs.size f cdv)).units + 65 < cLine := by have := hr.un; omega
  refine ⟨_, (pss_cons (ps_set (i := 1) sc__law_around.nd rfl (by first | exact Or.inl rfl | exact Or.inr rfl) pe_dnewK)
    (pss_cons (ps_for PassesOwn.never rfl (u_seq (K := K) rfl (pv 0)) (u_tup (K := K) (n := 2) rfl (by rfl) (pgs_cons (pg_name (i := 2) sc__law_around.nd rfl (by first | exact Or.inl rfl | exact Or.inr rfl)) (pgs_cons (pg_name (i := 3) sc__law_around.nd rfl (by first | exact Or.inl rfl | exact Or.inr rfl)) pgs_nil)))
    (pss_one (ps_for PassesOwn.never rfl (u_seq (K := K) rfl (pv 3)) (pg_name (i := 4) sc__law_around.nd rfl (by first | exact Or.inl rfl | exact Or.inr rfl))
    (pss_one (ps_dput hu1 (pv 1) (pv 4) (pv 2) rfl)))))
    (pss_one (ps_ret (pv 1))))), fun ds g R hS => ?_⟩
  obtain ⟨ks, us, rfl, rfl, ⟨deep, r, hT, hdp, hul⟩, z⟩ := hS
  show ExS K _ [some _, none, none, none, none] _ _
  refine xs_set (e_dK ?_)
  have hin : ∀ (n : Nat) k, ks[n]? = some k → ∀ u ∈ k.2, Stands ks u k.1 := fun n k hk u hu => ⟨k.2, List.mem_of_getElem? hk, hu⟩
  have hul2 : ∀ k ∈ ks, k.2.length ≤ us.length := fun k hk => nodup_le (hT.nd k hk) fun y hy => (hT.all y).mpr ⟨_, _, hk, hy⟩
  have hkl : ks.length ≤ 61 := by have := hT.len; omega
  refine xs_forP (e_var rfl ⟨ksPy ks, rfl, fun i ρ' l' => ∃ kvs a b c, ρ' = [some (.f (plD (ksPy ks))), some (.own 0), a, b, c] ∧ l' = [.dct kvs] ∧ kvs.length ≤ 60 * i ∧ ∀ u k, Stands (ks.take i) u k → lookD kvs (.inr u) = some (.str k), ⟨[], none, none, none, rfl, rfl, Nat.zero_le _, fun u k ⟨xs, h1, _⟩ => by simp at h1⟩, ?_, ?_⟩)
  · rintro i d ρ' l' hd ⟨kvs, a, b, c, rfl, rfl, hkv, hA⟩
    obtain ⟨k, hk, rfl⟩ := ksPy_get hd
    have hkm := List.mem_of_getElem? hk
    have hk60 := hul2 k hkm
    have hil := (List.getElem?_eq_some_iff.mp hk).1
    refine g_tup rfl (g_cons (g_name (g_cons (g_name (g_nil ?_)))))
    refine x_forP (e_var rfl ⟨sPy k.2, rfl, fun j ρ' l' => ∃ kvs c, ρ' = [some (.f (plD (ksPy ks))), some (.own 0), some (.f (.str k.1)), some (.f (plD (sPy k.2))), c] ∧ l' = [.dct kvs] ∧ kvs.length ≤ 60 * i + j ∧ (∀ u k, Stands (ks.take i) u k → lookD kvs (.inr u) = some (.str k)) ∧ ∀ u ∈ k.2.take j, lookD kvs (.inr u) = some (.str k.1),
      ⟨kvs, c, rfl, rfl, hkv, hA, fun u hu => by simp at hu⟩, ?_, ?_⟩)
    · rintro j d ρ' l' hd2 ⟨kvs, c, rfl, rfl, hkv, hA, hB⟩
      obtain ⟨u, hu, rfl⟩ := sPy_get hd2
      have hum := List.mem_of_getElem? hu
      have hjl := (List.getElem?_eq_some_iff.mp hu).1
      refine g_name (x_dput (e_var rfl (e_var rfl (e_var rfl ⟨0, kvs, .inr u, .str k.1, rfl, rfl, rfl, rfl, by omega, ?_⟩))))
      refine ⟨putD kvs (.inr u) (.str k.1), _, rfl, rfl, ?_, fun v kk hv => ?_, fun v hv => ?_⟩
      · have := putD_len kvs (.inr u) (.str k.1)
        omega
      · rw [lookD_put]
        by_cases e : u = v
        · subst e
          rw [if_pos rfl]
          obtain ⟨xs, m1, m2⟩ := hv
          rw [hT.one u kk k.1 ⟨xs, List.mem_of_mem_take m1, m2⟩ ⟨k.2, hkm, hum⟩]
        · rw [if_neg fun q => e (Sum.inr.inj q)]
          exact hA v kk hv
      · rw [lookD_put]
        by_cases e : u = v
        · subst e; rw [if_pos rfl]
        · rw [if_neg fun q => e (Sum.inr.inj q)]
          rw [L3.take_next hu] at hv
          rcases List.mem_append.mp hv with h | h
          · exact hB v h
          · exact absurd (List.mem_singleton.mp h).symm e
    · rintro ρ' l' ⟨kvs, c, rfl, rfl, hkv, hA, hB⟩
      rw [sPy_len, List.take_length] at hB
      rw [sPy_len] at hkv
      refine ⟨kvs, _, _, _, rfl, rfl, by omega, fun u kk hs => ?_⟩
      obtain ⟨xs, m1, m2⟩ := hs
      rw [L3.take_next hk] at m1
      rcases List.mem_append.mp m1 with h | h
      · exact hA u kk ⟨xs, h, m2⟩
      · have e := List.mem_singleton.mp h
        subst e
        exact hB u m2
  rintro ρ' l' ⟨kvs, a, b, c, rfl, rfl, hkv, hA⟩
  rw [ksPy_len, List.take_length] at hA
  exact x_ret (e_var rfl (Res.own (n := 0) rfl trivial nofun (Nat.zero_le _) (fun _ h => by cases h) (z kvs hA)))
def S__law_path : Spec3 := fun ds g R => ∃ ks us kvs u, ds = [.own 0, .f (.str u)] ∧ g = [.dct kvs] ∧ TreeB ks us ∧ Arounds ks kvs ∧ u ∈ us ∧ ∀ p, Up ks u p → R (.own 1) [.dct kvs, .lst (sPy p)]
abbrev s__law_path : Stmt := top 22
theorem sc__law_path : FnScope ["_law_around_here", "_law_unit", "_law_path_here"] ["_law_around_here", "_law_unit"] (defScope s__law_path) := ⟨rfl, rfl, rfl, by decide +kernel, rfl, by decide +kernel, by decide +kernel⟩
set_option maxHeartbeats 4000000 in
theorem ok__law_path (T : Bi K mg) (Df : DefAt K mg "_law_path" s__law_path ["_law_around_here", "_law_unit"]) : Cal P w K mg base 1 "_law_path" ["_law_around_here", "_law_unit"] S__law_path := by
  refine ok4 Df sc__law_path (fun ds g R h0 => by obtain ⟨_, _, _, _, h, _⟩ := h0; rw [h]; rfl) (fun cdv A outer s H E f hr => ?_)
  have hu1 := hu_of hr.r
  have hu64 := hr.units
  have hu65 : (A.deeper (PyProof.Rows.envOfC "_law_path" (defScope s__law_path) s.heap.objs.size f cdv)).units + 65 < cLine := by have := hr.un; omega
  refine ⟨_, (pss_cons (ps_set (i := 2) sc__law_path.nd rfl (by first | exact Or.inl rfl | exact Or.inr rfl) (pe_lst (pa_cons (pv 1) pa_nil)))
    (pss_cons (ps_while PassesOwn.never (pt_cmpR (u_ne (K := K) rfl hu64) (pe_ix (u_ix (K := K) rfl hu1) (pv 2) pe_int (fun _ _ => rfl)) pe_str (nomark _))
    (pss_one (ps_expr (u_bm (K := K) rfl PySem.F.plainAttrs_list PySem.F.slot_list_insert PySem.F.type_list_insert u_insert (pv 2) (pa_cons pe_int (pa_cons (pe_ix (u_ix (K := K) rfl hu1) (pv 0) (pe_ix (u_ix (K := K) rfl hu1) (pv 2) pe_int (fun _ _ => rfl)) (fun _ _ => rfl)) pa_nil))))))
    (pss_one (ps_ret (pv 2))))), fun ds g R hS => ?_⟩
  obtain ⟨ks, us, kvs, u, rfl, rfl, ⟨deep, r, hT, hdp, hul⟩, hA, hu, z⟩ := hS
  show ExS K _ [some _, some _, none] _ _
  refine xs_set (e_lst (a_cons (e_var rfl (a_nil ⟨[.str u], rfl, Nat.le_of_ble_eq_true rfl, ?_⟩))))
  obtain ⟨p, hp, hpl⟩ := hT.path hu
  refine xs_while (fun ρ' l' => ∃ v q s, ρ' = [some (.own 0), some (.f (.str u)), some (.own 1)] ∧ l' = [.dct kvs, .lst (sPy (v :: s))] ∧ Up ks v q ∧ p = q ++ s) (fun _ l' => p.length - lenI l' 1) ⟨u, p, [], rfl, rfl, hp, by simp⟩ ?_
  rintro ρ' l' ⟨v, q, s, rfl, rfl, hq, hps⟩
  have hv0 : atI (sPy (v :: s)) 0 = some (.str v) := atI_nat rfl
  refine t_test (e_op (e_op (e_var rfl (e_int (o_ixQ (isq_own (n := 1) rfl) hv0 (e_str (o_neS ⟨_, rfl, ?_⟩)))))))
  refine nd_both (fun c1 => ?_) (fun c1 => ?_)
  · cases hq with
    | top => exact absurd rfl c1
    | @step _ k q' h1 h2 h3 =>
      obtain ⟨q2, eq2⟩ := h3.ne
      have hlen : p.length = q'.length + 1 + s.length := by rw [hps]; simp; omega
      have hq2 : 1 ≤ q'.length := by rw [eq2]; simp
      refine x_drop (e_bmL (e_var rfl ⟨⟨_, isl_own (n := 1) rfl⟩, ?_⟩))
      refine a_cons (e_int (a_cons (e_op (e_var rfl (e_op (e_var rfl (e_int (o_ixQ (isq_own (n := 1) rfl) hv0 ?_))))))))
      refine o_ixDk (n := 0) (k := .inr v) rfl (hA v k h2) (a_nil (m_insert (n := 1) rfl (by rw [sPy_len]; simp; omega) (by decide) (by decide) ?_))
      refine ⟨⟨k, q', v :: s, rfl, rfl, h3, by rw [hps]; simp⟩, ?_⟩
      show p.length - (sPy (k :: v :: s)).length < p.length - (sPy (v :: s)).length
      rw [sPy_len, sPy_len]
      simp only [List.length_cons]
      omega
  · subst c1
    cases hq with
    | step h1 _ _ => exact absurd rfl h1
    | top =>
      refine x_ret (e_var rfl (Res.own (n := 1) rfl trivial nofun (Nat.le_refl _) (fun x hx => by cases hx with | head => trivial | tail _ h => cases h) ?_))
      have e : p = nil0 :: s := hps
      show R (.own 1) [.dct kvs, .lst (sPy (nil0 :: s))]
      rw [← e]
      exact z p hp
def slotN (ρ : List (Option D)) (i : Nat) : Nat := match ρ[i]? with | some (some (.f (.int k))) => k.toNat | _ => 0
def S__law_parting : Spec3 := fun ds g R => ∃ ks us kvs u v, ds = [.own 0, .f (.str u), .f (.str v)] ∧ g = [.dct kvs] ∧ TreeB ks us ∧ Arounds ks kvs ∧ u ∈ us ∧ v ∈ us ∧ R (.f (partD (partF ks u v))) [.dct kvs]
abbrev s__law_parting : Stmt := top 23
theorem sc__law_parting : FnScope ["_law_around_here", "_law_one", "_law_other", "_law_here", "_law_there", "_law_at"] ["_law_around_here", "_law_one", "_law_other"] (defScope s__law_parting) := ⟨rfl, rfl, rfl, by decide +kernel, rfl, by decide +kernel, by decide +kernel⟩
set_option maxHeartbeats 4000000 in
theorem ok__law_parting (T : Bi K mg) (Df : DefAt K mg "_law_parting" s__law_parting ["_law_around_here", "_law_one", "_law_other"]) (C__law_path : Cal P w K mg base 1 "_law_path" ["_law_around_here", "_law_unit"] S__law_path) : Cal P w K mg base 2 "_law_parting" ["_law_around_here", "_law_one", "_law_other"] S__law_parting := by
  refine ok4 Df sc__law_parting (fun ds g R h0 => by obtain ⟨_, _, _, _, _, h, _⟩ := h0; rw [h]; rfl) (fun cdv A outer s H E f hr => ?_)
  have hu1 := hu_of hr.r
  have hu64 := hr.units
  have hu65 : (A.deeper (PyProof.Rows.envOfC "_law_parting" (defScope s__law_parting) s.heap.objs.size f cdv)).units + 65 < cLine := by have := hr.un; omega
  refine ⟨_, (pss_cons (ps_set (i := 3) sc__law_parting.nd rfl (by first | exact Or.inl rfl | exact Or.inr rfl) (pe_cal (K := K) rfl C__law_path (hr.mono (by decide)) (by rfl) (pa_cons (pv 0) (pa_cons (pv 1) pa_nil))))
    (pss_cons (ps_set (i := 4) sc__law_parting.nd rfl (by first | exact Or.inl rfl | exact Or.inr rfl) (pe_cal (K := K) rfl C__law_path (hr.mono (by decide)) (by rfl) (pa_cons (pv 0) (pa_cons (pv 2) pa_nil))))
    (pss_cons (ps_set (i := 5) sc__law_parting.nd rfl (by first | exact Or.inl rfl | exact Or.inr rfl) pe_int)
    (pss_cons (ps_while PassesOwn.never (PW.pt (pw_and (pt_cmpR op_lt (pv 5) (pe_callB (u_min2 rfl) (by rfl) T.b_min (by decide +kernel) (pa_cons (pe_callB (u_len (K := K) rfl) (by rfl) T.b_len (by decide +kernel) (pa_cons (pv 3) pa_nil)) (pa_cons (pe_callB (u_len (K := K) rfl) (by rfl) T.b_len (by decide +kernel) (pa_cons (pv 4) pa_nil)) pa_nil))) (nomark _)) (pw_and1 (pt_cmpR (u_eq (K := K) rfl hu64) (pe_ix (u_ix (K := K) rfl hu1) (pv 3) (pv 5) (fun _ _ => rfl)) (pe_ix (u_ix (K := K) rfl hu1) (pv 4) (pv 5) (fun _ _ => rfl)) (nomark _)))))
    (pss_one (ps_set (i := 5) sc__law_parting.nd rfl (by first | exact Or.inl rfl | exact Or.inr rfl) (pe_op (u_add (K := K) rfl) (pv 5) pe_int))))
    (pss_cons (ps_if (pt_cmpR (u_eq (K := K) rfl hu64) (pv 5) (pe_callB (u_min2 rfl) (by rfl) T.b_min (by decide +kernel) (pa_cons (pe_callB (u_len (K := K) rfl) (by rfl) T.b_len (by decide +kernel) (pa_cons (pv 3) pa_nil)) (pa_cons (pe_callB (u_len (K := K) rfl) (by rfl) T.b_len (by decide +kernel) (pa_cons (pv 4) pa_nil)) pa_nil))) (nomark _))
    (pss_one (ps_ret pe_non))
    pss_nil)
    (pss_one (ps_ret (pe_tup (pa_cons (pe_ix (u_ix (K := K) rfl hu1) (pv 3) (pe_op op_sub (pv 5) pe_int) (fun _ _ => rfl)) (pa_cons (pe_ix (u_ix (K := K) rfl hu1) (pv 3) (pv 5) (fun _ _ => rfl)) (pa_cons (pe_ix (u_ix (K := K) rfl hu1) (pv 4) (pv 5) (fun _ _ => rfl)) pa_nil))))))))))), fun ds g R hS => ?_⟩
  obtain ⟨ks, us, kvs, u, v, rfl, rfl, ⟨deep, r, hT, hdp, hul⟩, hA, hu, hv, z0⟩ := hS
  show ExS K _ [some _, some _, some _, none, none, none] _ _
  have hB : TreeB ks us := ⟨deep, r, hT, hdp, hul⟩
  have z : ∀ p q, Up ks u p → Up ks v q → R (.f (partD (partP p q))) [.dct kvs] := fun p q hp hq => by
    rw [hB.eq hp (.inl hu), hB.eq hq (.inl hv)]; exact z0
  obtain ⟨p, hp, hpl⟩ := hT.path hu
  obtain ⟨q, hq, hql⟩ := hT.path hv
  refine xs_set (e_call1 0 (a_cons (e_var rfl (a_cons (e_var rfl (a_nil ⟨_, _, rfl, trivial, rfl, ks, us, kvs, u, rfl, rfl, hB, hA, hu, fun p' hp' => ⟨_, _, rfl, ?_⟩⟩))))))
  cases hp.uniq hT hp'
  refine xs_set (e_call1 0 (a_cons (e_var rfl (a_cons (e_var rfl (a_nil ⟨_, _, rfl, trivial, rfl, ks, us, kvs, v, rfl, rfl, hB, hA, hv, fun q' hq' => ⟨_, _, rfl, ?_⟩⟩))))))
  cases hq.uniq hT hq'
  refine xs_set (e_int ?_)
  show ExS K _ [some (.own 0), some (.f (.str u)), some (.f (.str v)), some (.own 1), some (.own 2), some (.f (.int 0))] [.dct kvs, .lst (sPy p), .lst (sPy q)] _
  have hle := common_le p q
  refine xs_while (fun ρ' l' => ∃ n : Nat, ρ' = [some (.own 0), some (.f (.str u)), some (.f (.str v)), some (.own 1), some (.own 2), some (.f (.int n))] ∧ l' = [.dct kvs, .lst (sPy p), .lst (sPy q)] ∧ n ≤ common p q) (fun ρ' _ => p.length - slotN ρ' 5) ⟨0, rfl, rfl, Nat.zero_le _⟩ ?_
  rintro ρ' l' ⟨n, rfl, rfl, hn⟩
  have hmin : ∀ {R : D → List O → Prop} {ρ : List (Option D)}, ρ[3]? = some (some (.own 1)) → ρ[4]? = some (some (.own 2)) → R (.f (.int ((min p.length q.length : Nat) : Int))) [.dct kvs, .lst (sPy p), .lst (sPy q)] →
      EvS K (tCB rMin2 (tCons (tCB (rLenU K) (tCons (tVar 3) tNil)) (tCons (tCB (rLenU K) (tCons (tVar 4) tNil)) tNil))) ρ [.dct kvs, .lst (sPy p), .lst (sPy q)] R := by
    intro R ρ h1 h2 z
    refine e_cb (a_cons (e_cb (a_cons (e_var h1 (a_nil (c_lenQ (isq_own (n := 1) rfl) ?_))))))
    refine a_cons (e_cb (a_cons (e_var h2 (a_nil (c_lenQ (isq_own (n := 2) rfl) (a_nil (c_min2 ?_)))))))
    rw [sPy_len, sPy_len]
    have e : (if ((q.length : Nat) : Int) < ((p.length : Nat) : Int) then ((q.length : Nat) : Int) else ((p.length : Nat) : Int)) = ((min p.length q.length : Nat) : Int) := by split <;> omega
    rw [e]
    exact z
  have hat : ∀ {xs : List Str} {n : Nat}, n < xs.length → atI (sPy xs) (n : Int) = some (.str (xs.getD n nil0)) := fun {xs n} h => atI_nat (sPy_get_of (by rw [List.getD_eq_getElem?_getD, List.getElem?_eq_getElem h]; rfl))
  have same : ∀ {n : Nat}, n < p.length → n < q.length → (p.getD n nil0 = q.getD n nil0 ↔ p[n]? = q[n]?) := fun {n} h1 h2 => by
    rw [List.getD_eq_getElem?_getD, List.getD_eq_getElem?_getD, List.getElem?_eq_getElem h1, List.getElem?_eq_getElem h2]
    simp
  refine EvT.imp (R := fun b l1 => l1 = [.dct kvs, .lst (sPy p), .lst (sPy q)] ∧ if b = true then n < common p q else n = common p q) ?_ ?_
  · refine t_and (t_test (e_op (e_var rfl (hmin rfl rfl (o_I0b ⟨_, rfl, ?_⟩)))))
    refine d_both (fun c1 => ?_) (fun c1 => ⟨rfl, ?_⟩)
    · have h1 : n < p.length := by omega
      have h2 : n < q.length := by omega
      refine t_test (e_op (e_op (e_var rfl (e_var rfl (o_ixQ (isq_own (n := 1) rfl) (hat h1) ?_)))))
      refine e_op (e_var rfl (e_var rfl (o_ixQ (isq_own (n := 2) rfl) (hat h2) (o_eqS ⟨_, rfl, ?_⟩))))
      have hs := same h1 h2
      by_cases c2 : p.getD n nil0 = q.getD n nil0
      · rw [decide_eq_true c2]
        refine ⟨rfl, ?_⟩
        show n < common p q
        rcases Nat.lt_or_ge n (common p q) with h | h
        · exact h
        · have e : n = common p q := Nat.le_antisymm hn h
          have := common_end (xs := p) (ys := q) (by omega)
          rw [← e] at this
          exact absurd (hs.mp c2) this
      · rw [decide_eq_false c2]
        refine ⟨rfl, ?_⟩
        show n = common p q
        rcases Nat.lt_or_ge n (common p q) with h | h
        · exact absurd (hs.mpr (common_at h)) c2
        · exact Nat.le_antisymm hn h
    · show n = common p q
      omega
  rintro b l1 ⟨rfl, hb⟩
  cases b with
  | true =>
    have hb : n < common p q := hb
    refine x_set (e_op (e_var rfl (e_int (o_addI ?_))))
    refine ⟨⟨n + 1, rfl, rfl, hb⟩, ?_⟩
    show p.length - ((n : Int) + 1).toNat < p.length - ((n : Int)).toNat
    omega
  | false =>
    have hb : n = common p q := hb
    show ExS K _ _ _ _
    refine xs_gateC (¬ common p q = min p.length q.length) ?_ ?_
    · refine t_test (e_op (e_var rfl (hmin rfl rfl (o_eqI ⟨_, rfl, ?_⟩))))
      refine d_both (fun c1 => ?_) (fun c1 => ⟨rfl, fun e => c1 (by rw [hb, e])⟩)
      have e : partP p q = none := if_pos (by omega)
      refine x_ret (e_non (Res.dat (fun x hx => by cases hx with | head => trivial | tail _ h => cases h) ?_))
      have := z p q hp hq
      rw [e] at this
      exact this
    intro hne
    have hlt : n < min p.length q.length := by omega
    obtain ⟨p2, ep⟩ := hp.ne
    obtain ⟨q2, eq⟩ := hq.ne
    have hn1 : 1 ≤ n := by
      rw [hb, ep, eq]
      simp [common]
    have e : partP p q = some (p.getD (n - 1) nil0, p.getD n nil0, q.getD n nil0) := by
      unfold partP
      rw [if_neg hne, hb]
    have zz := z p q hp hq
    rw [e] at zz
    refine x_ret (e_tup (a_cons (e_op (e_var rfl (e_op (e_var rfl (e_int (o_I0i ?_))))))))
    rw [show (n : Int) - 1 = ((n - 1 : Nat) : Int) by omega]
    refine o_ixQ (isq_own (n := 1) rfl) (hat (by omega)) ?_
    refine a_cons (e_op (e_var rfl (e_var rfl (o_ixQ (isq_own (n := 1) rfl) (hat (by omega)) ?_))))
    refine a_cons (e_op (e_var rfl (e_var rfl (o_ixQ (isq_own (n := 2) rfl) (hat (by omega)) ?_))))
    refine a_nil ⟨_, rfl, Nat.le_of_ble_eq_true rfl, Res.dat (fun x hx => by cases hx with | head => trivial | tail _ h => cases h) zz⟩
theorem tieE_next {ks : Knots} {k : Str} {ts : Ties} {i : Nat} {e : Str × Str} (he : ts[i]? = some e) : tieE ks k (ts.take (i + 1)) = tieE ks k (ts.take i) ++ (tieE1 ks k e).toList := by
  rw [L3.take_next he]
  unfold tieE
  rw [List.filterMap_append]
  congr 1
def wantF (X : List Str) (w : Str) : PyData → Option PyData
  | .tuple [.str a, .str b] => if (decide (a = w) && decide (b ∈ X)) = true then some (.str b) else none
  | _ => none
theorem wantF_eq (ks : Knots) (k w : Str) (ws : Ties) : (pPy ws).filterMap (wantF (kids ks k) w) = sPy (wantUs ks k w ws) := by
  induction ws with
  | nil => rfl
  | cons q ws ih =>
    have e : wantF (kids ks k) w (.tuple [.str q.1, .str q.2]) = if (decide (q.1 = w) && decide (q.2 ∈ kids ks k)) = true then some (.str q.2) else none := rfl
    show (PyData.tuple [.str q.1, .str q.2] :: pPy ws).filterMap _ = _
    rw [List.filterMap_cons, ih, e]
    unfold wantUs
    rw [List.filter_cons]
    cases (decide (q.1 = w) && decide (q.2 ∈ kids ks k)) <;> rfl
def wordsL : List Str := ["first", "last"]
def wantP (w u o : Str) : Str × Str := if w = ("last" : Str) then (o, u) else (u, o)
theorem wantRow_next {w u o : Str} {X : List Str} {i : Nat} (h : X[i]? = some o) : wantRow w u (X.take (i + 1)) = wantRow w u (X.take i) ++ if o ≠ u then [wantP w u o] else [] := by
  rw [L3.take_next h]
  unfold wantRow
  rw [List.filter_append, List.map_append]
  congr 1
  rw [List.filter_cons]
  by_cases e : o = u
  · rw [decide_eq_false (by simpa using e), if_neg (show ¬ o ≠ u from fun q => q e)]
    rfl
  · rw [decide_eq_true (by simpa using e), if_pos e]
    rfl
def S__law_edges : Spec3 := fun ds g R => ∃ ks us ts wt ws k, ds = [.f (houseD ks ts wt ws), .f (.str k)] ∧ g = [] ∧ TreeB ks us ∧ Parted ks us ts ∧ ts.length ≤ 200 ∧ ws.length ≤ 60 ∧ k ∈ ks.map (·.1) ∧ (∀ u ∈ us, PyData.strOk u = true) ∧ R (.own 0) [.lst (pPy (edgesF ks ts ws k))]
abbrev s__law_edges : Stmt := top 24
theorem sc__law_edges : FnScope ["_law_house_here", "_law_knot", "_law_some", "_law_around_here", "_law_found", "_law_one", "_law_other", "_law_told", "_law_word", "_law_unit", "_law_pair", "_law_sort"] ["_law_house_here", "_law_knot"] (defScope s__law_edges) := ⟨rfl, rfl, rfl, by decide +kernel, rfl, by decide +kernel, by decide +kernel⟩
set_option maxHeartbeats 4000000 in
theorem ok__law_edges (T : Bi K mg) (Df : DefAt K mg "_law_edges" s__law_edges ["_law_house_here", "_law_knot"]) (C__law_parting : Cal P w K mg base 2 "_law_parting" ["_law_around_here", "_law_one", "_law_other"] S__law_parting) (C__law_around : Cal P w K mg base 1 "_law_around" ["_law_knots"] S__law_around) : Cal P w K mg base 3 "_law_edges" ["_law_house_here", "_law_knot"] S__law_edges := by
  refine ok4 Df sc__law_edges (fun ds g R h0 => by obtain ⟨_, _, _, _, _, _, h, _⟩ := h0; rw [h]; rfl) (fun cdv A outer s H E f hr => ?_)
  have hu1 := hu_of hr.r
  have hu64 := hr.units
  have hu65 : (A.deeper (PyProof.Rows.envOfC "_law_edges" (defScope s__law_edges) s.heap.objs.size f cdv)).units + 65 < cLine := by have := hr.un; omega
  refine ⟨_, (pss_cons (ps_set (i := 2) sc__law_edges.nd rfl (by first | exact Or.inl rfl | exact Or.inr rfl) (pe_ix (u_ix (K := K) rfl hu1) (pe_callTy (u_dictP (K := K) rfl rfl) (by rfl) T.b_dict (by decide +kernel) (pa_cons (pe_ix (u_ix (K := K) rfl hu1) (pv 0) pe_int (fun _ _ => rfl)) pa_nil)) (pv 1) (fun _ _ => rfl)))
    (pss_cons (ps_set (i := 3) sc__law_edges.nd rfl (by first | exact Or.inl rfl | exact Or.inr rfl) (pe_cal (K := K) rfl C__law_around (hr.mono (by decide)) (by rfl) (pa_cons (pe_ix (u_ix (K := K) rfl hu1) (pv 0) pe_int (fun _ _ => rfl)) pa_nil)))
    (pss_cons (ps_set (i := 4) sc__law_edges.nd rfl (by first | exact Or.inl rfl | exact Or.inr rfl) (pe_lst pa_nil))
    (pss_cons (ps_for PassesOwn.never rfl (u_seq (K := K) rfl (pe_ix (u_ix (K := K) rfl hu1) (pv 0) pe_int (fun _ _ => rfl))) (u_tup (K := K) (n := 2) rfl (by rfl) (pgs_cons (pg_name (i := 5) sc__law_edges.nd rfl (by first | exact Or.inl rfl | exact Or.inr rfl)) (pgs_cons (pg_name (i := 6) sc__law_edges.nd rfl (by first | exact Or.inl rfl | exact Or.inr rfl)) pgs_nil)))
    (pss_cons (ps_set (i := 7) sc__law_edges.nd rfl (by first | exact Or.inl rfl | exact Or.inr rfl) (pe_cal (K := K) rfl C__law_parting (hr.mono (by decide)) (by rfl) (pa_cons (pv 3) (pa_cons (pv 5) (pa_cons (pv 6) pa_nil)))))
    (pss_one (ps_if (PW.pt (pw_and (pt_cmpR (u_eq (K := K) rfl hu64) (pe_ix (u_ix (K := K) rfl hu1) (pv 7) pe_int (fun _ _ => rfl)) (pv 1) (nomark _)) (pw_and1 (pt_cmpR (u_notIn (K := K) rfl hu65) (pe_slice (u_sl (K := K) rfl) (pv 7) (po_some pe_int) po_none) (pv 4) (by rfl)))))
    (pss_one (ps_expr (u_bm (K := K) rfl PySem.F.plainAttrs_list PySem.F.slot_list_append PySem.F.type_list_append mt_append (pv 4) (pa_cons (pe_slice (u_sl (K := K) rfl) (pv 7) (po_some pe_int) po_none) pa_nil))))
    pss_nil))))
    (pss_cons (ps_for PassesOwn.never rfl (u_seq (K := K) rfl (pe_tup (pa_cons pe_str (pa_cons pe_str pa_nil)))) (pg_name (i := 8) sc__law_edges.nd rfl (by first | exact Or.inl rfl | exact Or.inr rfl))
    (pss_one (ps_for PassesOwn.never rfl (u_seq (K := K) rfl (pe_lc (own := [("_law_sort", 11), ("_law_unit", 9)]) (by rfl) sc__law_edges.nd (u_seq (K := K) rfl (pe_ix (u_ix (K := K) rfl hu1) (pv 0) pe_int (fun _ _ => rfl))) (blkOk_by (own := [("_law_sort", 11), ("_law_unit", 9)]) (N := ["_law_house_here", "_law_knot", "_law_some", "_law_around_here", "_law_found", "_law_one", "_law_other", "_law_told", "_law_word", "_law_unit", "_law_pair", "_law_sort"]) (sc := defScope s__law_edges) (by decide +kernel)) (fun _ _ _ _ _ => (u_tup (K := K) (n := 2) rfl (by rfl) (pgs_cons (pg_name (i := 11) sc__law_edges.nd rfl (by first | exact Or.inl rfl | exact Or.inr rfl)) (pgs_cons (pg_name (i := 9) sc__law_edges.nd rfl (by first | exact Or.inl rfl | exact Or.inr rfl)) pgs_nil)))) (fun _ _ _ _ _ => (pts_one (PW.pt (pw_and (pt_cmpR (u_eq (K := K) rfl hu64) (pv 11) (pv 8) (nomark _)) (pw_and1 (pt_cmpR (u_in (K := K) rfl hu65) (pv 9) (pv 2) (by rfl))))))) (fun _ _ _ _ _ => (pv 9)))) (pg_name (i := 9) sc__law_edges.nd rfl (by first | exact Or.inl rfl | exact Or.inr rfl))
    (pss_one (ps_for PassesOwn.never rfl (u_seq (K := K) rfl (pv 2)) (pg_name (i := 6) sc__law_edges.nd rfl (by first | exact Or.inl rfl | exact Or.inr rfl))
    (pss_cons (ps_set (i := 10) sc__law_edges.nd rfl (by first | exact Or.inl rfl | exact Or.inr rfl) (pe_ix (u_ix (K := K) rfl hu1) (pe_lst (pa_cons (pe_tup (pa_cons (pv 9) (pa_cons (pv 6) pa_nil))) (pa_cons (pe_tup (pa_cons (pv 6) (pa_cons (pv 9) pa_nil))) pa_nil))) (pe_callTy u_int (by rfl) T.b_int (by decide +kernel) (pa_cons (pe_cmpR (u_eq (K := K) rfl hu64) (pv 8) pe_str (nomark _)) pa_nil)) (fun _ _ => rfl)))
    (pss_one (ps_if (PW.pt (pw_and (pt_cmpR (u_ne (K := K) rfl hu64) (pv 6) (pv 9) (nomark _)) (pw_and1 (pt_cmpR (u_notIn (K := K) rfl hu65) (pv 10) (pv 4) (by rfl)))))
    (pss_one (ps_expr (u_bm (K := K) rfl PySem.F.plainAttrs_list PySem.F.slot_list_append PySem.F.type_list_append mt_append (pv 4) (pa_cons (pv 10) pa_nil))))
    pss_nil))))))))
    (pss_one (ps_ret (pv 4)))))))), fun ds g R hS => ?_⟩
  obtain ⟨ks, us, ts, wt, ws, k, rfl, rfl, hB, hP, htl, hwl, hk, hso, z⟩ := hS
  show ExS K _ [some _, some _, none, none, none, none, none, none, none, none, none, none] _ _
  have hkl := hB.kidsLen k
  have hko : ∀ u ∈ kids ks k, PyData.strOk u = true := fun u hu => hso u (hB.kid hu)
  have okE : ∀ zs : Ties, (∀ e ∈ zs, e.1 ∈ kids ks k ∧ e.2 ∈ kids ks k ∧ e.1 ≠ e.2) → PyData.canLayAll0 (pPy (onceL zs)) = true := fun zs h => lay_pPy fun e he =>
    have := h e (mem_onceL.mp he)
    ⟨hko _ this.1, hko _ this.2.1⟩
  have okT : ∀ i, ∀ e ∈ tieE ks k (ts.take i), e.1 ∈ kids ks k ∧ e.2 ∈ kids ks k ∧ e.1 ≠ e.2 := fun i => tieE_kids hB (fun e he => hP e (List.mem_of_mem_take he))
  refine xs_set (e_dictKnots hB.names (e_op (e_var rfl (e_int (o_ixQ isq_tup rfl ⟨rfl, e_var rfl ⟨k, rfl, hk, rfl, ?_⟩⟩)))))
  refine xs_set (e_call0 (a_cons (e_op (e_var rfl (e_int (o_ixQ isq_tup rfl (a_nil ⟨trivial, ks, us, rfl, rfl, hB, fun A hA => ?_⟩)))))))
  refine xs_set (e_lst (a_nil ⟨[], rfl, by decide, ?_⟩))
  show ExS K _ [some (.f (houseD ks ts wt ws)), some (.f (.str k)), some (.f (plD (sPy (kids ks k)))), some (.own 1), some (.own 2), none, none, none, none, none, none, none] [.dct (mergeD [] (ksPrs ks)), .dct A, .lst (pPy [])] _
  generalize mergeD [] (ksPrs ks) = D0
  refine xs_forQ (e_op (e_var rfl (e_int (o_ixQ isq_tup rfl ⟨pPy ts, isq_tup, fun i ρ' l' => ρ' = [some (.f (houseD ks ts wt ws)), some (.f (.str k)), some (.f (plD (sPy (kids ks k)))), some (.own 1), some (.own 2), none, none, none, none, none, none, none] ∧ l' = [.dct D0, .dct A, .lst (pPy (onceL (tieE ks k (ts.take i))))], ⟨rfl, rfl⟩, fun _ _ _ _ _ => isq_tup, ?_, ?_⟩))))
  · rintro i d ρ' l' hd ⟨rfl, rfl⟩
    obtain ⟨e, he, rfl⟩ := pPy_get hd
    have him := (List.getElem?_eq_some_iff.mp he).1
    obtain ⟨h1, h2, kk, x, y, hq⟩ := hP e (List.mem_of_getElem? he)
    have hT := tieE_next (ks := ks) (k := k) he
    have hT1 : tieE1 ks k e = if kk = k then some (x, y) else none := by unfold tieE1; rw [hq]
    have hln : (onceL (tieE ks k (ts.take i))).length ≤ 200 := by
      have a1 := onceL_len (tieE ks k (ts.take i))
      have a2 : (tieE ks k (ts.take i)).length ≤ (ts.take i).length := List.length_filterMap_le ..
      rw [List.length_take] at a2
      omega
    have hpt := hB.part h1 h2 hq
    refine g_tup rfl (g_cons (g_name (g_cons (g_name (g_nil (x_tidy 3 [5, 6, 7] (Nat.le_refl _) ?_))))))
    refine xs_set (e_call1 1 (a_cons (e_var rfl (a_cons (e_var rfl (a_cons (e_var rfl (a_nil ⟨_, _, rfl, trivial, rfl, ks, us, A, e.1, e.2, rfl, rfl, hB, hA, h1, h2, _, _, rfl, ?_⟩))))))))
    rw [hq]
    show ExS K _ [some (.f (houseD ks ts wt ws)), some (.f (.str k)), some (.f (plD (sPy (kids ks k)))), some (.own 1), some (.own 2), some (.f (.str e.1)), some (.f (.str e.2)), some (.f (.tuple [.str kk, .str x, .str y])), none, none, none, none] [.dct D0, .dct A, .lst (pPy (onceL (tieE ks k (ts.take i))))] _
    refine x_if (t_and (t_test (e_op (e_op (e_var rfl (e_int (o_ixQ isq_tup rfl (e_var rfl (o_eqS ⟨_, rfl, ?_⟩)))))))))
    refine d_both (fun c1 => ?_) (fun c1 => ?_)
    · subst c1
      rw [if_pos rfl] at hT1
      have hxy : x ∈ kids ks kk ∧ y ∈ kids ks kk := ⟨(mem_kids hB.names).mpr hpt.1, (mem_kids hB.names).mpr hpt.2.1⟩
      refine t_test (e_op (e_sl (e_var rfl (o_some (e_int ⟨_, rfl, o_none (s_tup (by show ¬ (1 = 0 ∧ 3 = 3); decide) (e_var rfl (o_inP asd_f (isq_own (n := 2) rfl) (shape_pair (hko x hxy.1) (hko y hxy.2)) (okE _ (okT i)) ⟨_, rfl, ?_⟩)))⟩)))))
      rw [if_pos rfl, show cutD [PyData.str kk, .str x, .str y] (some 1) none = [.str x, .str y] from rfl, any_pPy]
      refine nd_both (fun c2 => ?_) (fun c2 => ?_)
      · refine x_drop (e_bmL (e_var rfl ⟨⟨_, isl_own (n := 2) rfl⟩, ?_⟩))
        refine a_cons (e_sl (e_var rfl (o_some (e_int ⟨_, rfl, o_none (s_tup (by show ¬ (1 = 0 ∧ 3 = 3); decide) (a_nil (m_append (n := 2) rfl (by rw [pPy_len]; omega) ?_)))⟩))))
        walk_at "u"
        refine ⟨rfl, ?_⟩
        rw [hT, hT1, Option.toList_some, onceL_snoc, addOnce, if_neg c2, pPy_app]
        rfl
      · refine x_next ?_
        walk_at "u"
        refine ⟨rfl, ?_⟩
        rw [hT, hT1, Option.toList_some, onceL_snoc, addOnce, if_pos c2]
        rfl
    · rw [if_neg c1] at hT1
      refine iteF (x_next ?_)
      walk_at "u"
      refine ⟨rfl, ?_⟩
      rw [hT, hT1, Option.toList_none, List.append_nil]
      rfl
  rintro ρ' l' ⟨rfl, rfl⟩
  rw [pPy_len, List.take_length]
  have hw2 : ∀ w, (wantE ks k w ws).length ≤ 3600 := fun w => by
    have a1 := flatMap_len (f := fun u => wantRow w u (kids ks k)) (n := 60) (xs := wantUs ks k w ws) fun u _ => Nat.le_trans (wantRow_len ..) hkl
    have a2 := wantUs_len ks k w ws
    unfold wantE
    omega
  have hwl2 : ∀ n, ((wordsL.take n).flatMap fun w => wantE ks k w ws).length ≤ 7200 := fun n => by
    have a1 := flatMap_len (f := fun w => wantE ks k w ws) (n := 3600) (xs := wordsL.take n) fun w _ => hw2 w
    have a2 : (wordsL.take n).length ≤ 2 := by rw [List.length_take]; exact Nat.min_le_right _ _
    omega
  refine xs_forQ (e_tup (a_cons (e_str (a_cons (e_str (a_nil ⟨sPy wordsL, rfl, by decide, sPy wordsL, isq_tup, fun i ρ' l' => ρ' = [some (.f (houseD ks ts wt ws)), some (.f (.str k)), some (.f (plD (sPy (kids ks k)))), some (.own 1), some (.own 2), none, none, none, none, none, none, none] ∧ l' = [.dct D0, .dct A, .lst (pPy (onceL (tieE ks k ts ++ (wordsL.take i).flatMap fun w => wantE ks k w ws)))], ⟨rfl, by simp⟩, fun _ _ _ _ _ => isq_tup, ?_, ?_⟩))))))
  · rintro i d ρ' l' hd ⟨rfl, rfl⟩
    obtain ⟨w, hw, rfl⟩ := sPy_get hd
    have hww : w = "first" ∨ w = "last" := by
      match i, hw with
      | 0, h => exact .inl (Option.some.inj h).symm
      | 1, h => exact .inr (Option.some.inj h).symm
    have hti : ((wordsL.take (i + 1)).flatMap fun w => wantE ks k w ws) = ((wordsL.take i).flatMap fun w => wantE ks k w ws) ++ wantE ks k w ws := by rw [L3.take_next hw, List.flatMap_append]; simp
    dsimp only
    rw [hti, ← List.append_assoc]
    have hBl : (tieE ks k ts ++ (wordsL.take i).flatMap fun w => wantE ks k w ws).length ≤ 7400 := by
      rw [List.length_append]
      have a1 := hwl2 i
      have a2 : (tieE ks k ts).length ≤ ts.length := List.length_filterMap_le ..
      omega
    have hBk : ∀ e ∈ tieE ks k ts ++ (wordsL.take i).flatMap fun w => wantE ks k w ws, e.1 ∈ kids ks k ∧ e.2 ∈ kids ks k ∧ e.1 ≠ e.2 := fun e he => by
      rcases List.mem_append.mp he with h | h
      · exact tieE_kids hB hP e h
      · obtain ⟨w, _, h⟩ := List.mem_flatMap.mp h
        exact wantE_kids e h
    generalize (tieE ks k ts ++ (wordsL.take i).flatMap fun w => wantE ks k w ws) = Bz at hBl hBk ⊢
    refine g_name (x_tidy 3 [8] (Nat.le_refl _) ?_)
    refine x_forQ (e_lcF (wantF (kids ks k) w) (gg_tup (gg_cons (gg_name (by decide)) (gg_cons (gg_name (by decide)) gg_nil mono_name) mono_name)) (e_op (e_var rfl (e_int (o_ixQ isq_tup rfl ⟨pPy ws, isq_tup, by rw [pPy_len]; omega, fun d hd => ?_, ?_⟩)))))
    · obtain ⟨q, hq, rfl⟩ := List.mem_map.mp hd
      refine g_tup rfl (g_cons (g_name (g_cons (g_name (g_nil ?_)))))
      have e1 : wantF (kids ks k) w (.tuple [.str q.1, .str q.2]) = if (decide (q.1 = w) && decide (q.2 ∈ kids ks k)) = true then some (.str q.2) else none := rfl
      refine t_and (t_test (e_op (e_var rfl (e_var rfl (o_eqS ⟨_, rfl, ?_⟩)))))
      refine d_both (fun c1 => ?_) (fun c1 => ?_)
      · refine t_test (e_op (e_var rfl (e_var rfl (o_inPS ⟨_, rfl, ?_⟩))))
        refine d_both (fun c2 => ?_) (fun c2 => ?_)
        · exact e_var rfl ⟨_, rfl, by rw [e1, decide_eq_true c1, decide_eq_true c2]; rfl, rfl⟩
        · exact ⟨by rw [e1, decide_eq_true c1, decide_eq_false c2]; rfl, rfl⟩
      · exact iteF ⟨by rw [e1, decide_eq_false c1]; rfl, rfl⟩
    rw [wantF_eq]
    have hul := wantUs_len ks k w ws
    refine ⟨sPy (wantUs ks k w ws), isq_own (n := 3) rfl, fun j ρ' l' => ρ' = [some (.f (houseD ks ts wt ws)), some (.f (.str k)), some (.f (plD (sPy (kids ks k)))), some (.own 1), some (.own 2), none, none, none, some (.f (.str w)), none, none, none] ∧ l' = [.dct D0, .dct A, .lst (pPy (onceL (Bz ++ ((wantUs ks k w ws).take j).flatMap fun u => wantRow w u (kids ks k)))), .lst (sPy (wantUs ks k w ws))], ⟨rfl, by simp⟩, fun i ρ' l' _ h => by rw [h.2]; exact isq_own (n := 3) rfl, ?_, ?_⟩
    · rintro j d ρ' l' hd ⟨rfl, rfl⟩
      obtain ⟨u, hu, rfl⟩ := sPy_get hd
      have hjl := (List.getElem?_eq_some_iff.mp hu).1
      have huk : u ∈ kids ks k := by
        have := List.mem_of_getElem? hu
        obtain ⟨q, hq, rfl⟩ := List.mem_map.mp this
        have := (List.mem_filter.mp hq).2
        simp at this
        exact this.2
      have htj : (((wantUs ks k w ws).take (j + 1)).flatMap fun u => wantRow w u (kids ks k)) = (((wantUs ks k w ws).take j).flatMap fun u => wantRow w u (kids ks k)) ++ wantRow w u (kids ks k) := by rw [L3.take_next hu, List.flatMap_append]; simp
      dsimp only
      rw [htj, ← List.append_assoc]
      have hCl : (Bz ++ ((wantUs ks k w ws).take j).flatMap fun u => wantRow w u (kids ks k)).length ≤ 11000 := by
        rw [List.length_append]
        have a1 := flatMap_len (f := fun u => wantRow w u (kids ks k)) (n := 60) (xs := (wantUs ks k w ws).take j) fun u _ => Nat.le_trans (wantRow_len ..) hkl
        have a2 : ((wantUs ks k w ws).take j).length ≤ 60 := by rw [List.length_take]; omega
        omega
      have hrow : ∀ v ∈ kids ks k, ∀ X : List Str, (∀ o ∈ X, o ∈ kids ks k) → ∀ e ∈ wantRow w v X, e.1 ∈ kids ks k ∧ e.2 ∈ kids ks k ∧ e.1 ≠ e.2 := fun v hv X hX e he => by
        obtain ⟨o, ho, rfl⟩ := List.mem_map.mp he
        obtain ⟨ho1, ho2⟩ := List.mem_filter.mp ho
        have ho2 : o ≠ v := of_decide_eq_true ho2
        split
        · exact ⟨hX o ho1, hv, ho2⟩
        · exact ⟨hv, hX o ho1, fun q => ho2 q.symm⟩
      have hCk : ∀ e ∈ Bz ++ ((wantUs ks k w ws).take j).flatMap fun u => wantRow w u (kids ks k), e.1 ∈ kids ks k ∧ e.2 ∈ kids ks k ∧ e.1 ≠ e.2 := fun e he => by
        rcases List.mem_append.mp he with h | h
        · exact hBk e h
        · obtain ⟨v, hv, h⟩ := List.mem_flatMap.mp h
          obtain ⟨q, hq, rfl⟩ := List.mem_map.mp (List.mem_of_mem_take hv)
          have := (List.mem_filter.mp hq).2
          simp at this
          exact hrow q.2 this.2 _ (fun _ h => h) e h
      generalize (Bz ++ ((wantUs ks k w ws).take j).flatMap fun u => wantRow w u (kids ks k)) = Cz at hCl hCk ⊢
      refine g_name (x_tidy 4 [9] (Nat.le_refl _) ?_)
      refine x_forP (e_var rfl ⟨sPy (kids ks k), rfl, fun n ρ' l' => ρ' = [some (.f (houseD ks ts wt ws)), some (.f (.str k)), some (.f (plD (sPy (kids ks k)))), some (.own 1), some (.own 2), none, none, none, some (.f (.str w)), some (.f (.str u)), none, none] ∧ l' = [.dct D0, .dct A, .lst (pPy (onceL (Cz ++ wantRow w u ((kids ks k).take n)))), .lst (sPy (wantUs ks k w ws))], ⟨rfl, by simp [wantRow]⟩, ?_, ?_⟩)
      · rintro n d ρ' l' hd ⟨rfl, rfl⟩
        obtain ⟨o, ho, rfl⟩ := sPy_get hd
        have hom := List.mem_of_getElem? ho
        have hN := wantRow_next (w := w) (u := u) ho
        have hDl : (onceL (Cz ++ wantRow w u ((kids ks k).take n))).length ≤ 20000 := by
          have a1 := onceL_len (Cz ++ wantRow w u ((kids ks k).take n))
          have a2 := wantRow_len w u ((kids ks k).take n)
          rw [List.length_take] at a2
          rw [List.length_append] at a1
          omega
        have hDk : ∀ e ∈ Cz ++ wantRow w u ((kids ks k).take n), e.1 ∈ kids ks k ∧ e.2 ∈ kids ks k ∧ e.1 ≠ e.2 := fun e he => by
          rcases List.mem_append.mp he with h | h
          · exact hCk e h
          · exact hrow u huk _ (fun o h => List.mem_of_mem_take h) e h
        have hP2 : PyData.strOk (wantP w u o).1 = true ∧ PyData.strOk (wantP w u o).2 = true := by
          unfold wantP
          split
          · exact ⟨hko _ hom, hko _ huk⟩
          · exact ⟨hko _ huk, hko _ hom⟩
        refine g_name (x_tidy 4 [6, 10] (Nat.le_refl _) ?_)
        refine xs_set (e_op (e_lst (a_cons (e_tup (a_cons (e_var rfl (a_cons (e_var rfl (a_nil ⟨[.str u, .str o], rfl, Nat.le_of_ble_eq_true rfl, ?_⟩)))))))))
        refine a_cons (e_tup (a_cons (e_var rfl (a_cons (e_var rfl (a_nil ⟨[.str o, .str u], rfl, Nat.le_of_ble_eq_true rfl, a_nil ⟨[.tuple [.str u, .str o], .tuple [.str o, .str u]], rfl, Nat.le_of_ble_eq_true rfl, ?_⟩⟩))))))
        refine e_cb (a_cons (e_op (e_var rfl (e_str (o_eqS (a_nil (c_intB (o_ixQ (isq_own (n := 4) rfl) (d := .tuple [.str (wantP w u o).1, .str (wantP w u o).2]) (by rcases hww with rfl | rfl <;> rfl) ?_))))))))
        refine x_if (t_and (t_test (e_op (e_var rfl (e_var rfl (o_neS ⟨_, rfl, ?_⟩))))))
        refine nd_both (fun c1 => ?_) (fun c1 => ?_)
        · rw [if_pos c1] at hN
          refine t_test (e_op (e_var rfl (e_var rfl (o_inP asd_f (isq_own (n := 2) rfl) (shape_pair hP2.1 hP2.2) (okE _ hDk) ⟨_, rfl, ?_⟩))))
          rw [if_pos rfl, any_pPy]
          refine nd_both (fun c2 => ?_) (fun c2 => ?_)
          · refine x_drop (e_bmL (e_var rfl ⟨⟨_, isl_own (n := 2) rfl⟩, a_cons (e_var rfl (a_nil (m_append (n := 2) rfl (by rw [pPy_len]; omega) ?_)))⟩))
            walk_at "u"
            refine ⟨rfl, ?_⟩
            rw [hN, ← List.append_assoc, onceL_snoc, addOnce, if_neg c2, pPy_app]
            rfl
          · refine x_next ?_
            walk_at "u"
            refine ⟨rfl, ?_⟩
            rw [hN, ← List.append_assoc, onceL_snoc, addOnce, if_pos c2]
            rfl
        · rw [if_neg fun q => q c1, List.append_nil] at hN
          refine iteF (x_next ?_)
          walk_at "u"
          refine ⟨rfl, ?_⟩
          rw [hN]
          rfl
      · rintro ρ' l' ⟨rfl, rfl⟩
        rw [sPy_len, List.take_length]
        walk_at "u"
        exact ⟨rfl, rfl⟩
    · rintro ρ' l' ⟨rfl, rfl⟩
      rw [sPy_len, List.take_length]
      walk_at "u"
      exact ⟨rfl, rfl⟩
  rintro ρ' l' ⟨rfl, rfl⟩
  have e1 : (tieE ks k ts ++ (wordsL.take (sPy wordsL).length).flatMap fun w => wantE ks k w ws) = edges0 ks ts ws k := by
    unfold edges0
    show _ ++ (wantE ks k "first" ws ++ (wantE ks k "last" ws ++ [])) = _
    rw [List.append_nil, List.append_assoc]
  rw [e1]
  exact x_ret (e_var rfl (Res.own (n := 2) rfl trivial nofun (Nat.zero_le _) (fun _ h => by cases h) z))
def S__law_reached : Spec3 := fun ds g R => ∃ es one, ds = [.f (.list (pPy es)), .f (.str one)] ∧ g = [] ∧ es.length ≤ 20000 ∧ ∀ xs, Reached es one xs → R (.own 0) [.lst (sPy xs)]
abbrev s__law_reached : Stmt := top 25
theorem sc__law_reached : FnScope ["_law_edges_here", "_law_one", "_law_found", "_law_at", "_law_here", "_law_there"] ["_law_edges_here", "_law_one"] (defScope s__law_reached) := ⟨rfl, rfl, rfl, by decide +kernel, rfl, by decide +kernel, by decide +kernel⟩
set_option maxHeartbeats 4000000 in
theorem ok__law_reached (T : Bi K mg) (Df : DefAt K mg "_law_reached" s__law_reached ["_law_edges_here", "_law_one"]) : Cal P w K mg base 1 "_law_reached" ["_law_edges_here", "_law_one"] S__law_reached := by
  refine ok4 Df sc__law_reached (fun ds g R h0 => by obtain ⟨_, _, h, _⟩ := h0; rw [h]; rfl) (fun cdv A outer s H E f hr => ?_)
  have hu1 := hu_of hr.r
  have hu64 := hr.units
  have hu65 : (A.deeper (PyProof.Rows.envOfC "_law_reached" (defScope s__law_reached) s.heap.objs.size f cdv)).units + 65 < cLine := by have := hr.un; omega
  refine ⟨_, (pss_cons (ps_set (i := 2) sc__law_reached.nd rfl (by first | exact Or.inl rfl | exact Or.inr rfl) (pe_lst (pa_cons (pv 1) pa_nil)))
    (pss_cons (ps_set (i := 3) sc__law_reached.nd rfl (by first | exact Or.inl rfl | exact Or.inr rfl) pe_int)
    (pss_cons (ps_while PassesOwn.never (pt_cmpR op_lt (pv 3) (pe_callB (u_len (K := K) rfl) (by rfl) T.b_len (by decide +kernel) (pa_cons (pv 2) pa_nil)) (nomark _))
    (pss_cons (ps_for PassesOwn.never rfl (u_seq (K := K) rfl (pv 0)) (u_tup (K := K) (n := 2) rfl (by rfl) (pgs_cons (pg_name (i := 4) sc__law_reached.nd rfl (by first | exact Or.inl rfl | exact Or.inr rfl)) (pgs_cons (pg_name (i := 5) sc__law_reached.nd rfl (by first | exact Or.inl rfl | exact Or.inr rfl)) pgs_nil)))
    (pss_one (ps_if (PW.pt (pw_and (pt_cmpR (u_eq (K := K) rfl hu64) (pv 4) (pe_ix (u_ix (K := K) rfl hu1) (pv 2) (pv 3) (fun _ _ => rfl)) (nomark _)) (pw_and1 (pt_cmpR (u_notIn (K := K) rfl hu65) (pv 5) (pv 2) (by rfl)))))
    (pss_one (ps_expr (u_bm (K := K) rfl PySem.F.plainAttrs_list PySem.F.slot_list_append PySem.F.type_list_append mt_append (pv 2) (pa_cons (pv 5) pa_nil))))
    pss_nil)))
    (pss_one (ps_set (i := 3) sc__law_reached.nd rfl (by first | exact Or.inl rfl | exact Or.inr rfl) (pe_op (u_add (K := K) rfl) (pv 3) pe_int)))))
    (pss_one (ps_ret (pv 2)))))), fun ds g R hS => ?_⟩
  obtain ⟨es, one, rfl, rfl, hel, z⟩ := hS
  show ExS K _ [some _, some _, none, none, none, none] _ _
  refine xs_set (e_lst (a_cons (e_var rfl (a_nil ⟨[.str one], rfl, Nat.le_of_ble_eq_true rfl, ?_⟩))))
  refine xs_set (e_int ?_)
  refine xs_while (fun ρ' l' => ∃ (n : Nat) (xs : List Str) (a b : Option D), ρ' = [some (.f (.list (pPy es))), some (.f (.str one)), some (.own 0), some (.f (.int n)), a, b] ∧ l' = [.lst (sPy xs)] ∧ Reaching es one n 0 xs) (fun ρ' _ => es.length + 1 - slotI ρ' 3) ⟨0, [one], none, none, rfl, rfl, .start es one⟩ ?_
  rintro ρ' l' ⟨n, xs, a, b, rfl, rfl, hR⟩
  have hxl := hR.len
  refine t_test (e_op (e_var rfl (e_cb (a_cons (e_var rfl (a_nil (c_lenQ (isq_own (n := 0) rfl) (o_I0b ⟨_, rfl, ?_⟩))))))))
  rw [sPy_len]
  refine d_both (fun c1 => ?_) (fun c1 => ?_)
  · have hnl : n < xs.length := by omega
    refine xs_forQ (e_var rfl ⟨pPy es, isq_list, fun j ρ' l' => ∃ (ys : List Str) (a b : Option D), ρ' = [some (.f (.list (pPy es))), some (.f (.str one)), some (.own 0), some (.f (.int n)), a, b] ∧ l' = [.lst (sPy ys)] ∧ Reaching es one n j ys ∧ n < ys.length, ⟨xs, a, b, rfl, rfl, hR, hnl⟩, fun _ _ _ _ _ => isq_list, ?_, ?_⟩)
    · rintro j d ρ' l' hd ⟨ys, a, b, rfl, rfl, hRj, hny⟩
      obtain ⟨e, he, rfl⟩ := pPy_get hd
      have hyl := hRj.len
      have hyn : ys[n]? = some ys[n] := List.getElem?_eq_getElem hny
      generalize ys[n] = x at hyn
      refine g_tup rfl (g_cons (g_name (g_cons (g_name (g_nil ?_)))))
      refine x_if (t_and (t_test (e_op (e_var rfl (e_op (e_var rfl (e_var rfl (o_ixQ (isq_own (n := 0) rfl) (atI_nat (sPy_get_of hyn)) (o_eqS ⟨_, rfl, ?_⟩)))))))))
      refine d_both (fun c2 => ?_) (fun c2 => ?_)
      · refine t_test (e_op (e_var rfl (e_var rfl (o_inQS (isq_own (n := 0) rfl) ⟨_, rfl, ?_⟩))))
        rw [if_pos rfl]
        refine nd_both (fun c3 => ?_) (fun c3 => ?_)
        · refine x_drop (e_bmL (e_var rfl ⟨⟨_, isl_own (n := 0) rfl⟩, a_cons (e_var rfl (a_nil (m_append (n := 0) rfl (by rw [sPy_len]; omega) ?_)))⟩))
          exact ⟨ys ++ [e.2], _, _, rfl, by rw [sPy_app]; rfl, hRj.add he hyn c2 c3, by rw [List.length_append]; omega⟩
        · exact x_next ⟨ys, _, _, rfl, rfl, hRj.same he fun _ _ _ => c3, hny⟩
      · refine iteF (x_next ⟨ys, _, _, rfl, rfl, hRj.same he fun y hy e1 => ?_, hny⟩)
        rw [hyn] at hy
        cases hy
        exact absurd e1 c2
    · rintro ρ' l' ⟨ys, a, b, rfl, rfl, hRj, hny⟩
      rw [pPy_len] at hRj
      have hyl := hRj.len
      refine x_set (e_op (e_var rfl (e_int (o_addI ⟨⟨n + 1, ys, _, _, rfl, rfl, hRj.next⟩, ?_⟩))))
      show es.length + 1 - ((n : Int) + 1).toNat < es.length + 1 - ((n : Int)).toNat
      omega
  · refine x_ret (e_var rfl (Res.own (n := 0) rfl trivial nofun (Nat.zero_le _) (fun _ h => by cases h) (z xs (hR.done (by omega)))))
def S__law_wants : Spec3 := fun ds g R => ∃ o ks us, ds = [.own 0, .f (plD (ksPy ks))] ∧ g = [o] ∧ IsPen o ∧ TreeB ks us ∧ ∀ o' ws, IsPen o' → WantsOk ks ws → R (.own 1) [o', .lst (pPy ws)]
/-- the wants so far: of the first i knots, and of the first child of the next -/
structure WantsTo (ks : Knots) (i : Nat) (f : Bool) (ws : Ties) : Prop where
  ok : WantsOk ks ws
  at_ : ∀ q ∈ ws, (∃ k ∈ ks.take i, q.2 ∈ k.2) ∨ (f = true ∧ ∃ k, ks[i]? = some k ∧ k.2.head? = some q.2)
  len : ws.length ≤ 2 * i + (if f then 1 else 0)
theorem WantsTo.add {ks : Knots} {us : List Str} {i : Nat} {f : Bool} {ws : Ties} (hB : TreeB ks us) (h : WantsTo ks i f ws) {k : Str × List Str} (hk : ks[i]? = some k) {q : Str × Str} (j : Nat) (hq : WantOk ks q) (hm : q.2 ∈ k.2)
    (hn : f = true → ∀ u, k.2.head? = some u → u ≠ q.2) : WantsOk ks (insAt ws j q) := by
  obtain ⟨deep, r, T, _⟩ := hB
  refine ⟨fun p hp => ?_, ?_⟩
  · rcases mem_insAt.mp hp with hp | rfl
    · exact h.ok.ok p hp
    · exact hq
  · rw [insAt_map]
    refine insAt_nodup _ h.ok.nd fun hmem => ?_
    obtain ⟨p, hp, ep⟩ := List.mem_map.mp hmem
    rcases h.at_ p hp with ⟨k', hk', hu⟩ | ⟨hf, k', hk', hu⟩
    · obtain ⟨n, hn'⟩ := List.getElem?_of_mem hk'
      rw [List.getElem?_take] at hn'
      split at hn'
      · rename_i hlt
        have e1 : k'.1 = k.1 := T.one q.2 k'.1 k.1 ⟨k'.2, List.mem_of_getElem? hn', by rw [← ep]; exact hu⟩ ⟨k.2, List.mem_of_getElem? hk, hm⟩
        have hnd := T.names
        have a1 : (ks.map (·.1))[n]? = some k.1 := by rw [List.getElem?_map, hn']; simp [e1]
        have a2 : (ks.map (·.1))[i]? = some k.1 := by rw [List.getElem?_map, hk]; rfl
        have := (List.getElem?_inj (List.getElem?_eq_some_iff.mp a1).1 hnd).mp (a1.trans a2.symm)
        omega
      · cases hn'
    · rw [hk] at hk'
      cases hk'
      exact hn hf _ hu ep
abbrev s__law_wants : Stmt := top 26
theorem sc__law_wants : FnScope ["_law_pen_here", "_law_knots", "_law_found", "_law_knot", "_law_some"] ["_law_pen_here", "_law_knots"] (defScope s__law_wants) := ⟨rfl, rfl, rfl, by decide +kernel, rfl, by decide +kernel, by decide +kernel⟩
set_option maxHeartbeats 4000000 in
theorem ok__law_wants (T : Bi K mg) (Df : DefAt K mg "_law_wants" s__law_wants ["_law_pen_here", "_law_knots"]) (C__law_draw : Cal P w K mg base 1 "_law_draw" ["_law_pen_here", "_law_most"] S__law_draw) : Cal P w K mg base 2 "_law_wants" ["_law_pen_here", "_law_knots"] S__law_wants := by
  refine ok4 Df sc__law_wants (fun ds g R h0 => by obtain ⟨_, _, _, h, _⟩ := h0; rw [h]; rfl) (fun cdv A outer s H E f hr => ?_)
  have hu1 := hu_of hr.r
  have hu64 := hr.units
  have hu65 : (A.deeper (PyProof.Rows.envOfC "_law_wants" (defScope s__law_wants) s.heap.objs.size f cdv)).units + 65 < cLine := by have := hr.un; omega
  refine ⟨_, (pss_cons (ps_set (i := 2) sc__law_wants.nd rfl (by first | exact Or.inl rfl | exact Or.inr rfl) (pe_lst pa_nil))
    (pss_cons (ps_for PassesOwn.never rfl (u_seq (K := K) rfl (pv 1)) (u_tup (K := K) (n := 2) rfl (by rfl) (pgs_cons (pg_name (i := 3) sc__law_wants.nd rfl (by first | exact Or.inl rfl | exact Or.inr rfl)) (pgs_cons (pg_name (i := 4) sc__law_wants.nd rfl (by first | exact Or.inl rfl | exact Or.inr rfl)) pgs_nil)))
    (pss_cons (ps_if (PW.pt (pw_and (pt_cmpR op_gt (pe_callB (u_len (K := K) rfl) (by rfl) T.b_len (by decide +kernel) (pa_cons (pv 4) pa_nil)) pe_int (nomark _)) (pw_and1 (pt_cmpR (u_eq (K := K) rfl hu64) (pe_cal (K := K) rfl C__law_draw (hr.mono (by decide)) (by rfl) (pa_cons (pv 0) (pa_cons pe_int pa_nil))) pe_int (nomark _)))))
    (pss_one (ps_expr (u_bm (K := K) rfl PySem.F.plainAttrs_list PySem.F.slot_list_insert PySem.F.type_list_insert u_insert (pv 2) (pa_cons (pe_cal (K := K) rfl C__law_draw (hr.mono (by decide)) (by rfl) (pa_cons (pv 0) (pa_cons (pe_op (u_add (K := K) rfl) (pe_callB (u_len (K := K) rfl) (by rfl) T.b_len (by decide +kernel) (pa_cons (pv 2) pa_nil)) pe_int) pa_nil))) (pa_cons (pe_tup (pa_cons pe_str (pa_cons (pe_ix (u_ix (K := K) rfl hu1) (pv 4) pe_int (fun _ _ => rfl)) pa_nil))) pa_nil)))))
    pss_nil)
    (pss_one (ps_if (PW.pt (pw_and (pt_cmpR op_gt (pe_callB (u_len (K := K) rfl) (by rfl) T.b_len (by decide +kernel) (pa_cons (pv 4) pa_nil)) pe_int (nomark _)) (pw_and1 (pt_cmpR (u_eq (K := K) rfl hu64) (pe_cal (K := K) rfl C__law_draw (hr.mono (by decide)) (by rfl) (pa_cons (pv 0) (pa_cons pe_int pa_nil))) pe_int (nomark _)))))
    (pss_one (ps_expr (u_bm (K := K) rfl PySem.F.plainAttrs_list PySem.F.slot_list_insert PySem.F.type_list_insert u_insert (pv 2) (pa_cons (pe_cal (K := K) rfl C__law_draw (hr.mono (by decide)) (by rfl) (pa_cons (pv 0) (pa_cons (pe_op (u_add (K := K) rfl) (pe_callB (u_len (K := K) rfl) (by rfl) T.b_len (by decide +kernel) (pa_cons (pv 2) pa_nil)) pe_int) pa_nil))) (pa_cons (pe_tup (pa_cons pe_str (pa_cons (pe_ix (u_ix (K := K) rfl hu1) (pv 4) (pe_un un_neg pe_int) (fun _ _ => rfl)) pa_nil))) pa_nil)))))
    pss_nil))))
    (pss_one (ps_ret (pv 2))))), fun ds g R hS => ?_⟩
  obtain ⟨o, ks, us, rfl, rfl, hp, hB, z⟩ := hS
  show ExS K _ [some _, some _, none, none, none] _ _
  have hkl := hB.len
  refine xs_set (e_lst (a_nil ⟨[], rfl, by decide, ?_⟩))
  refine xs_forP (e_var rfl ⟨ksPy ks, rfl, fun i ρ' l' => ∃ (o' : O) (ws : Ties) (a b : Option D), ρ' = [some (.own 0), some (.f (plD (ksPy ks))), some (.own 1), a, b] ∧ l' = [o', .lst (pPy ws)] ∧ IsPen o' ∧ WantsTo ks i false ws, ⟨o, [], none, none, rfl, rfl, hp, ⟨⟨nofun, List.nodup_nil⟩, nofun, Nat.zero_le _⟩⟩, ?_, ?_⟩)
  · rintro i d ρ' l' hd ⟨o', ws, a, b, rfl, rfl, hp', hW⟩
    obtain ⟨k, hk, rfl⟩ := ksPy_get hd
    have hkm := List.mem_of_getElem? hk
    have hil := (List.getElem?_eq_some_iff.mp hk).1
    have hwl := hW.len
    rw [if_neg (by decide)] at hwl
    have hknd : k.2.Nodup := by obtain ⟨_, _, T, _⟩ := hB; exact T.nd k hkm
    have hk60 : k.2.length ≤ 60 := by
      have := hB.kidsLen k.1
      rw [kids_of hB.names (k := k.1) (xs := k.2) hkm] at this
      exact this
    refine g_tup rfl (g_cons (g_name (g_cons (g_name (g_nil ?_)))))
    refine xs_mid (fun ρ' l' => ∃ (o' : O) (ws : Ties), ρ' = [some (.own 0), some (.f (plD (ksPy ks))), some (.own 1), some (.f (.str k.1)), some (.f (plD (sPy k.2)))] ∧ l' = [o', .lst (pPy ws)] ∧ IsPen o' ∧ WantsTo ks i true ws) ?_ ?_
    · have hW' : WantsTo ks i true ws := ⟨hW.ok, fun q hq => (hW.at_ q hq).elim .inl fun h => (by cases h.1), (by rw [if_pos rfl]; omega)⟩
      refine x_if (t_and (t_test (e_op (e_cb (a_cons (e_var rfl (a_nil (c_lenP (e_int (o_I0b ⟨_, rfl, ?_⟩))))))))))
      rw [sPy_len]
      refine d_both (fun c1 => ?_) (fun c1 => ?_)
      · have hne : 0 < k.2.length := by omega
        refine t_test (e_op (e_draw 0 (a_cons (e_var rfl (a_cons (e_int (a_nil ⟨_, o', rfl, rfl, hp', by decide, by decide, fun r o2 r0 r1 p2 => e_int (o_eqI ⟨_, rfl, ?_⟩)⟩)))))))
        refine d_both (fun c2 => ?_) (fun c2 => ?_)
        · refine x_drop (e_bmL (e_var rfl ⟨⟨_, isl_own (n := 1) rfl⟩, a_cons (e_draw 0 (a_cons (e_var rfl (a_cons (e_op (e_cb (a_cons (e_var rfl (a_nil (c_lenQ (isq_own (n := 1) rfl) (e_int (o_addI ?_))))))))))))⟩))
          rw [pPy_len]
          refine a_nil ⟨_, o2, rfl, rfl, p2, by omega, by omega, fun r3 o3 r30 r31 p3 => ?_⟩
          have hh : k.2[0]? = some k.2[0] := List.getElem?_eq_getElem hne
          have hq : WantOk ks (("first" : Str), k.2[0]) := .inl ⟨rfl, k, hkm, by rw [List.head?_eq_getElem?, hh]⟩
          refine a_cons (e_tup (a_cons (e_str (a_cons (e_op (e_var rfl (e_int (o_ixP (atI_nat (sPy_get_of hh)) (a_nil ⟨_, rfl, Nat.le_of_ble_eq_true rfl, ?_⟩)))))))))
          refine a_nil (m_insert (n := 1) rfl (by rw [pPy_len]; omega) (by omega) (by omega) ?_)
          refine ⟨o3, insAt ws r3.toNat ("first", k.2[0]), rfl, ?_, p3, ⟨hW.add hB hk _ hq (List.getElem_mem hne) nofun, fun q hq => ?_, by rw [insAt_len, if_pos rfl]; omega⟩⟩
          · rw [← pPy_insAt]; rfl
          · rcases mem_insAt.mp hq with h | rfl
            · exact hW'.at_ q h
            · exact .inr ⟨rfl, k, hk, by rw [List.head?_eq_getElem?, hh]⟩
        · exact x_next ⟨o2, ws, rfl, rfl, p2, hW'⟩
      · exact iteF (x_next ⟨o', ws, rfl, rfl, hp', hW'⟩)
    rintro ρ' l' ⟨o', ws, rfl, rfl, hp', hW'⟩
    have hwl := hW'.len
    rw [if_pos rfl] at hwl
    have tk : ks.take (i + 1) = ks.take i ++ [k] := L3.take_next hk
    have hat : ∀ q ∈ ws, ∃ k' ∈ ks.take (i + 1), q.2 ∈ k'.2 := fun q hq => by
      rcases hW'.at_ q hq with ⟨k', h1, h2⟩ | ⟨_, k', h1, h2⟩
      · exact ⟨k', by rw [tk]; exact List.mem_append_left _ h1, h2⟩
      · rw [hk] at h1
        cases h1
        exact ⟨k, by rw [tk]; simp, List.mem_of_mem_head? (by rw [h2]; rfl)⟩
    have hNx : WantsTo ks (i + 1) false ws := ⟨hW'.ok, fun q hq => .inl (hat q hq), by rw [if_neg (by decide)]; omega⟩
    refine x_if (t_and (t_test (e_op (e_cb (a_cons (e_var rfl (a_nil (c_lenP (e_int (o_I0b ⟨_, rfl, ?_⟩))))))))))
    rw [sPy_len]
    refine d_both (fun c1 => ?_) (fun c1 => ?_)
    · have hne : k.2.length - 1 < k.2.length := by omega
      refine t_test (e_op (e_draw 0 (a_cons (e_var rfl (a_cons (e_int (a_nil ⟨_, o', rfl, rfl, hp', by decide, by decide, fun r o2 r0 r1 p2 => e_int (o_eqI ⟨_, rfl, ?_⟩)⟩)))))))
      refine d_both (fun c2 => ?_) (fun c2 => ?_)
      · refine x_drop (e_bmL (e_var rfl ⟨⟨_, isl_own (n := 1) rfl⟩, a_cons (e_draw 0 (a_cons (e_var rfl (a_cons (e_op (e_cb (a_cons (e_var rfl (a_nil (c_lenQ (isq_own (n := 1) rfl) (e_int (o_addI ?_))))))))))))⟩))
        rw [pPy_len]
        refine a_nil ⟨_, o2, rfl, rfl, p2, by omega, by omega, fun r3 o3 r30 r31 p3 => ?_⟩
        have hh : k.2[k.2.length - 1]? = some k.2[k.2.length - 1] := List.getElem?_eq_getElem hne
        have hla : k.2.getLast? = some k.2[k.2.length - 1] := by rw [List.getLast?_eq_getElem?, hh]
        have hq : WantOk ks (("last" : Str), k.2[k.2.length - 1]) := .inr ⟨rfl, k, hkm, hla, by omega⟩
        have h1 : atI (sPy k.2) (-1) = some (.str k.2[k.2.length - 1]) := atI_m1 (sPy_last hla)
        refine a_cons (e_tup (a_cons (e_str (a_cons (e_op (e_var rfl (e_un (e_int (o_neg (o_ixP h1 (a_nil ⟨_, rfl, Nat.le_of_ble_eq_true rfl, ?_⟩)))))))))))
        refine a_nil (m_insert (n := 1) rfl (by rw [pPy_len]; omega) (by omega) (by omega) ?_)
        have hnq : k.2.head? ≠ some k.2[k.2.length - 1] := fun e => by
          rw [List.head?_eq_getElem?] at e
          have := (List.getElem?_inj (by omega) hknd).mp (e.trans hh.symm)
          omega
        refine ⟨o3, insAt ws r3.toNat ("last", k.2[k.2.length - 1]), _, _, rfl, ?_, p3, ⟨hW'.add hB hk _ hq (List.getElem_mem hne) fun _ u hu e => hnq (hu.trans (by rw [e])), fun q hq => .inl ?_, (by rw [insAt_len, if_neg (by decide)]; omega)⟩⟩
        · rw [← pPy_insAt]; rfl
        · rcases mem_insAt.mp hq with h | rfl
          · exact hat q h
          · exact ⟨k, by rw [tk]; simp, List.getElem_mem hne⟩
      · exact x_next ⟨o2, ws, _, _, rfl, rfl, p2, hNx⟩
    · exact iteF (x_next ⟨o', ws, _, _, rfl, rfl, hp', hNx⟩)
  · rintro ρ' l' ⟨o', ws, a, b, rfl, rfl, hp', hW⟩
    exact x_ret (e_var rfl (Res.own (n := 1) rfl trivial nofun (Nat.le_refl _) (fun x hx => by cases hx with | head => exact hp'.under | tail _ h => cases h) (z _ _ hp' hW.ok)))
def S__law_kept : Spec3 := fun ds g R => ∃ o ks us many, ds = [.own 0, .f (plD (ksPy ks)), .f (.list (sPy us)), .f (.int many)] ∧ g = [o] ∧ IsPen o ∧ TreeB ks us ∧ 0 ≤ many ∧ many ≤ 400 ∧ (us = [] → many = 0) ∧ (∀ u ∈ us, PyData.strOk u = true) ∧ ∀ o' ts, IsPen o' → TiesOk ks us ts → (ts.length : Int) ≤ many → R (.own 1) [o', .lst (pPy ts)]
abbrev s__law_kept : Stmt := top 27
theorem sc__law_kept : FnScope ["_law_pen_here", "_law_knots", "_law_units", "_law_many", "_law_found", "_law_around_here", "_law_k", "_law_one", "_law_other", "_law_told", "_law_some"] ["_law_pen_here", "_law_knots", "_law_units", "_law_many"] (defScope s__law_kept) := ⟨rfl, rfl, rfl, by decide +kernel, rfl, by decide +kernel, by decide +kernel⟩
set_option maxHeartbeats 4000000 in
theorem ok__law_kept (T : Bi K mg) (Df : DefAt K mg "_law_kept" s__law_kept ["_law_pen_here", "_law_knots", "_law_units", "_law_many"]) (C__law_parting : Cal P w K mg base 2 "_law_parting" ["_law_around_here", "_law_one", "_law_other"] S__law_parting) (C__law_draw : Cal P w K mg base 1 "_law_draw" ["_law_pen_here", "_law_most"] S__law_draw) (C__law_around : Cal P w K mg base 1 "_law_around" ["_law_knots"] S__law_around) : Cal P w K mg base 3 "_law_kept" ["_law_pen_here", "_law_knots", "_law_units", "_law_many"] S__law_kept := by
  refine ok4 Df sc__law_kept (fun ds g R h0 => by obtain ⟨_, _, _, _, h, _⟩ := h0; rw [h]; rfl) (fun cdv A outer s H E f hr => ?_)
  have hu1 := hu_of hr.r
  have hu64 := hr.units
  have hu65 : (A.deeper (PyProof.Rows.envOfC "_law_kept" (defScope s__law_kept) s.heap.objs.size f cdv)).units + 65 < cLine := by have := hr.un; omega
  refine ⟨_, (pss_cons (ps_set (i := 4) sc__law_kept.nd rfl (by first | exact Or.inl rfl | exact Or.inr rfl) (pe_lst pa_nil))
    (pss_cons (ps_set (i := 5) sc__law_kept.nd rfl (by first | exact Or.inl rfl | exact Or.inr rfl) (pe_cal (K := K) rfl C__law_around (hr.mono (by decide)) (by rfl) (pa_cons (pv 1) pa_nil)))
    (pss_cons (ps_for PassesOwn.never rfl (pi_range1 (by rfl) T.b_range (pa_cons (pv 3) pa_nil)) (pg_name (i := 6) sc__law_kept.nd rfl (by first | exact Or.inl rfl | exact Or.inr rfl))
    (pss_cons (ps_set (i := 7) sc__law_kept.nd rfl (by first | exact Or.inl rfl | exact Or.inr rfl) (pe_ix (u_ix (K := K) rfl hu1) (pv 2) (pe_cal (K := K) rfl C__law_draw (hr.mono (by decide)) (by rfl) (pa_cons (pv 0) (pa_cons (pe_callB (u_len (K := K) rfl) (by rfl) T.b_len (by decide +kernel) (pa_cons (pv 2) pa_nil)) pa_nil))) (fun _ _ => rfl)))
    (pss_cons (ps_set (i := 8) sc__law_kept.nd rfl (by first | exact Or.inl rfl | exact Or.inr rfl) (pe_ix (u_ix (K := K) rfl hu1) (pv 2) (pe_cal (K := K) rfl C__law_draw (hr.mono (by decide)) (by rfl) (pa_cons (pv 0) (pa_cons (pe_callB (u_len (K := K) rfl) (by rfl) T.b_len (by decide +kernel) (pa_cons (pv 2) pa_nil)) pa_nil))) (fun _ _ => rfl)))
    (pss_cons (ps_set (i := 9) sc__law_kept.nd rfl (by first | exact Or.inl rfl | exact Or.inr rfl) (pe_cal (K := K) rfl C__law_parting (hr.mono (by decide)) (by rfl) (pa_cons (pv 5) (pa_cons (pv 7) (pa_cons (pv 8) pa_nil)))))
    (pss_one (ps_if (pt_cmpR op_notN1 (pv 9) pe_non (nomark _))
    (pss_cons (ps_set (i := 10) sc__law_kept.nd rfl (by first | exact Or.inl rfl | exact Or.inr rfl) (pe_ix (u_ix (K := K) rfl hu1) (pe_callTy (u_dictP (K := K) rfl rfl) (by rfl) T.b_dict (by decide +kernel) (pa_cons (pv 1) pa_nil)) (pe_ix (u_ix (K := K) rfl hu1) (pv 9) pe_int (fun _ _ => rfl)) (fun _ _ => rfl)))
    (pss_cons (ps_if (pt_cmpR op_gt (u_bmP (K := K) rfl plainAttrs_tup PySem.F.slot_tuple_index ty_tindex (u_tindex (K := K) rfl) (pv 10) (pa_cons (pe_ix (u_ix (K := K) rfl hu1) (pv 9) pe_int (fun _ _ => rfl)) pa_nil)) (u_bmP (K := K) rfl plainAttrs_tup PySem.F.slot_tuple_index ty_tindex (u_tindex (K := K) rfl) (pv 10) (pa_cons (pe_ix (u_ix (K := K) rfl hu1) (pv 9) pe_int (fun _ _ => rfl)) pa_nil)) (nomark _))
    (pss_one (ps_par (i := 7) (j := 8) (by rfl) sc__law_kept.nd rfl rfl (by decide) rfl rfl (pa_cons (pv 8) (pa_cons (pv 7) pa_nil)) (by rfl)))
    pss_nil)
    (pss_one (ps_if (pt_cmpR (u_notIn (K := K) rfl hu65) (pe_tup (pa_cons (pv 7) (pa_cons (pv 8) pa_nil))) (pv 4) (by rfl))
    (pss_one (ps_expr (u_bm (K := K) rfl PySem.F.plainAttrs_list PySem.F.slot_list_append PySem.F.type_list_append mt_append (pv 4) (pa_cons (pe_tup (pa_cons (pv 7) (pa_cons (pv 8) pa_nil))) pa_nil))))
    pss_nil))))
    pss_nil))))))
    (pss_one (ps_ret (pv 4)))))), fun ds g R hS => ?_⟩
  obtain ⟨o, ks, us, many, rfl, rfl, hp, hB, hm0, hm1, hem, hso, z⟩ := hS
  show ExS K _ [some _, some _, some _, some _, none, none, none, none, none, none, none] _ _
  have hu60 : us.length ≤ 60 := by obtain ⟨_, _, _, _, h⟩ := hB; exact h
  refine xs_set (e_lst (a_nil ⟨[], rfl, by decide, ?_⟩))
  refine xs_set (e_call0 (a_cons (e_var rfl (a_nil ⟨trivial, ks, us, rfl, rfl, hB, fun A hA => ?_⟩))))
  show ExS K _ [some (.own 0), some (.f (plD (ksPy ks))), some (.f (.list (sPy us))), some (.f (.int many)), some (.own 1), some (.own 2), none, none, none, none, none] [o, .lst (pPy []), .dct A] _
  refine xs_forR (a_cons (e_var rfl (a_nil ⟨_, rfl, by omega, by omega, fun i ρ' l' => ∃ (o' : O) (ts : Ties), ρ' = [some (.own 0), some (.f (plD (ksPy ks))), some (.f (.list (sPy us))), some (.f (.int many)), some (.own 1), some (.own 2), none, none, none, none, none] ∧ l' = [o', .lst (pPy ts), .dct A] ∧ IsPen o' ∧ TiesOk ks us ts ∧ ts.length ≤ i, ⟨o, [], rfl, rfl, hp, ⟨nofun, nofun, List.nodup_nil⟩, Nat.zero_le _⟩, ?_, ?_⟩)))
  · rintro i ρ' l' hi ⟨o', ts, rfl, rfl, hp', hT, hl⟩
    have hu1 : 1 ≤ us.length := by
      cases us with
      | nil => have := hem rfl; omega
      | cons a b => simp
    refine g_name (x_tidy 3 [6, 7, 8, 9, 10] (Nat.le_refl _) ?_)
    refine xs_set (e_op (e_var rfl (e_draw 0 (a_cons (e_var rfl (a_cons (e_cb (a_cons (e_var rfl (a_nil (c_lenQ isq_list (a_nil ⟨_, o', rfl, rfl, hp', (by rw [sPy_len]; omega), (by rw [sPy_len]; omega), fun r o1 r0 r1 p1 => ?_⟩))))))))))))
    rw [sPy_len] at r1
    obtain ⟨u, hu, eu⟩ := sPy_at r0 r1
    refine o_ixQ isq_list eu ?_
    refine xs_set (e_op (e_var rfl (e_draw 0 (a_cons (e_var rfl (a_cons (e_cb (a_cons (e_var rfl (a_nil (c_lenQ isq_list (a_nil ⟨_, o1, rfl, rfl, p1, (by rw [sPy_len]; omega), (by rw [sPy_len]; omega), fun r' o2 r0' r1' p2 => ?_⟩))))))))))))
    rw [sPy_len] at r1'
    obtain ⟨v, hv, ev⟩ := sPy_at r0' r1'
    refine o_ixQ isq_list ev ?_
    refine xs_set (e_call1 2 (a_cons (e_var rfl (a_cons (e_var rfl (a_cons (e_var rfl (a_nil ⟨_, _, rfl, trivial, rfl, ks, us, A, u, v, rfl, rfl, hB, hA, hu, hv, _, _, rfl, ?_⟩))))))))
    show ExS K _ [some (.own 0), some (.f (plD (ksPy ks))), some (.f (.list (sPy us))), some (.f (.int many)), some (.own 1), some (.own 2), some (.f (.int i)), some (.f (.str u)), some (.f (.str v)), some (.f (partD (partF ks u v))), none] [o2, .lst (pPy ts), .dct A] _
    refine x_if (t_test (e_op (e_var rfl (e_non (o_notN ⟨_, rfl, ?_⟩)))))
    cases hq : partF ks u v with
    | none =>
      refine iteF (x_next ?_)
      walk_at "u"
      exact ⟨o2, ts, rfl, rfl, p2, hT, by omega⟩
    | some t =>
      obtain ⟨k, x, y⟩ := t
      obtain ⟨hx, hy, hxy⟩ := hB.part hu hv hq
      have hkm : k ∈ ks.map (·.1) := hx.knot
      have hxk := (mem_kids hB.names).mpr hx
      have hyk := (mem_kids hB.names).mpr hy
      refine iteT ?_
      show ExS K _ [some (.own 0), some (.f (plD (ksPy ks))), some (.f (.list (sPy us))), some (.f (.int many)), some (.own 1), some (.own 2), some (.f (.int i)), some (.f (.str u)), some (.f (.str v)), some (.f (.tuple [.str k, .str x, .str y])), none] [o2, .lst (pPy ts), .dct A] _
      refine xs_set (e_dictKnots hB.names (e_var rfl ⟨rfl, e_op (e_var rfl (e_int (o_ixQ isq_tup rfl ⟨k, rfl, hkm, rfl, ?_⟩)))⟩))
      show ExS K _ [some (.own 0), some (.f (plD (ksPy ks))), some (.f (.list (sPy us))), some (.f (.int many)), some (.own 1), some (.own 2), some (.f (.int i)), some (.f (.str u)), some (.f (.str v)), some (.f (.tuple [.str k, .str x, .str y])), some (.f (plD (sPy (kids ks k))))] [o2, .lst (pPy ts), .dct A, .dct (mergeD [] (ksPrs ks))] _
      generalize mergeD [] (ksPrs ks) = D0
      refine xs_mid (fun ρ' l' => ∃ a b, ρ' = [some (.own 0), some (.f (plD (ksPy ks))), some (.f (.list (sPy us))), some (.f (.int many)), some (.own 1), some (.own 2), some (.f (.int i)), some (.f (.str a)), some (.f (.str b)), some (.f (.tuple [.str k, .str x, .str y])), some (.f (plD (sPy (kids ks k))))] ∧ l' = [o2, .lst (pPy ts), .dct A, .dct D0] ∧ a ∈ us ∧ b ∈ us ∧ ∃ x y, partF ks a b = some (k, x, y) ∧ (kids ks k).idxOf x < (kids ks k).idxOf y) ?_ ?_
      · refine x_if (t_test (e_op (e_bmP (e_var rfl ⟨⟨_, rfl⟩, a_cons (e_op (e_var rfl (e_int (o_ixQ isq_tup rfl (a_nil (m_tindex hxk ?_))))))⟩))))
        refine e_bmP (e_var rfl ⟨⟨_, rfl⟩, a_cons (e_op (e_var rfl (e_int (o_ixQ isq_tup rfl (a_nil (m_tindex hyk (o_I0b ⟨_, rfl, ?_⟩)))))))⟩)
        refine d_both (fun c1 => ?_) (fun c1 => ?_)
        · refine x_par (a_cons (e_var rfl (a_cons (e_var rfl (a_nil ⟨_, _, rfl, v, u, rfl, rfl, hv, hu, y, x, by rw [partF_swap, hq]; rfl, by omega⟩)))))
        · refine x_next ⟨u, v, rfl, rfl, hu, hv, x, y, hq, ?_⟩
          have hne : (kids ks k).idxOf x ≠ (kids ks k).idxOf y := fun e => hxy (by
            have h1 := List.getElem_idxOf (List.idxOf_lt_length_iff.mpr hxk)
            have h2 := List.getElem_idxOf (List.idxOf_lt_length_iff.mpr hyk)
            rw [← h1, ← h2]
            simp only [e])
          omega
      · rintro ρ' l' ⟨a, b, rfl, rfl, ha, hb, x2, y2, hq2, hlt⟩
        refine x_if (t_test (e_op (e_tup (a_cons (e_var rfl (a_cons (e_var rfl (a_nil ⟨[.str a, .str b], rfl, Nat.le_of_ble_eq_true rfl, ?_⟩))))))))
        refine e_var rfl (o_inP asd_f (isq_own (n := 1) rfl) (shape_pair (hso a ha) (hso b hb)) (lay_pPy fun e he => ⟨hso _ (hT.pa e he).1, hso _ (hT.pa e he).2.1⟩) ⟨_, rfl, ?_⟩)
        rw [if_pos rfl, any_pPy]
        refine nd_both (fun c2 => ?_) (fun c2 => ?_)
        · refine x_drop (e_bmL (e_var rfl ⟨⟨_, isl_own (n := 1) rfl⟩, a_cons (e_tup (a_cons (e_var rfl (a_cons (e_var rfl (a_nil ⟨_, rfl, Nat.le_of_ble_eq_true rfl, a_nil (m_append (n := 1) rfl (by rw [pPy_len]; omega) ?_)⟩))))))⟩))
          walk_at "u"
          refine ⟨o2, ts ++ [(a, b)], rfl, by rw [pPy_app]; rfl, p2, ⟨fun e he => ?_, fun e he => ?_, ?_⟩, by rw [List.length_append]; simp; omega⟩
          · rcases List.mem_append.mp he with h | h
            · exact hT.pa e h
            · cases List.mem_singleton.mp h
              exact ⟨ha, hb, k, x2, y2, hq2⟩
          · rcases List.mem_append.mp he with h | h
            · exact hT.fw e h
            · cases List.mem_singleton.mp h
              intro k' x' y' h'
              rw [hq2] at h'
              cases h'
              exact hlt
          · rw [List.nodup_append]
            exact ⟨hT.nd, by simp, fun p hp q hq e => c2 (by cases List.mem_singleton.mp hq; exact e ▸ hp)⟩
        · refine x_next ?_
          walk_at "u"
          exact ⟨o2, ts, rfl, rfl, p2, hT, by omega⟩
  · rintro ρ' l' ⟨o', ts, rfl, rfl, hp', hT, hl⟩
    exact x_ret (e_var rfl (Res.own (n := 1) rfl trivial nofun (Nat.le_refl _) (fun x hx => by cases hx with | head => exact hp'.under | tail _ h => cases h) (z _ _ hp' hT (by omega))))
def S__law_waiting : Spec3 := fun ds g R => ∃ o ks us ts ws, ds = [.own 0, .f (houseD ks ts [] ws), .f (.list (sPy us))] ∧ g = [o] ∧ IsPen o ∧ TreeB ks us ∧ Parted ks us ts ∧ ts.length ≤ 200 ∧ ws.length ≤ 60 ∧ (∀ u ∈ us, PyData.strOk u = true) ∧ ∀ o' wt, IsPen o' → WaitsOk ks us ts ws wt → wt.length ≤ 5 → R (.own 1) [o', .lst (pPy wt)]
abbrev s__law_waiting : Stmt := top 28
theorem sc__law_waiting : FnScope ["_law_pen_here", "_law_house_here", "_law_units", "_law_found", "_law_k", "_law_pair", "_law_told"] ["_law_pen_here", "_law_house_here", "_law_units"] (defScope s__law_waiting) := ⟨rfl, rfl, rfl, by decide +kernel, rfl, by decide +kernel, by decide +kernel⟩
set_option maxHeartbeats 4000000 in
theorem ok__law_waiting (T : Bi K mg) (Df : DefAt K mg "_law_waiting" s__law_waiting ["_law_pen_here", "_law_house_here", "_law_units"]) (C__law_draw : Cal P w K mg base 1 "_law_draw" ["_law_pen_here", "_law_most"] S__law_draw) (C__law_reached : Cal P w K mg base 1 "_law_reached" ["_law_edges_here", "_law_one"] S__law_reached) (C__law_edges : Cal P w K mg base 3 "_law_edges" ["_law_house_here", "_law_knot"] S__law_edges) (C__law_parting : Cal P w K mg base 2 "_law_parting" ["_law_around_here", "_law_one", "_law_other"] S__law_parting) (C__law_around : Cal P w K mg base 1 "_law_around" ["_law_knots"] S__law_around) : Cal P w K mg base 4 "_law_waiting" ["_law_pen_here", "_law_house_here", "_law_units"] S__law_waiting := by
  refine ok4 Df sc__law_waiting (fun ds g R h0 => by obtain ⟨_, _, _, _, _, h, _⟩ := h0; rw [h]; rfl) (fun cdv A outer s H E f hr => ?_)
  have hu1 := hu_of hr.r
  have hu64 := hr.units
  have hu65 : (A.deeper (PyProof.Rows.envOfC "_law_waiting" (defScope s__law_waiting) s.heap.objs.size f cdv)).units + 65 < cLine := by have := hr.un; omega
  refine ⟨_, (pss_cons (ps_set (i := 3) sc__law_waiting.nd rfl (by first | exact Or.inl rfl | exact Or.inr rfl) (pe_lst pa_nil))
    (pss_cons (ps_for PassesOwn.never rfl (pi_range1 (by rfl) T.b_range (pa_cons (pe_callB (u_min2 rfl) (by rfl) T.b_min (by decide +kernel) (pa_cons (pe_callB (u_len (K := K) rfl) (by rfl) T.b_len (by decide +kernel) (pa_cons (pv 2) pa_nil)) (pa_cons (pe_cal (K := K) rfl C__law_draw (hr.mono (by decide)) (by rfl) (pa_cons (pv 0) (pa_cons pe_int pa_nil))) pa_nil))) pa_nil)) (pg_name (i := 4) sc__law_waiting.nd rfl (by first | exact Or.inl rfl | exact Or.inr rfl))
    (pss_cons (ps_set (i := 5) sc__law_waiting.nd rfl (by first | exact Or.inl rfl | exact Or.inr rfl) (pe_tup (pa_cons (pe_ix (u_ix (K := K) rfl hu1) (pv 2) (pe_cal (K := K) rfl C__law_draw (hr.mono (by decide)) (by rfl) (pa_cons (pv 0) (pa_cons (pe_callB (u_len (K := K) rfl) (by rfl) T.b_len (by decide +kernel) (pa_cons (pv 2) pa_nil)) pa_nil))) (fun _ _ => rfl)) (pa_cons (pe_ix (u_ix (K := K) rfl hu1) (pv 2) (pe_cal (K := K) rfl C__law_draw (hr.mono (by decide)) (by rfl) (pa_cons (pv 0) (pa_cons (pe_callB (u_len (K := K) rfl) (by rfl) T.b_len (by decide +kernel) (pa_cons (pv 2) pa_nil)) pa_nil))) (fun _ _ => rfl)) pa_nil))))
    (pss_cons (ps_if (PW.pt (pw_and (pt_cmpR op_gt (pe_callB (u_len (K := K) rfl) (by rfl) T.b_len (by decide +kernel) (pa_cons (pe_ix (u_ix (K := K) rfl hu1) (pv 1) pe_int (fun _ _ => rfl)) pa_nil)) pe_int (nomark _)) (pw_and1 (pt_cmpR (u_eq (K := K) rfl hu64) (pe_cal (K := K) rfl C__law_draw (hr.mono (by decide)) (by rfl) (pa_cons (pv 0) (pa_cons pe_int pa_nil))) pe_int (nomark _)))))
    (pss_one (ps_set (i := 5) sc__law_waiting.nd rfl (by first | exact Or.inl rfl | exact Or.inr rfl) (pe_revU (K := K) rfl (pe_ix (u_ix (K := K) rfl hu1) (pe_ix (u_ix (K := K) rfl hu1) (pv 1) pe_int (fun _ _ => rfl)) (pe_cal (K := K) rfl C__law_draw (hr.mono (by decide)) (by rfl) (pa_cons (pv 0) (pa_cons (pe_callB (u_len (K := K) rfl) (by rfl) T.b_len (by decide +kernel) (pa_cons (pe_ix (u_ix (K := K) rfl hu1) (pv 1) pe_int (fun _ _ => rfl)) pa_nil)) pa_nil))) (fun _ _ => rfl)))))
    pss_nil)
    (pss_cons (ps_set (i := 6) sc__law_waiting.nd rfl (by first | exact Or.inl rfl | exact Or.inr rfl) (pe_cal (K := K) rfl C__law_parting (hr.mono (by decide)) (by rfl) (pa_cons (pe_cal (K := K) rfl C__law_around (hr.mono (by decide)) (by rfl) (pa_cons (pe_ix (u_ix (K := K) rfl hu1) (pv 1) pe_int (fun _ _ => rfl)) pa_nil)) (pa_cons (pe_ix (u_ix (K := K) rfl hu1) (pv 5) pe_int (fun _ _ => rfl)) (pa_cons (pe_ix (u_ix (K := K) rfl hu1) (pv 5) pe_int (fun _ _ => rfl)) pa_nil)))))
    (pss_one (ps_if (PW.pt (pw_and (pt_cmpR op_notN1 (pv 6) pe_non (nomark _)) (pw_and1 (pt_cmpR (u_notIn (K := K) rfl hu65) (pv 5) (pv 3) (by rfl)))))
    (pss_one (ps_if (pt_cmpR (u_in (K := K) rfl hu65) (pe_ix (u_ix (K := K) rfl hu1) (pv 6) pe_int (fun _ _ => rfl)) (pe_cal (K := K) rfl C__law_reached (hr.mono (by decide)) (by rfl) (pa_cons (pe_cal (K := K) rfl C__law_edges (hr.mono (by decide)) (by rfl) (pa_cons (pv 1) (pa_cons (pe_ix (u_ix (K := K) rfl hu1) (pv 6) pe_int (fun _ _ => rfl)) pa_nil))) (pa_cons (pe_ix (u_ix (K := K) rfl hu1) (pv 6) pe_int (fun _ _ => rfl)) pa_nil))) (by rfl))
    (pss_one (ps_expr (u_bm (K := K) rfl PySem.F.plainAttrs_list PySem.F.slot_list_append PySem.F.type_list_append mt_append (pv 3) (pa_cons (pv 5) pa_nil))))
    pss_nil))
    pss_nil))))))
    (pss_one (ps_ret (pv 3))))), fun ds g R hS => ?_⟩
  obtain ⟨o, ks, us, ts, ws, rfl, rfl, hp, hB, hP, htl, hwl, hso, z⟩ := hS
  show ExS K _ [some _, some _, some _, none, none, none, none] _ _
  have hu60 : us.length ≤ 60 := by obtain ⟨_, _, _, _, h⟩ := hB; exact h
  refine xs_set (e_lst (a_nil ⟨[], rfl, by decide, ?_⟩))
  refine xs_forR (a_cons (e_cb (a_cons (e_cb (a_cons (e_var rfl (a_nil (c_lenQ isq_list (a_cons (e_draw 0 (a_cons (e_var rfl (a_cons (e_int (a_nil ⟨_, o, rfl, rfl, hp, by decide, by decide, fun r o1 r0 r1 p1 => a_nil (c_min2 (a_nil ⟨_, rfl, ?_⟩))⟩)))))))))))))))
  rw [sPy_len]
  generalize hN : (if r < (us.length : Int) then r else (us.length : Int)) = N
  have hN1 : N ≤ r ∧ N ≤ us.length ∧ 0 ≤ N := by subst hN; split <;> omega
  refine ⟨by omega, by omega, fun i ρ' l' => ∃ (o' : O) (wt : Ties), ρ' = [some (.own 0), some (.f (houseD ks ts [] ws)), some (.f (.list (sPy us))), some (.own 1), none, none, none] ∧ l' = [o', .lst (pPy wt)] ∧ IsPen o' ∧ WaitsOk ks us ts ws wt ∧ wt.length ≤ i, ⟨o1, [], rfl, rfl, p1, ⟨nofun, nofun, List.nodup_nil⟩, Nat.zero_le _⟩, ?_, ?_⟩
  · rintro i ρ' l' hi ⟨o', wt, rfl, rfl, hp', hW, hl⟩
    have hu1 : 1 ≤ us.length := by omega
    refine g_name (x_tidy 2 [4, 5, 6] (Nat.le_refl _) ?_)
    refine xs_set (e_tup (a_cons (e_op (e_var rfl (e_draw 0 (a_cons (e_var rfl (a_cons (e_cb (a_cons (e_var rfl (a_nil (c_lenQ isq_list (a_nil ⟨_, o', rfl, rfl, hp', (by rw [sPy_len]; omega), (by rw [sPy_len]; omega), fun r o2 r0 r1 p2 => ?_⟩))))))))))))))
    rw [sPy_len] at r1
    obtain ⟨u, hu, eu⟩ := sPy_at r0 r1
    refine o_ixQ isq_list eu ?_
    refine a_cons (e_op (e_var rfl (e_draw 0 (a_cons (e_var rfl (a_cons (e_cb (a_cons (e_var rfl (a_nil (c_lenQ isq_list (a_nil ⟨_, o2, rfl, rfl, p2, (by rw [sPy_len]; omega), (by rw [sPy_len]; omega), fun r' o3 r0' r1' p3 => ?_⟩))))))))))))
    rw [sPy_len] at r1'
    obtain ⟨v, hv, ev⟩ := sPy_at r0' r1'
    refine o_ixQ isq_list ev (a_nil ⟨[.str u, .str v], rfl, Nat.le_of_ble_eq_true rfl, ?_⟩)
    refine xs_mid (fun ρ' l' => ∃ (o' : O) (a b : Str), ρ' = [some (.own 0), some (.f (houseD ks ts [] ws)), some (.f (.list (sPy us))), some (.own 1), some (.f (.int i)), some (.f (.tuple [.str a, .str b])), none] ∧ l' = [o', .lst (pPy wt)] ∧ IsPen o' ∧ a ∈ us ∧ b ∈ us) ?_ ?_
    · refine x_if (t_and (t_test (e_op (e_cb (a_cons (e_op (e_var rfl (e_int (o_ixQ isq_tup rfl (a_nil (c_lenQ isq_tup (e_int (o_I0b ⟨_, rfl, ?_⟩)))))))))))))
      rw [pPy_len]
      refine d_both (fun c1 => ?_) (fun c1 => ?_)
      · refine t_test (e_op (e_draw 0 (a_cons (e_var rfl (a_cons (e_int (a_nil ⟨_, o3, rfl, rfl, p3, by decide, by decide, fun r o4 r0 r1 p4 => e_int (o_eqI ⟨_, rfl, ?_⟩)⟩)))))))
        refine d_both (fun c2 => ?_) (fun c2 => ?_)
        · refine x_set (e_revT (e_op (e_op (e_var rfl (e_int (o_ixQ isq_tup rfl (e_draw 0 (a_cons (e_var rfl (a_cons (e_cb (a_cons (e_op (e_var rfl (e_int (o_ixQ isq_tup rfl (a_nil (c_lenQ isq_tup (a_nil ⟨_, o4, rfl, rfl, p4, (by rw [pPy_len]; omega), (by rw [pPy_len]; omega), fun r5 o5 r50 r51 p5 => ?_⟩)))))))))))))))))))
          rw [pPy_len] at r51
          obtain ⟨n, hn⟩ := Int.eq_ofNat_of_zero_le r50
          subst hn
          have he : ts[n]? = some ts[n] := List.getElem?_eq_getElem (by omega)
          generalize ts[n] = e at he
          have hem := hP e (List.mem_of_getElem? he)
          have hx : (pPy ts)[n]? = some (.tuple [.str e.1, .str e.2]) := by unfold pPy; rw [List.getElem?_map, he]; rfl
          refine o_ixQ isq_tup (atI_nat hx) ⟨_, rfl, ?_⟩
          exact ⟨o5, e.2, e.1, rfl, rfl, p5, hem.2.1, hem.1⟩
        · exact x_next ⟨o4, u, v, rfl, rfl, p4, hu, hv⟩
      · exact iteF (x_next ⟨o3, u, v, rfl, rfl, p3, hu, hv⟩)
    rintro ρ' l' ⟨o6, a, b, rfl, rfl, p6, ha, hb⟩
    have hskip : ∀ {j : Nat}, wt.length ≤ j → wt.length ≤ j + 1 := fun h => Nat.le_succ_of_le h
    refine xs_set (e_call1 2 (a_cons (e_call0 (a_cons (e_op (e_var rfl (e_int (o_ixQ isq_tup rfl (a_nil ⟨trivial, ks, us, rfl, rfl, hB, fun A hA => ?_⟩)))))))))
    refine a_cons (e_op (e_var rfl (e_int (o_ixQ isq_tup rfl (a_cons (e_op (e_var rfl (e_int (o_ixQ isq_tup rfl (a_nil ⟨_, _, rfl, trivial, rfl, ks, us, A, a, b, rfl, rfl, hB, hA, ha, hb, _, _, rfl, ?_⟩))))))))))
    show ExS K _ [some (.own 0), some (.f (houseD ks ts [] ws)), some (.f (.list (sPy us))), some (.own 1), some (.f (.int i)), some (.f (.tuple [.str a, .str b])), some (.f (partD (partF ks a b)))] [o6, .lst (pPy wt), .dct A] _
    refine x_if (t_and (t_test (e_op (e_var rfl (e_non (o_notN ⟨_, rfl, ?_⟩))))))
    cases hq : partF ks a b with
    | none =>
      refine iteF (iteF (x_next ?_))
      walk_at "u"
      exact ⟨o6, wt, rfl, rfl, p6, hW, hskip hl⟩
    | some t =>
      obtain ⟨k, x, y⟩ := t
      obtain ⟨hx, hy, hxy⟩ := hB.part ha hb hq
      refine iteT (t_test (e_op (e_var rfl (e_var rfl (o_inP asd_f (isq_own (n := 1) rfl) (shape_pair (hso a ha) (hso b hb)) (lay_pPy fun e he => ⟨hso _ (hW.pa e he).1, hso _ (hW.pa e he).2.1⟩) ⟨_, rfl, ?_⟩)))))
      rw [if_pos rfl, any_pPy]
      refine nd_both (fun c2 => ?_) (fun c2 => ?_)
      · refine x_if (t_test (e_op (e_op (e_var rfl (e_int (o_ixQ isq_tup rfl (e_call0 (a_cons (e_frz (e_call0 (a_cons (e_var rfl (a_cons (e_op (e_var rfl (e_int (o_ixQ isq_tup rfl (a_nil ⟨trivial, ks, us, ts, [], ws, k, rfl, rfl, hB, hP, htl, hwl, hx.knot, hso, ?_⟩))))))))))))))))))
        refine ⟨3, _, rfl, rfl, a_cons (e_op (e_var rfl (e_int (o_ixQ isq_tup rfl (a_nil ⟨trivial, edgesF ks ts ws k, y, rfl, rfl, ?_, fun xs hxs => ?_⟩)))))⟩
        · have a1 := onceL_len (edges0 ks ts ws k)
          have a2 := edges0_len hB ts ws k
          unfold edgesF
          omega
        refine o_inQS (isq_own (n := 4) rfl) ⟨_, rfl, ?_⟩
        refine d_both (c := x ∈ xs) (fun c3 => ?_) (fun c3 => ?_)
        · refine x_drop (e_bmL (e_var rfl ⟨⟨_, isl_own (n := 1) rfl⟩, a_cons (e_var rfl (a_nil (m_append (n := 1) rfl (by rw [pPy_len]; omega) ?_)))⟩))
          walk_at "u"
          refine ⟨o6, wt ++ [(a, b)], rfl, by rw [pPy_app]; rfl, p6, ⟨fun e he => ?_, fun e he => ?_, ?_⟩, by rw [List.length_append]; simp; omega⟩
          · rcases List.mem_append.mp he with h | h
            · exact hW.pa e h
            · cases List.mem_singleton.mp h
              exact ⟨ha, hb, k, x, y, hq⟩
          · rcases List.mem_append.mp he with h | h
            · exact hW.cl e h
            · cases List.mem_singleton.mp h
              intro k' x' y' h'
              rw [hq] at h'
              cases h'
              exact (hxs.all x).mp c3
          · rw [List.nodup_append]
            exact ⟨hW.nd, by simp, fun p hp q hq e => c2 (by cases List.mem_singleton.mp hq; exact e ▸ hp)⟩
        · refine x_next ?_
          walk_at "u"
          exact ⟨o6, wt, rfl, rfl, p6, hW, hskip hl⟩
      · refine x_next ?_
        walk_at "u"
        exact ⟨o6, wt, rfl, rfl, p6, hW, hskip hl⟩
  · rintro ρ' l' ⟨o', wt, rfl, rfl, hp', hW, hl⟩
    exact x_ret (e_var rfl (Res.own (n := 1) rfl trivial nofun (Nat.le_refl _) (fun x hx => by cases hx with | head => exact hp'.under | tail _ h => cases h) (z _ _ hp' hW (by omega))))
def S__law_house : Spec3 := fun ds g R => ∃ o us deep, ds = [.own 0, .f (.list (sPy us)), .f (.int deep)] ∧ g = [o] ∧ IsPen o ∧ us.length ≤ 60 ∧ us.Nodup ∧ (∀ u ∈ us, 1 ≤ u.length ∧ PyData.strOk u = true) ∧ 0 ≤ deep ∧ deep ≤ 100 ∧ ∀ o' ks ts wt ws, IsPen o' → HouseOk ks us ts wt ws → (∃ r, Tree ks us deep r) → R (.f (houseD ks ts wt ws)) [o']
abbrev s__law_house : Stmt := top 29
theorem sc__law_house : FnScope ["_law_pen_here", "_law_units", "_law_deep", "_law_knots", "_law_wants_here", "_law_ties", "_law_house_here"] ["_law_pen_here", "_law_units", "_law_deep"] (defScope s__law_house) := ⟨rfl, rfl, rfl, by decide +kernel, rfl, by decide +kernel, by decide +kernel⟩
set_option maxHeartbeats 4000000 in
theorem ok__law_house (T : Bi K mg) (Df : DefAt K mg "_law_house" s__law_house ["_law_pen_here", "_law_units", "_law_deep"]) (C__law_waiting : Cal P w K mg base 4 "_law_waiting" ["_law_pen_here", "_law_house_here", "_law_units"] S__law_waiting) (C__law_kept : Cal P w K mg base 3 "_law_kept" ["_law_pen_here", "_law_knots", "_law_units", "_law_many"] S__law_kept) (C__law_draw : Cal P w K mg base 1 "_law_draw" ["_law_pen_here", "_law_most"] S__law_draw) (C__law_wants : Cal P w K mg base 2 "_law_wants" ["_law_pen_here", "_law_knots"] S__law_wants) (C__law_tree : Cal P w K mg base 2 "_law_tree" ["_law_pen_here", "_law_names_here", "_law_deep"] S__law_tree) : Cal P w K mg base 5 "_law_house" ["_law_pen_here", "_law_units", "_law_deep"] S__law_house := by
  refine ok4 Df sc__law_house (fun ds g R h0 => by obtain ⟨_, _, _, h, _⟩ := h0; rw [h]; rfl) (fun cdv A outer s H E f hr => ?_)
  have hu1 := hu_of hr.r
  have hu64 := hr.units
  have hu65 : (A.deeper (PyProof.Rows.envOfC "_law_house" (defScope s__law_house) s.heap.objs.size f cdv)).units + 65 < cLine := by have := hr.un; omega
  refine ⟨_, (pss_cons (ps_set (i := 3) sc__law_house.nd rfl (by first | exact Or.inl rfl | exact Or.inr rfl) (pe_cal (K := K) rfl C__law_tree (hr.mono (by decide)) (by rfl) (pa_cons (pv 0) (pa_cons (pv 1) (pa_cons (pv 2) pa_nil)))))
    (pss_cons (ps_set (i := 4) sc__law_house.nd rfl (by first | exact Or.inl rfl | exact Or.inr rfl) (pe_cal (K := K) rfl C__law_wants (hr.mono (by decide)) (by rfl) (pa_cons (pv 0) (pa_cons (pv 3) pa_nil))))
    (pss_cons (ps_set (i := 5) sc__law_house.nd rfl (by first | exact Or.inl rfl | exact Or.inr rfl) (pe_cal (K := K) rfl C__law_kept (hr.mono (by decide)) (by rfl) (pa_cons (pv 0) (pa_cons (pv 3) (pa_cons (pv 1) (pa_cons (pe_cal (K := K) rfl C__law_draw (hr.mono (by decide)) (by rfl) (pa_cons (pv 0) (pa_cons (pe_op (u_add (K := K) rfl) (pe_callB (u_min2 rfl) (by rfl) T.b_min (by decide +kernel) (pa_cons pe_int (pa_cons (pe_op u_mul pe_int (pe_callB (u_len (K := K) rfl) (by rfl) T.b_len (by decide +kernel) (pa_cons (pv 1) pa_nil))) pa_nil))) pe_int) pa_nil))) pa_nil))))))
    (pss_cons (ps_set (i := 6) sc__law_house.nd rfl (by first | exact Or.inl rfl | exact Or.inr rfl) (pe_tup (pa_cons (pv 3) (pa_cons (pe_callTy (u_tuple (K := K) rfl) (by rfl) T.b_tuple (by decide +kernel) (pa_cons (pv 5) pa_nil)) (pa_cons (pe_tup pa_nil) (pa_cons (pe_callTy (u_tuple (K := K) rfl) (by rfl) T.b_tuple (by decide +kernel) (pa_cons (pv 4) pa_nil)) pa_nil))))))
    (pss_one (ps_ret (pe_tup (pa_cons (pv 3) (pa_cons (pe_callTy (u_tuple (K := K) rfl) (by rfl) T.b_tuple (by decide +kernel) (pa_cons (pv 5) pa_nil)) (pa_cons (pe_callTy (u_tuple (K := K) rfl) (by rfl) T.b_tuple (by decide +kernel) (pa_cons (pe_cal (K := K) rfl C__law_waiting (hr.mono (by decide)) (by rfl) (pa_cons (pv 0) (pa_cons (pv 6) (pa_cons (pv 1) pa_nil)))) pa_nil)) (pa_cons (pe_callTy (u_tuple (K := K) rfl) (by rfl) T.b_tuple (by decide +kernel) (pa_cons (pv 4) pa_nil)) pa_nil))))))))))), fun ds g R hS => ?_⟩
  obtain ⟨o, us, deep, rfl, rfl, hp, hul, hun, hso, hd0, hd1, z⟩ := hS
  show ExS K _ [some _, some _, some _, none, none, none, none] _ _
  refine xs_set (e_call1 0 (a_cons (e_var rfl (a_cons (e_var rfl (a_cons (e_var rfl (a_nil ⟨_, _, rfl, hp.free, rfl, o, us, deep, rfl, rfl, hp, hul, hun, fun u hu => (hso u hu).1, hd0, fun o1 ks r p1 hT => ⟨_, _, rfl, ?_⟩⟩))))))))
  have hB : TreeB ks us := ⟨deep, r, hT, hd1, hul⟩
  rw [p1.shift1]
  refine xs_set (e_call1 0 (a_cons (e_var rfl (a_cons (e_var rfl (a_nil ⟨_, _, rfl, p1.free, rfl, o1, ks, us, rfl, rfl, p1, hB, fun o2 ws p2 hW => ⟨_, _, rfl, ?_⟩⟩))))))
  rw [p2.shift1]
  have hwl := hW.len hB
  refine xs_set (e_call1 0 (a_cons (e_var rfl (a_cons (e_var rfl (a_cons (e_var rfl (a_cons (e_draw 0 (a_cons (e_var rfl (a_cons (e_op (e_cb (a_cons (e_int (a_cons (e_op (e_int (e_cb (a_cons (e_var rfl (a_nil (c_lenQ isq_list (o_mulI ?_ (a_nil (c_min2 (e_int (o_addI ?_)))))))))))))))))))))))))))))
  · exact Or.inl ⟨by decide, by decide⟩
  rw [sPy_len]
  generalize hN : (if 2 * (us.length : Int) < 40 then 2 * (us.length : Int) else 40) = N
  have hN1 : N ≤ 40 ∧ N ≤ 2 * us.length ∧ 0 ≤ N := by subst hN; split <;> omega
  refine a_nil ⟨_, o2, rfl, rfl, p2, by omega, by omega, fun r3 o3 r30 r31 p3 => ?_⟩
  refine a_nil ⟨_, _, rfl, p3.free, rfl, o3, ks, us, r3, rfl, rfl, p3, hB, r30, by omega, fun e => by subst e; simp at hN1; omega, fun u hu => (hso u hu).2, fun o4 ts p4 hTs htl => ⟨_, _, rfl, ?_⟩⟩
  rw [p4.shift1]
  show ExS K _ [some (.own 0), some (.f (.list (sPy us))), some (.f (.int deep)), some (.f (plD (ksPy ks))), some (.own 1), some (.own 2), none] [o4, .lst (pPy ws), .lst (pPy ts)] _
  refine xs_set (e_tup (a_cons (e_var rfl (a_cons (e_cb (a_cons (e_var rfl (a_nil (c_tuple (isq_own (n := 2) rfl) (a_cons (e_tup (a_nil ⟨[], rfl, by decide, a_cons (e_cb (a_cons (e_var rfl (a_nil (c_tuple (isq_own (n := 1) rfl) (a_nil ⟨_, rfl, Nat.le_of_ble_eq_true rfl, ?_⟩))))))⟩))))))))))))
  refine x_ret (e_tup (a_cons (e_var rfl (a_cons (e_cb (a_cons (e_var rfl (a_nil (c_tuple (isq_own (n := 2) rfl) (a_cons (e_cb (a_cons (e_call1 0 (a_cons (e_var rfl (a_cons (e_var rfl (a_cons (e_var rfl (a_nil ⟨_, _, rfl, p4.free, rfl, o4, ks, us, ts, ws, rfl, rfl, p4, hB, hTs.pa, by omega, hwl, fun u hu => (hso u hu).2, fun o5 wt p5 hWt hwt => ⟨_, _, rfl, ?_⟩⟩))))))))))))))))))))
  rw [p5.shift1]
  refine a_nil (c_tuple (isq_own (n := 3) rfl) (a_cons (e_cb (a_cons (e_var rfl (a_nil (c_tuple (isq_own (n := 1) rfl) (a_nil ⟨_, rfl, Nat.le_of_ble_eq_true rfl, ?_⟩))))))))
  exact Res.dat (fun x hx => by cases hx with | head => exact p5.under | tail _ h => cases h) (z o5 ks ts wt ws p5 ⟨hB, hTs, by omega, hW, hWt, hwt⟩ ⟨r, hT⟩)
theorem knotOf_next {ks : Knots} {u : Str} {i : Nat} {k : Str × List Str} (hk : ks[i]? = some k) (h : ∀ p ∈ ks.take i, ¬ u ∈ p.2) (hu : u ∈ k.2) : L3.knotOf ks u = some k.1 := by
  have e : ks = ks.take i ++ k :: ks.drop (i + 1) := by
    have hl := (List.getElem?_eq_some_iff.mp hk).1
    have := List.take_append_drop i ks
    rw [List.drop_eq_getElem_cons hl, (List.getElem?_eq_some_iff.mp hk).2] at this
    exact this.symm
  have h0 : (ks.take i).find? (fun p => decide (u ∈ p.2)) = none := List.find?_eq_none.mpr fun p hp => by simpa using h p hp
  unfold L3.knotOf
  conv => lhs; rw [e]
  rw [List.find?_append, h0, Option.none_or, List.find?_cons, decide_eq_true hu]
  rfl
def S_knot_of : Spec3 := fun ds g R => ∃ ks rest u, ds = [.f (.tuple (plD (ksPy ks) :: rest)), .f (.str u)] ∧ g = [] ∧ R (.f (fromD (L3.knotOf ks u))) []
abbrev s_knot_of : Stmt := top 3
theorem sc_knot_of : FnScope ["house", "one", "name", "some"] ["house", "one"] (defScope s_knot_of) := ⟨rfl, rfl, rfl, by decide +kernel, rfl, by decide +kernel, by decide +kernel⟩
set_option maxHeartbeats 4000000 in
theorem ok_knot_of (T : Bi K mg) (Df : DefAt K mg "knot_of" s_knot_of ["house", "one"]) : Cal P w K mg base 1 "knot_of" ["house", "one"] S_knot_of := by
  refine ok4 Df sc_knot_of (fun ds g R h0 => by obtain ⟨_, _, _, h, _⟩ := h0; rw [h]; rfl) (fun cdv A outer s H E f hr => ?_)
  have hu1 := hu_of hr.r
  have hu64 := hr.units
  have hu65 : (A.deeper (PyProof.Rows.envOfC "knot_of" (defScope s_knot_of) s.heap.objs.size f cdv)).units + 65 < cLine := by have := hr.un; omega
  refine ⟨_, (pss_cons (ps_for PassesOwn.never rfl (u_seq (K := K) rfl (pe_ix (u_ix (K := K) rfl hu1) (pv 0) pe_int (fun _ _ => rfl))) (u_tup (K := K) (n := 2) rfl (by rfl) (pgs_cons (pg_name (i := 2) sc_knot_of.nd rfl (by first | exact Or.inl rfl | exact Or.inr rfl)) (pgs_cons (pg_name (i := 3) sc_knot_of.nd rfl (by first | exact Or.inl rfl | exact Or.inr rfl)) pgs_nil)))
    (pss_one (ps_if (pt_cmpR (u_in (K := K) rfl hu65) (pv 1) (pv 3) (by rfl))
    (pss_one (ps_ret (pv 2)))
    pss_nil)))
    (pss_one (ps_ret pe_non))), fun ds g R hS => ?_⟩
  obtain ⟨ks, rest, u, rfl, rfl, z⟩ := hS
  show ExS K _ [some _, some _, none, none] _ _
  refine xs_forP (e_op (e_var rfl (e_int (o_ixQ isq_tup (atI_zero _ _) ⟨ksPy ks, rfl, fun i ρ' l' => ∃ a b, ρ' = [some (.f (.tuple (plD (ksPy ks) :: rest))), some (.f (.str u)), a, b] ∧ l' = [] ∧ ∀ p ∈ ks.take i, ¬ u ∈ p.2, ⟨none, none, rfl, rfl, fun p hp => by simp at hp⟩, ?_, ?_⟩))))
  · rintro i d ρ' l' hd ⟨a, b, rfl, rfl, hA⟩
    obtain ⟨k, hk, rfl⟩ := ksPy_get hd
    refine g_tup rfl (g_cons (g_name (g_cons (g_name (g_nil ?_)))))
    refine x_if (t_test (e_op (e_var rfl (e_var rfl (o_inPS ⟨_, rfl, ?_⟩)))))
    refine d_both (c := u ∈ k.2) (fun c1 => ?_) (fun c1 => ?_)
    · rw [knotOf_next hk hA c1] at z
      exact x_ret (e_var rfl (Res.dat (fun _ h => by cases h) z))
    · refine x_next ⟨_, _, rfl, rfl, fun p hp => ?_⟩
      rw [L3.take_next hk] at hp
      rcases List.mem_append.mp hp with h | h
      · exact hA p h
      · cases List.mem_singleton.mp h; exact c1
  · rintro ρ' l' ⟨a, b, rfl, rfl, hA⟩
    rw [ksPy_len, List.take_length] at hA
    have e : L3.knotOf ks u = none := by
      unfold L3.knotOf
      rw [List.find?_eq_none.mpr fun p hp => by simpa using hA p hp]
      rfl
    rw [e] at z
    exact x_ret (e_non (Res.dat (fun _ h => by cases h) z))
def S_chain : Spec3 := fun ds g R => ∃ ks us rest u, ds = [.f (.tuple (plD (ksPy ks) :: rest)), .f (.str u)] ∧ g = [] ∧ TreeB ks us ∧ u ∈ us ∧ R (.own 0) [.lst (sPy (pathOf ks u).tail)]
abbrev s_chain : Stmt := top 4
theorem sc_chain : FnScope ["house", "one", "found", "knot"] ["house", "one"] (defScope s_chain) := ⟨rfl, rfl, rfl, by decide +kernel, rfl, by decide +kernel, by decide +kernel⟩
set_option maxHeartbeats 4000000 in
theorem ok_chain (T : Bi K mg) (Df : DefAt K mg "chain" s_chain ["house", "one"]) (C_knot_of : Cal P w K mg base 1 "knot_of" ["house", "one"] S_knot_of) : Cal P w K mg base 2 "chain" ["house", "one"] S_chain := by
  refine ok4 Df sc_chain (fun ds g R h0 => by obtain ⟨_, _, _, _, h, _⟩ := h0; rw [h]; rfl) (fun cdv A outer s H E f hr => ?_)
  have hu1 := hu_of hr.r
  have hu64 := hr.units
  have hu65 : (A.deeper (PyProof.Rows.envOfC "chain" (defScope s_chain) s.heap.objs.size f cdv)).units + 65 < cLine := by have := hr.un; omega
  refine ⟨_, (pss_cons (ps_set (i := 2) sc_chain.nd rfl (by first | exact Or.inl rfl | exact Or.inr rfl) (pe_lst (pa_cons (pv 1) pa_nil)))
    (pss_cons (ps_set (i := 3) sc_chain.nd rfl (by first | exact Or.inl rfl | exact Or.inr rfl) (pe_cal (K := K) rfl C_knot_of (hr.mono (by decide)) (by rfl) (pa_cons (pv 0) (pa_cons (pv 1) pa_nil))))
    (pss_cons (ps_while PassesOwn.never (pt_cmpR (u_ne (K := K) rfl hu64) (pv 3) (pe_gs rfl T.gc_TOP) (nomark _))
    (pss_cons (ps_expr (u_bm (K := K) rfl PySem.F.plainAttrs_list PySem.F.slot_list_insert PySem.F.type_list_insert u_insert (pv 2) (pa_cons pe_int (pa_cons (pv 3) pa_nil))))
    (pss_one (ps_set (i := 3) sc_chain.nd rfl (by first | exact Or.inl rfl | exact Or.inr rfl) (pe_cal (K := K) rfl C_knot_of (hr.mono (by decide)) (by rfl) (pa_cons (pv 0) (pa_cons (pv 3) pa_nil)))))))
    (pss_one (ps_ret (pv 2)))))), fun ds g R hS => ?_⟩
  obtain ⟨ks, us, rest, u, rfl, rfl, hB, hu, z⟩ := hS
  show ExS K _ [some _, some _, none, none] _ _
  obtain ⟨hup, hpl⟩ := hB.up hu
  refine xs_set (e_lst (a_cons (e_var rfl (a_nil ⟨[.str u], rfl, Nat.le_of_ble_eq_true rfl, ?_⟩))))
  refine xs_set (e_call0 (a_cons (e_var rfl (a_cons (e_var rfl (a_nil ⟨trivial, ks, rest, u, rfl, rfl, ?_⟩))))))
  obtain ⟨p0, k0, ep, hk0⟩ : ∃ p0 k0, pathOf ks u = p0 ++ [u] ∧ L3.knotOf ks u = some k0 ∧ Up ks k0 p0 := by
    have hB' := hB
    obtain ⟨_, _, T, _⟩ := hB'
    generalize pathOf ks u = pp at hup
    cases hup with
    | top => exact absurd rfl (T.nt _ hu)
    | @step _ k q h1 h2 h3 => exact ⟨q, k, rfl, T.knotOf.mpr h2, h3⟩
  rw [hk0.1]
  refine xs_while (fun ρ' l' => ∃ k q s, ρ' = [some (.f (.tuple (plD (ksPy ks) :: rest))), some (.f (.str u)), some (.own 0), some (.f (.str k))] ∧ l' = [.lst (sPy s)] ∧ Up ks k q ∧ pathOf ks u = q ++ s) (fun _ l' => (pathOf ks u).length - lenI l' 0) ⟨k0, p0, [u], rfl, rfl, hk0.2, ep⟩ ?_
  rintro ρ' l' ⟨k, q, s, rfl, rfl, hq, hps⟩
  refine t_test (e_op (e_var rfl (e_str (o_neS ⟨_, rfl, ?_⟩))))
  refine nd_both (fun c1 => ?_) (fun c1 => ?_)
  · cases hq with
    | top => exact absurd rfl c1
    | @step _ k2 q' h1 h2 h3 =>
      obtain ⟨q2, eq2⟩ := h3.ne
      have hlen : (pathOf ks u).length = q'.length + 1 + s.length := by rw [hps]; simp; omega
      have hq2 : 1 ≤ q'.length := by rw [eq2]; simp
      have hkk : L3.knotOf ks k = some k2 := by obtain ⟨_, _, T, _⟩ := hB; exact T.knotOf.mpr h2
      refine xs_drop (e_bmL (e_var rfl ⟨⟨_, isl_own (n := 0) rfl⟩, a_cons (e_int (a_cons (e_var rfl (a_nil (m_insert (n := 0) rfl (by rw [sPy_len]; omega) (by decide) (by decide) ?_)))))⟩))
      refine x_set (e_call0 (a_cons (e_var rfl (a_cons (e_var rfl (a_nil ⟨trivial, ks, rest, k, rfl, rfl, ?_⟩))))))
      rw [hkk]
      refine ⟨⟨k2, q', k :: s, rfl, rfl, h3, by rw [hps]; simp⟩, ?_⟩
      show (pathOf ks u).length - (sPy (k :: s)).length < (pathOf ks u).length - (sPy s).length
      rw [sPy_len, sPy_len]
      simp only [List.length_cons]
      omega
  · have c1 : k = nil0 := c1
    subst c1
    cases hq with
    | step h1 _ _ => exact absurd rfl h1
    | top =>
      rw [hps] at z
      exact x_ret (e_var rfl (Res.own (n := 0) rfl trivial nofun (Nat.zero_le _) (fun _ h => by cases h) z))
def S_parting : Spec3 := fun ds g R => ∃ ks us rest u v, ds = [.f (.tuple (plD (ksPy ks) :: rest)), .f (.str u), .f (.str v)] ∧ g = [] ∧ TreeB ks us ∧ u ∈ us ∧ v ∈ us ∧ R (.f (partD (partF ks u v))) []
abbrev s_parting : Stmt := top 5
theorem sc_parting : FnScope ["house", "one", "other", "here", "there", "knot", "at"] ["house", "one", "other"] (defScope s_parting) := ⟨rfl, rfl, rfl, by decide +kernel, rfl, by decide +kernel, by decide +kernel⟩
set_option maxHeartbeats 4000000 in
theorem ok_parting (T : Bi K mg) (Df : DefAt K mg "parting" s_parting ["house", "one", "other"]) (C_chain : Cal P w K mg base 2 "chain" ["house", "one"] S_chain) : Cal P w K mg base 3 "parting" ["house", "one", "other"] S_parting := by
  refine ok4 Df sc_parting (fun ds g R h0 => by obtain ⟨_, _, _, _, _, h, _⟩ := h0; rw [h]; rfl) (fun cdv A outer s H E f hr => ?_)
  have hu1 := hu_of hr.r
  have hu64 := hr.units
  have hu65 : (A.deeper (PyProof.Rows.envOfC "parting" (defScope s_parting) s.heap.objs.size f cdv)).units + 65 < cLine := by have := hr.un; omega
  refine ⟨_, (pss_cons (ps_set (i := 3) sc_parting.nd rfl (by first | exact Or.inl rfl | exact Or.inr rfl) (pe_cal (K := K) rfl C_chain (hr.mono (by decide)) (by rfl) (pa_cons (pv 0) (pa_cons (pv 1) pa_nil))))
    (pss_cons (ps_set (i := 4) sc_parting.nd rfl (by first | exact Or.inl rfl | exact Or.inr rfl) (pe_cal (K := K) rfl C_chain (hr.mono (by decide)) (by rfl) (pa_cons (pv 0) (pa_cons (pv 2) pa_nil))))
    (pss_cons (ps_set (i := 5) sc_parting.nd rfl (by first | exact Or.inl rfl | exact Or.inr rfl) (pe_gs rfl T.gc_TOP))
    (pss_cons (ps_set (i := 6) sc_parting.nd rfl (by first | exact Or.inl rfl | exact Or.inr rfl) pe_int)
    (pss_cons (ps_while PassesOwn.never (PW.pt (pw_and (pt_cmpR op_lt (pv 6) (pe_callB (u_min2 rfl) (by rfl) T.b_min (by decide +kernel) (pa_cons (pe_callB (u_len (K := K) rfl) (by rfl) T.b_len (by decide +kernel) (pa_cons (pv 3) pa_nil)) (pa_cons (pe_callB (u_len (K := K) rfl) (by rfl) T.b_len (by decide +kernel) (pa_cons (pv 4) pa_nil)) pa_nil))) (nomark _)) (pw_and1 (pt_cmpR (u_eq (K := K) rfl hu64) (pe_ix (u_ix (K := K) rfl hu1) (pv 3) (pv 6) (fun _ _ => rfl)) (pe_ix (u_ix (K := K) rfl hu1) (pv 4) (pv 6) (fun _ _ => rfl)) (nomark _)))))
    (pss_cons (ps_set (i := 5) sc_parting.nd rfl (by first | exact Or.inl rfl | exact Or.inr rfl) (pe_ix (u_ix (K := K) rfl hu1) (pv 3) (pv 6) (fun _ _ => rfl)))
    (pss_one (ps_set (i := 6) sc_parting.nd rfl (by first | exact Or.inl rfl | exact Or.inr rfl) (pe_op (u_add (K := K) rfl) (pv 6) pe_int)))))
    (pss_cons (ps_if (pt_cmpR (u_eq (K := K) rfl hu64) (pv 6) (pe_callB (u_min2 rfl) (by rfl) T.b_min (by decide +kernel) (pa_cons (pe_callB (u_len (K := K) rfl) (by rfl) T.b_len (by decide +kernel) (pa_cons (pv 3) pa_nil)) (pa_cons (pe_callB (u_len (K := K) rfl) (by rfl) T.b_len (by decide +kernel) (pa_cons (pv 4) pa_nil)) pa_nil))) (nomark _))
    (pss_one (ps_ret pe_non))
    pss_nil)
    (pss_one (ps_ret (pe_tup (pa_cons (pv 5) (pa_cons (pe_ix (u_ix (K := K) rfl hu1) (pv 3) (pv 6) (fun _ _ => rfl)) (pa_cons (pe_ix (u_ix (K := K) rfl hu1) (pv 4) (pv 6) (fun _ _ => rfl)) pa_nil)))))))))))), fun ds g R hS => ?_⟩
  obtain ⟨ks, us, rest, u, v, rfl, rfl, hB, hu, hv, z⟩ := hS
  show ExS K _ [some _, some _, some _, none, none, none, none] _ _
  obtain ⟨hup, hpl⟩ := hB.up hu
  obtain ⟨hvp, hql⟩ := hB.up hv
  refine xs_set (e_call0 (a_cons (e_var rfl (a_cons (e_var rfl (a_nil ⟨trivial, ks, us, rest, u, rfl, rfl, hB, hu, ?_⟩))))))
  refine xs_set (e_call0 (a_cons (e_var rfl (a_cons (e_var rfl (a_nil ⟨trivial, ks, us, rest, v, rfl, rfl, hB, hv, ?_⟩))))))
  refine xs_set (e_str ?_)
  refine xs_set (e_int ?_)
  unfold partF at z
  obtain ⟨p, ep⟩ := hup.ne
  obtain ⟨q, eq⟩ := hvp.ne
  rw [ep] at hpl ⊢ z
  rw [eq] at hql ⊢ z
  show ExS K _ [some (.f (.tuple (plD (ksPy ks) :: rest))), some (.f (.str u)), some (.f (.str v)), some (.own 0), some (.own 1), some (.f (.str nil0)), some (.f (.int 0))] [.lst (sPy p), .lst (sPy q)] _
  have hpar : partP (nil0 :: p) (nil0 :: q) = if common p q = min p.length q.length then none else some ((nil0 :: p).getD (common p q) nil0, p.getD (common p q) nil0, q.getD (common p q) nil0) := by
    unfold partP
    simp only [common, if_pos, List.length_cons]
    by_cases e : common p q = min p.length q.length
    · rw [if_pos e, if_pos (by omega)]
    · rw [if_neg e, if_neg (by omega)]
      rfl
  rw [hpar] at z
  have hle := common_le p q
  refine xs_while (fun ρ' l' => ∃ n : Nat, ρ' = [some (.f (.tuple (plD (ksPy ks) :: rest))), some (.f (.str u)), some (.f (.str v)), some (.own 0), some (.own 1), some (.f (.str ((nil0 :: p).getD n nil0))), some (.f (.int n))] ∧ l' = [.lst (sPy p), .lst (sPy q)] ∧ n ≤ common p q) (fun ρ' _ => p.length - slotI ρ' 6) ⟨0, rfl, rfl, Nat.zero_le _⟩ ?_
  rintro ρ' l' ⟨n, rfl, rfl, hn⟩
  have hmin : ∀ {R : D → List O → Prop} {ρ : List (Option D)}, ρ[3]? = some (some (.own 0)) → ρ[4]? = some (some (.own 1)) → R (.f (.int ((min p.length q.length : Nat) : Int))) [.lst (sPy p), .lst (sPy q)] →
      EvS K (tCB rMin2 (tCons (tCB (rLenU K) (tCons (tVar 3) tNil)) (tCons (tCB (rLenU K) (tCons (tVar 4) tNil)) tNil))) ρ [.lst (sPy p), .lst (sPy q)] R := by
    intro R ρ h1 h2 z
    refine e_cb (a_cons (e_cb (a_cons (e_var h1 (a_nil (c_lenQ (isq_own (n := 0) rfl) ?_))))))
    refine a_cons (e_cb (a_cons (e_var h2 (a_nil (c_lenQ (isq_own (n := 1) rfl) (a_nil (c_min2 ?_)))))))
    rw [sPy_len, sPy_len]
    have e : (if ((q.length : Nat) : Int) < ((p.length : Nat) : Int) then ((q.length : Nat) : Int) else ((p.length : Nat) : Int)) = ((min p.length q.length : Nat) : Int) := by split <;> omega
    rw [e]
    exact z
  have hat : ∀ {xs : List Str} {n : Nat}, n < xs.length → atI (sPy xs) (n : Int) = some (.str (xs.getD n nil0)) := fun {xs n} h => atI_nat (sPy_get_of (by rw [List.getD_eq_getElem?_getD, List.getElem?_eq_getElem h]; rfl))
  have same : ∀ {n : Nat}, n < p.length → n < q.length → (p.getD n nil0 = q.getD n nil0 ↔ p[n]? = q[n]?) := fun {n} h1 h2 => by
    rw [List.getD_eq_getElem?_getD, List.getD_eq_getElem?_getD, List.getElem?_eq_getElem h1, List.getElem?_eq_getElem h2]
    simp
  refine EvT.imp (R := fun b l1 => l1 = [.lst (sPy p), .lst (sPy q)] ∧ if b = true then n < common p q else n = common p q) ?_ ?_
  · refine t_and (t_test (e_op (e_var rfl (hmin rfl rfl (o_I0b ⟨_, rfl, ?_⟩)))))
    refine d_both (fun c1 => ?_) (fun c1 => ⟨rfl, ?_⟩)
    · have h1 : n < p.length := by omega
      have h2 : n < q.length := by omega
      refine t_test (e_op (e_op (e_var rfl (e_var rfl (o_ixQ (isq_own (n := 0) rfl) (hat h1) ?_)))))
      refine e_op (e_var rfl (e_var rfl (o_ixQ (isq_own (n := 1) rfl) (hat h2) (o_eqS ⟨_, rfl, ?_⟩))))
      have hs := same h1 h2
      by_cases c2 : p.getD n nil0 = q.getD n nil0
      · rw [decide_eq_true c2]
        refine ⟨rfl, ?_⟩
        show n < common p q
        rcases Nat.lt_or_ge n (common p q) with h | h
        · exact h
        · have e : n = common p q := Nat.le_antisymm hn h
          have := common_end (xs := p) (ys := q) (by omega)
          rw [← e] at this
          exact absurd (hs.mp c2) this
      · rw [decide_eq_false c2]
        refine ⟨rfl, ?_⟩
        show n = common p q
        rcases Nat.lt_or_ge n (common p q) with h | h
        · exact absurd (hs.mpr (common_at h)) c2
        · exact Nat.le_antisymm hn h
    · show n = common p q
      omega
  rintro b l1 ⟨rfl, hb⟩
  cases b with
  | true =>
    have hb : n < common p q := hb
    refine xs_set (e_op (e_var rfl (e_var rfl (o_ixQ (isq_own (n := 0) rfl) (hat (by omega)) ?_))))
    refine x_set (e_op (e_var rfl (e_int (o_addI ?_))))
    refine ⟨⟨n + 1, rfl, rfl, hb⟩, ?_⟩
    show p.length - ((n : Int) + 1).toNat < p.length - ((n : Int)).toNat
    omega
  | false =>
    have hb : n = common p q := hb
    show ExS K _ _ _ _
    refine xs_gateC (¬ common p q = min p.length q.length) ?_ ?_
    · refine t_test (e_op (e_var rfl (hmin rfl rfl (o_eqI ⟨_, rfl, ?_⟩))))
      refine d_both (fun c1 => ?_) (fun c1 => ⟨rfl, fun e => c1 (by rw [hb, e])⟩)
      rw [if_pos (by omega)] at z
      exact x_ret (e_non (Res.dat (fun x hx => by cases hx) z))
    intro hne
    rw [if_neg hne, ← hb] at z
    refine x_ret (e_tup (a_cons (e_var rfl (a_cons (e_op (e_var rfl (e_var rfl (o_ixQ (isq_own (n := 0) rfl) (hat (by omega)) ?_))))))))
    refine a_cons (e_op (e_var rfl (e_var rfl (o_ixQ (isq_own (n := 1) rfl) (hat (by omega)) (a_nil ⟨_, rfl, Nat.le_of_ble_eq_true rfl, Res.dat (fun x hx => by cases hx) z⟩)))))
theorem kids_next {ks : Knots} {k : Str} {i : Nat} {p : Str × List Str} (hp : ks[i]? = some p) (h : ∀ q ∈ ks.take i, q.1 ≠ k) (hk : p.1 = k) : kids ks k = p.2 := by
  have e : ks = ks.take i ++ p :: ks.drop (i + 1) := by
    have hl := (List.getElem?_eq_some_iff.mp hp).1
    have := List.take_append_drop i ks
    rw [List.drop_eq_getElem_cons hl, (List.getElem?_eq_some_iff.mp hp).2] at this
    exact this.symm
  have h0 : (ks.take i).find? (fun p => decide (p.1 = k)) = none := List.find?_eq_none.mpr fun p hp => by simpa using h p hp
  unfold kids
  conv => lhs; rw [e]
  rw [List.find?_append, h0, Option.none_or, List.find?_cons, decide_eq_true hk]
  rfl
def S_children : Spec3 := fun ds g R => ∃ ks rest k, ds = [.f (.tuple (plD (ksPy ks) :: rest)), .f (.str k)] ∧ g = [] ∧ R (.own 0) [.lst (sPy (kids ks k))]
abbrev s_children : Stmt := top 2
theorem sc_children : FnScope ["house", "knot", "name", "some"] ["house", "knot"] (defScope s_children) := ⟨rfl, rfl, rfl, by decide +kernel, rfl, by decide +kernel, by decide +kernel⟩
set_option maxHeartbeats 4000000 in
theorem ok_children (T : Bi K mg) (Df : DefAt K mg "children" s_children ["house", "knot"]) : Cal P w K mg base 1 "children" ["house", "knot"] S_children := by
  refine ok4 Df sc_children (fun ds g R h0 => by obtain ⟨_, _, _, h, _⟩ := h0; rw [h]; rfl) (fun cdv A outer s H E f hr => ?_)
  have hu1 := hu_of hr.r
  have hu64 := hr.units
  have hu65 : (A.deeper (PyProof.Rows.envOfC "children" (defScope s_children) s.heap.objs.size f cdv)).units + 65 < cLine := by have := hr.un; omega
  refine ⟨_, (pss_cons (ps_for PassesOwn.never rfl (u_seq (K := K) rfl (pe_ix (u_ix (K := K) rfl hu1) (pv 0) pe_int (fun _ _ => rfl))) (u_tup (K := K) (n := 2) rfl (by rfl) (pgs_cons (pg_name (i := 2) sc_children.nd rfl (by first | exact Or.inl rfl | exact Or.inr rfl)) (pgs_cons (pg_name (i := 3) sc_children.nd rfl (by first | exact Or.inl rfl | exact Or.inr rfl)) pgs_nil)))
    (pss_one (ps_if (pt_cmpR (u_eq (K := K) rfl hu64) (pv 2) (pv 1) (nomark _))
    (pss_one (ps_ret (pe_callTy (u_list (K := K) rfl) (by rfl) T.b_list (by decide +kernel) (pa_cons (pv 3) pa_nil))))
    pss_nil)))
    (pss_one (ps_ret (pe_lst pa_nil)))), fun ds g R hS => ?_⟩
  obtain ⟨ks, rest, k, rfl, rfl, z⟩ := hS
  show ExS K _ [some _, some _, none, none] _ _
  refine xs_forP (e_op (e_var rfl (e_int (o_ixQ isq_tup (atI_zero _ _) ⟨ksPy ks, rfl, fun i ρ' l' => ∃ a b, ρ' = [some (.f (.tuple (plD (ksPy ks) :: rest))), some (.f (.str k)), a, b] ∧ l' = [] ∧ ∀ p ∈ ks.take i, p.1 ≠ k, ⟨none, none, rfl, rfl, fun p hp => by simp at hp⟩, ?_, ?_⟩))))
  · rintro i d ρ' l' hd ⟨a, b, rfl, rfl, hA⟩
    obtain ⟨p, hp, rfl⟩ := ksPy_get hd
    refine g_tup rfl (g_cons (g_name (g_cons (g_name (g_nil ?_)))))
    refine x_if (t_test (e_op (e_var rfl (e_var rfl (o_eqS ⟨_, rfl, ?_⟩)))))
    refine d_both (fun c1 => ?_) (fun c1 => ?_)
    · rw [kids_next hp hA c1] at z
      refine x_ret (e_cb (a_cons (e_var rfl (a_nil (c_listP ?_)))))
      exact Res.own (n := 0) rfl trivial nofun (Nat.zero_le _) (fun _ h => by cases h) z
    · refine x_next ⟨_, _, rfl, rfl, fun q hq => ?_⟩
      rw [L3.take_next hp] at hq
      rcases List.mem_append.mp hq with h | h
      · exact hA q h
      · cases List.mem_singleton.mp h; exact c1
  · rintro ρ' l' ⟨a, b, rfl, rfl, hA⟩
    rw [ksPy_len, List.take_length] at hA
    have e : kids ks k = [] := by
      unfold kids
      rw [List.find?_eq_none.mpr fun p hp => by simpa using hA p hp]
      rfl
    rw [e] at z
    refine x_ret (e_lst (a_nil ⟨[], rfl, by decide, ?_⟩))
    exact Res.own (n := 0) rfl trivial nofun (Nat.zero_le _) (fun _ h => by cases h) z
/-- the names of a house can be compared -/
structure Nameable (ks : Knots) (us : List Str) (ws : Ties) : Prop where
  us : ∀ u ∈ us, PyData.strOk u = true
  ws : ∀ q ∈ ws, PyData.strOk q.1 = true ∧ PyData.strOk q.2 = true
theorem Nameable.knot {ks : Knots} {us : List Str} {ws : Ties} (h : Nameable ks us ws) (hB : TreeB ks us) {k : Str} (hk : k ∈ ks.map (·.1)) : PyData.strOk k = true := by
  obtain ⟨_, _, T, _⟩ := hB
  rcases T.knot_in hk with e | e
  · rw [e]; exact ok_nil0
  · exact h.us k e
theorem HouseOk.nameable {ks : Knots} {us : List Str} {ts wt ws : Ties} (h : HouseOk ks us ts wt ws) (hs : ∀ u ∈ us, PyData.strOk u = true) : Nameable ks us ws := ⟨hs, fun q hq => ⟨by rcases h.wants.ok q hq with e | e <;> rw [e.1]; exact ok_first; exact ok_last, hs _ ((h.wants.ok q hq).unit h.tree)⟩⟩
theorem shape_trip {a b c : Str} (h1 : PyData.strOk a = true) (h2 : PyData.strOk b = true) (h3 : PyData.strOk c = true) : SeqAt.shaped (.tuple [.str a, .str b, .str c]) = true := by
  simp [SeqAt.shaped, PyData.canLay0, PyData.canLayAll0, PyData.depth, PyData.depthAll, h1, h2, h3]
def mPy (b : Bool) (M : List Str) : PyData := match b with | true => .list (sPy M) | false => .tuple (sPy M)
theorem isq_m {l : List O} (b : Bool) (M : List Str) : IsQ l (.f (mPy b M)) (sPy M) := by cases b; exact isq_tup; exact isq_list
def bareW (ws : Ties) (M : List Str) : Ties := ws.filter fun q => !decide (q.2 ∈ M)
def bareF (M : List Str) : PyData → Option PyData
  | .tuple [.str a, .str b] => if (!decide (b ∈ M)) = true then some (.tuple [.str a, .str b]) else none
  | _ => none
theorem bareF_eq (M : List Str) (ws : Ties) : (pPy ws).filterMap (bareF M) = pPy (bareW ws M) := by
  induction ws with
  | nil => rfl
  | cons q ws ih =>
    show (PyData.tuple [.str q.1, .str q.2] :: pPy ws).filterMap _ = _
    have e : bareF M (.tuple [.str q.1, .str q.2]) = if (!decide (q.2 ∈ M)) = true then some (.tuple [.str q.1, .str q.2]) else none := rfl
    rw [List.filterMap_cons, ih, e]
    unfold bareW
    rw [List.filter_cons]
    cases (!decide (q.2 ∈ M)) <;> rfl
def S_without_wants : Spec3 := fun ds g R => ∃ ks ts wt ws b M, ds = [.f (houseD ks ts wt ws), .f (mPy b M)] ∧ g = [] ∧ ws.length ≤ 1000 ∧ R (.f (houseD ks ts wt (bareW ws M))) []
abbrev s_without_wants : Stmt := top 8
theorem sc_without_wants : FnScope ["house", "units", "want"] ["house", "units"] (defScope s_without_wants) := ⟨rfl, rfl, rfl, by decide +kernel, rfl, by decide +kernel, by decide +kernel⟩
set_option maxHeartbeats 4000000 in
theorem ok_without_wants (T : Bi K mg) (Df : DefAt K mg "without_wants" s_without_wants ["house", "units"]) : Cal P w K mg base 1 "without_wants" ["house", "units"] S_without_wants := by
  refine ok4 Df sc_without_wants (fun ds g R h0 => by obtain ⟨_, _, _, _, _, _, h, _⟩ := h0; rw [h]; rfl) (fun cdv A outer s H E f hr => ?_)
  have hu1 := hu_of hr.r
  have hu64 := hr.units
  have hu65 : (A.deeper (PyProof.Rows.envOfC "without_wants" (defScope s_without_wants) s.heap.objs.size f cdv)).units + 65 < cLine := by have := hr.un; omega
  refine ⟨_, (pss_one (ps_ret (pe_op (u_add (K := K) rfl) (pe_slice (u_sl (K := K) rfl) (pv 0) po_none (po_some pe_int)) (pe_tup (pa_cons (pe_callTy (u_tuple (K := K) rfl) (by rfl) T.b_tuple (by decide +kernel) (pa_cons (pe_lc (own := [("want", 2)]) (by rfl) sc_without_wants.nd (u_seq (K := K) rfl (pe_ix (u_ix (K := K) rfl hu1) (pv 0) pe_int (fun _ _ => rfl))) (blkOk_by (own := [("want", 2)]) (N := ["house", "units", "want"]) (sc := defScope s_without_wants) (by decide +kernel)) (fun _ _ _ _ _ => (pg_name (i := 2) sc_without_wants.nd rfl (by first | exact Or.inl rfl | exact Or.inr rfl))) (fun _ _ _ _ _ => (pts_one (pt_cmpR (u_notIn (K := K) rfl hu65) (pe_ix (u_ix (K := K) rfl hu1) (pv 2) pe_int (fun _ _ => rfl)) (pv 1) (by rfl)))) (fun _ _ _ _ _ => (pv 2))) pa_nil)) pa_nil))))), fun ds g R hS => ?_⟩
  obtain ⟨ks, ts, wt, ws, b, M, rfl, rfl, hwl, z⟩ := hS
  show ExS K _ [some _, some _, none] _ _
  refine x_ret (e_op (e_sl (e_var rfl (o_none (o_some (e_int ⟨3, rfl, s_tup (fun h => absurd (show (3 : Nat) = 4 from h.2) (by decide)) ?_⟩))))))
  refine e_tup (a_cons (e_cb (a_cons (e_lcF (bareF M) (gg_name (by decide)) (e_op (e_var rfl (e_int (o_ixQ isq_tup rfl ⟨pPy ws, isq_tup, by rw [pPy_len]; omega, fun d hd => ?_, ?_⟩))))))))
  · obtain ⟨i, hi⟩ := List.getElem?_of_mem hd
    obtain ⟨q, hq, rfl⟩ := pPy_get hi
    have e : bareF M (.tuple [.str q.1, .str q.2]) = if (!decide (q.2 ∈ M)) = true then some (.tuple [.str q.1, .str q.2]) else none := rfl
    refine g_name (t_test (e_op (e_op (e_var rfl (e_int (o_ixQ isq_tup rfl (e_var rfl (o_ninS (isq_m b M) ⟨_, rfl, ?_⟩))))))))
    refine b_both (fun hb => e_var rfl ⟨_, rfl, ?_, rfl⟩) (fun hb => ⟨?_, rfl⟩)
    · rw [e, if_pos hb]
    · rw [e, if_neg fun z => Bool.noConfusion (hb.symm.trans z)]
  · rw [bareF_eq]
    refine a_nil (c_tuple (isq_own (n := 0) rfl) (a_nil ⟨_, rfl, Nat.le_of_ble_eq_true rfl, ?_⟩))
    refine o_addTA (Nat.le_of_ble_eq_true rfl) ?_
    exact Res.dat (fun _ h => by cases h) z
def S_with_want : Spec3 := fun ds g R => ∃ ks ts wt ws w u, ds = [.f (houseD ks ts wt ws), .f (.str w), .f (.str u)] ∧ g = [] ∧ ws.length ≤ 1000 ∧ R (.f (houseD ks ts wt (ws ++ [(w, u)]))) []
abbrev s_with_want : Stmt := top 7
theorem sc_with_want : FnScope ["house", "word", "unit"] ["house", "word", "unit"] (defScope s_with_want) := ⟨rfl, rfl, rfl, by decide +kernel, rfl, by decide +kernel, by decide +kernel⟩
set_option maxHeartbeats 4000000 in
theorem ok_with_want (T : Bi K mg) (Df : DefAt K mg "with_want" s_with_want ["house", "word", "unit"]) : Cal P w K mg base 1 "with_want" ["house", "word", "unit"] S_with_want := by
  refine ok4 Df sc_with_want (fun ds g R h0 => by obtain ⟨_, _, _, _, _, _, h, _⟩ := h0; rw [h]; rfl) (fun cdv A outer s H E f hr => ?_)
  have hu1 := hu_of hr.r
  have hu64 := hr.units
  have hu65 : (A.deeper (PyProof.Rows.envOfC "with_want" (defScope s_with_want) s.heap.objs.size f cdv)).units + 65 < cLine := by have := hr.un; omega
  refine ⟨_, (pss_one (ps_ret (pe_op (u_add (K := K) rfl) (pe_slice (u_sl (K := K) rfl) (pv 0) po_none (po_some pe_int)) (pe_tup (pa_cons (pe_op (u_add (K := K) rfl) (pe_ix (u_ix (K := K) rfl hu1) (pv 0) pe_int (fun _ _ => rfl)) (pe_tup (pa_cons (pe_tup (pa_cons (pv 1) (pa_cons (pv 2) pa_nil))) pa_nil))) pa_nil))))), fun ds g R hS => ?_⟩
  obtain ⟨ks, ts, wt, ws, w, u, rfl, rfl, hwl, z⟩ := hS
  show ExS K _ [some _, some _, some _] _ _
  refine x_ret (e_op (e_sl (e_var rfl (o_none (o_some (e_int ⟨3, rfl, s_tup (fun h => absurd (show (3 : Nat) = 4 from h.2) (by decide)) ?_⟩))))))
  refine e_tup (a_cons (e_op (e_op (e_var rfl (e_int (o_ixQ isq_tup rfl (e_tup (a_cons (e_tup (a_cons (e_var rfl (a_cons (e_var rfl (a_nil ⟨[.str w, .str u], rfl, Nat.le_of_ble_eq_true rfl, a_nil ⟨[.tuple [.str w, .str u]], rfl, Nat.le_of_ble_eq_true rfl, ?_⟩⟩))))))))))))))
  refine o_addTA (by rw [pPy_len]; show _ + 1 ≤ _; omega) (a_nil ⟨[.tuple (pPy ws ++ [.tuple [.str w, .str u]])], rfl, Nat.le_of_ble_eq_true rfl, o_addTA (Nat.le_of_ble_eq_true rfl) ?_⟩)
  have e : pPy (ws ++ [(w, u)]) = pPy ws ++ [.tuple [.str w, .str u]] := pPy_app ..
  unfold houseD at z
  rw [e] at z
  exact Res.dat (fun _ h => by cases h) z
def S_ends_of : Spec3 := fun ds g R => ∃ ks us ts wt ws t, ds = [.f (houseD ks ts wt ws), .f (s3D t)] ∧ g = [] ∧ TreeB ks us ∧ Parted ks us ts ∧ (∀ u ∈ us, PyData.strOk u = true) ∧ (∀ q ∈ ws, PyData.strOk q.1 = true ∧ PyData.strOk q.2 = true) ∧ (t.1 = "tie" ∨ PyData.strOk t.1 = true) ∧ t.2.1 ∈ us ∧ t.2.2 ∈ us ∧ R (.f (partD (endsF ks ts ws t))) []
abbrev s_ends_of : Stmt := top 10
theorem sc_ends_of : FnScope ["house", "told", "word", "here", "there", "knot", "part"] ["house", "told"] (defScope s_ends_of) := ⟨rfl, rfl, rfl, by decide +kernel, rfl, by decide +kernel, by decide +kernel⟩
set_option maxHeartbeats 4000000 in
theorem ok_ends_of (T : Bi K mg) (Df : DefAt K mg "ends_of" s_ends_of ["house", "told"]) (C_children : Cal P w K mg base 1 "children" ["house", "knot"] S_children) (C_knot_of : Cal P w K mg base 1 "knot_of" ["house", "one"] S_knot_of) (C_parting : Cal P w K mg base 3 "parting" ["house", "one", "other"] S_parting) : Cal P w K mg base 4 "ends_of" ["house", "told"] S_ends_of := by
  refine ok4 Df sc_ends_of (fun ds g R h0 => by obtain ⟨_, _, _, _, _, _, h, _⟩ := h0; rw [h]; rfl) (fun cdv A outer s H E f hr => ?_)
  have hu1 := hu_of hr.r
  have hu64 := hr.units
  have hu65 : (A.deeper (PyProof.Rows.envOfC "ends_of" (defScope s_ends_of) s.heap.objs.size f cdv)).units + 65 < cLine := by have := hr.un; omega
  refine ⟨_, (pss_cons (ps_if (PW.pt (pw_or (pt_not (pt_val (pe_callB (u_isi (K := K) rfl) (by rfl) T.b_isinstance (by decide +kernel) (pa_cons (pv 1) (pa_cons (pe_bltn (v := .ty "tuple") (u := .type "tuple") rfl T.b_tuple (by decide +kernel) rfl) pa_nil))))) (pw_or (pt_cmpR (u_ne (K := K) rfl hu64) (pe_callB (u_len (K := K) rfl) (by rfl) T.b_len (by decide +kernel) (pa_cons (pv 1) pa_nil)) pe_int (nomark _)) (pw_or1 (pt_not (pt_val (pe_callB (u_all (K := K) rfl rfl) (by rfl) T.b_all (by decide +kernel) (pa_cons (pe_lc (own := [("part", 6)]) (by rfl) sc_ends_of.nd (u_seq (K := K) rfl (pv 1)) (blkOk_by (own := [("part", 6)]) (N := ["house", "told", "word", "here", "there", "knot", "part"]) (sc := defScope s_ends_of) (by decide +kernel)) (fun _ _ _ _ _ => (pg_name (i := 6) sc_ends_of.nd rfl (by first | exact Or.inl rfl | exact Or.inr rfl))) (fun _ _ _ _ _ => pts_nil) (fun _ _ _ _ _ => (pe_callB (u_isi (K := K) rfl) (by rfl) T.b_isinstance (by decide +kernel) (pa_cons (pv 6) (pa_cons (pe_bltn (v := .ty "str") (u := .type "str") rfl T.b_str (by decide +kernel) rfl) pa_nil))))) pa_nil))))))))
    (pss_one (ps_ret pe_non))
    pss_nil)
    (pss_cons (ps_asg (pv 1) (u_tup (K := K) (n := 3) rfl (by rfl) (pgs_cons (pg_name (i := 2) sc_ends_of.nd rfl (by first | exact Or.inl rfl | exact Or.inr rfl)) (pgs_cons (pg_name (i := 3) sc_ends_of.nd rfl (by first | exact Or.inl rfl | exact Or.inr rfl)) (pgs_cons (pg_name (i := 4) sc_ends_of.nd rfl (by first | exact Or.inl rfl | exact Or.inr rfl)) pgs_nil)))))
    (pss_cons (ps_if (pt_cmpR (u_eq (K := K) rfl hu64) (pv 2) pe_str (nomark _))
    (pss_one (ps_ret (pe_ifExp (pt_cmpR (u_in (K := K) rfl hu65) (pe_tup (pa_cons (pv 3) (pa_cons (pv 4) pa_nil))) (pe_ix (u_ix (K := K) rfl hu1) (pv 0) pe_int (fun _ _ => rfl)) (by rfl)) (pe_cal (K := K) rfl C_parting (hr.mono (by decide)) (by rfl) (pa_cons (pv 0) (pa_cons (pv 3) (pa_cons (pv 4) pa_nil)))) pe_non)))
    pss_nil)
    (pss_cons (ps_set (i := 5) sc_ends_of.nd rfl (by first | exact Or.inl rfl | exact Or.inr rfl) (pe_cal (K := K) rfl C_knot_of (hr.mono (by decide)) (by rfl) (pa_cons (pv 0) (pa_cons (pv 3) pa_nil))))
    (pss_cons (ps_if (PW.pt (pw_or (pt_cmpR op_isN1 (pv 5) pe_non (nomark _)) (pw_or (pt_cmpR (u_eq (K := K) rfl hu64) (pv 3) (pv 4) (nomark _)) (pw_or1 (pt_cmpR (u_notIn (K := K) rfl hu65) (pv 4) (pe_cal (K := K) rfl C_children (hr.mono (by decide)) (by rfl) (pa_cons (pv 0) (pa_cons (pv 5) pa_nil))) (by rfl))))))
    (pss_one (ps_ret pe_non))
    pss_nil)
    (pss_cons (ps_if (pt_cmpR (u_notIn (K := K) rfl hu65) (pe_tup (pa_cons (pv 2) (pa_cons (pe_ix (u_ix (K := K) rfl hu1) (pe_lst (pa_cons (pv 3) (pa_cons (pv 4) pa_nil))) (pe_callTy u_int (by rfl) T.b_int (by decide +kernel) (pa_cons (pe_cmpR (u_eq (K := K) rfl hu64) (pv 2) pe_str (nomark _)) pa_nil)) (fun _ _ => rfl)) pa_nil))) (pe_ix (u_ix (K := K) rfl hu1) (pv 0) pe_int (fun _ _ => rfl)) (by rfl))
    (pss_one (ps_ret pe_non))
    pss_nil)
    (pss_one (ps_ret (pe_tup (pa_cons (pv 5) (pa_cons (pv 3) (pa_cons (pv 4) pa_nil)))))))))))), fun ds g R hS => ?_⟩
  obtain ⟨ks, us, ts, wt, ws, ⟨w, a, b⟩, rfl, rfl, hB, hP, hso, hws, hw, ha, hb, z⟩ := hS
  show ExS K _ [some _, some _, none, none, none, none, none] _ _
  have ha : a ∈ us := ha
  have hb : b ∈ us := hb
  refine xs_gate (t_cut 0 (Nat.le_refl _) (t_or (t_not (t_test (e_isi (e_var rfl ⟨"tuple", true, rfl, rfl, _, rfl, iteNT ?_⟩)))))) ?_
  · refine t_or (t_test (e_op (e_cb (a_cons (e_var rfl (a_nil (c_lenQ isq_tup (e_int (o_neI ⟨_, rfl, iteF ?_⟩)))))))))
    refine t_not (t_test (e_cb (a_cons (e_lcF (fun _ => some (.bool true)) (gg_name (by decide)) (e_var rfl ⟨_, isq_tup, Nat.le_of_ble_eq_true rfl, fun d hd => ?_, ?_⟩)))))
    · refine g_name (t_yes ?_)
      rw [if_pos rfl]
      have hd : d = .str w ∨ d = .str a ∨ d = .str b := by simpa using hd
      rcases hd with rfl | rfl | rfl <;> exact e_isi (e_var rfl ⟨"str", true, rfl, rfl, _, rfl, rfl, rfl⟩)
    · refine a_nil (c_all (bs := [true, true, true]) (isl_own (n := 0) rfl) ⟨_, rfl, ?_⟩)
      exact ⟨(fun o ho => by cases ho), rfl⟩
  · refine xs_asg (e_var rfl (g_tup rfl (g_cons (g_name (g_cons (g_name (g_cons (g_name (g_nil ?_)))))))))
    refine xs_gateC (w ≠ "tie") ?_ fun hnt => ?_
    · refine t_test (e_op (e_var rfl (e_str (o_eqS ⟨_, rfl, ?_⟩))))
      refine d_both (fun c1 => ?_) (fun c1 => ⟨rfl, c1⟩)
      subst c1
      refine x_ret (e_tIf (t_test (e_op (e_tup (a_cons (e_var rfl (a_cons (e_var rfl (a_nil ⟨[.str a, .str b], rfl, Nat.le_of_ble_eq_true rfl, ?_⟩)))))))))
      refine e_op (e_var rfl (e_int (o_ixQ isq_tup rfl (o_inE isq_tup (hso a ha) (hso b hb) (fun e he => ⟨hso _ (hP e he).1, hso _ (hP e he).2.1⟩) ⟨_, rfl, ?_⟩))))
      have ez : endsF ks ts ws ("tie", a, b) = if (a, b) ∈ ts then partF ks a b else none := if_pos rfl
      rw [ez] at z
      refine d_both (fun c2 => ?_) (fun c2 => ?_)
      · rw [if_pos c2] at z
        refine e_call0 (a_cons (e_var rfl (a_cons (e_var rfl (a_cons (e_var rfl (a_nil ⟨trivial, ks, us, _, a, b, rfl, rfl, hB, ha, hb, ?_⟩)))))))
        exact Res.dat (fun _ h => by cases h) z
      · rw [if_neg c2] at z
        exact e_non (Res.dat (fun _ h => by cases h) z)
    · have hwo : PyData.strOk w = true := hw.resolve_left hnt
      refine xs_set (e_call0 (a_cons (e_var rfl (a_cons (e_var rfl (a_nil ⟨trivial, ks, _, a, rfl, rfl, ?_⟩))))))
      obtain ⟨k, hk⟩ : ∃ k, L3.knotOf ks a = some k := by
        obtain ⟨_, _, T, _⟩ := hB
        obtain ⟨k, hk⟩ := (T.all a).mp ha
        exact ⟨k, T.knotOf.mpr hk⟩
      rw [hk]
      have ez := endsF_want (ks := ks) (ts := ts) (ws := ws) (t := (w, a, b)) hnt hk
      rw [ez] at z
      simp only at z
      refine xs_gateC (¬ (a = b ∨ b ∉ kids ks k)) (t_cut 0 (Nat.le_refl _) (t_or (t_test (e_op (e_var rfl (e_non (o_isN ⟨false, rfl, iteF ?_⟩)))))) ) fun hno => ?_
      · have no : (a = b ∨ b ∉ kids ks k) → Res 0 R (.f .none) [] := fun h => by
          rw [if_pos h] at z
          exact Res.dat (fun _ h => by cases h) z
        refine t_or (t_test (e_op (e_var rfl (e_var rfl (o_eqS ⟨_, rfl, ?_⟩)))))
        refine d_both (fun c1 => ⟨(fun _ h => by cases h), x_ret (e_non (no (.inl c1)))⟩) (fun c1 => ?_)
        refine t_test (e_op (e_var rfl (e_call0 (a_cons (e_var rfl (a_cons (e_var rfl (a_nil ⟨trivial, ks, _, k, rfl, rfl, ?_⟩))))))))
        refine o_ninS (isq_own (n := 0) rfl) ⟨_, rfl, ?_⟩
        refine ⟨(fun _ h => by cases h), nd_both (fun c2 => ?_) (fun c2 => ?_)⟩
        · exact x_ret (e_non (no (.inr c2)))
        · exact ⟨rfl, fun h => h.elim c1 fun h => h c2⟩
      · rw [if_neg hno] at z
        have ek : wantKey (w, a, b) = (w, if w = ("last" : Str) then b else a) := rfl
        rw [ek] at z
        have hin : (if w = ("last" : Str) then b else a) ∈ us := by split <;> assumption
        have eat : atI [PyData.str a, .str b] (if (decide (w = ("last" : Str))) = true then 1 else 0) = some (.str (if w = ("last" : Str) then b else a)) := by
          by_cases hl : w = ("last" : Str)
          · rw [if_pos hl, if_pos (decide_eq_true hl)]; rfl
          · rw [if_neg hl, if_neg (by simp [hl])]; rfl
        generalize (if w = ("last" : Str) then b else a) = v at z hin eat
        refine xs_gateC ((w, v) ∈ ws) (t_cut 0 (Nat.le_refl _) (t_test (e_op (e_tup (a_cons (e_var rfl (a_cons (e_op (e_lst (a_cons (e_var rfl (a_cons (e_var rfl (a_nil ⟨[.str a, .str b], rfl, Nat.le_of_ble_eq_true rfl, ?_⟩)))))))))))))) fun hin2 => ?_
        · refine e_cb (a_cons (e_op (e_var rfl (e_str (o_eqS (a_nil (c_intB ?_)))))))
          refine o_ixQ (isq_own (n := 0) rfl) eat ?_
          refine a_nil ⟨[.str w, .str v], rfl, Nat.le_of_ble_eq_true rfl, ?_⟩
          refine e_op (e_var rfl (e_int (o_ixQ isq_tup rfl (o_ninE isq_tup hwo (hso _ hin) hws ⟨_, rfl, ?_⟩))))
          refine ⟨(fun _ h => by cases h), nd_both (fun c2 => ?_) (fun c2 => ?_)⟩
          · rw [if_neg c2] at z
            exact x_ret (e_non (Res.dat (fun _ h => by cases h) z))
          · exact ⟨rfl, c2⟩
        · rw [if_pos hin2] at z
          exact x_ret (e_tup (a_cons (e_var rfl (a_cons (e_var rfl (a_cons (e_var rfl (a_nil ⟨_, rfl, Nat.le_of_ble_eq_true rfl, Res.dat (fun _ h => by cases h) z⟩))))))))
def PartOk (o : Option Step3) : Prop := ∀ e, o = some e → PyData.strOk e.1 = true ∧ PyData.strOk e.2.1 = true ∧ PyData.strOk e.2.2 = true
def S_go_on : Spec3 := fun ds g R => ∃ os, ds = [.f (.list (os.map partD))] ∧ g = [] ∧ os.length ≤ 1000 ∧ (∀ o ∈ os, PartOk o) ∧ R (.f (.bool (goOnB os))) []
theorem lay_parts : ∀ {os : List (Option Step3)}, (∀ o ∈ os, PartOk o) → PyData.canLayAll0 (os.map partD) = true
  | [], _ => by simp [PyData.canLayAll0]
  | o :: os, h => by
    have ih := lay_parts (os := os) fun x hx => h x (List.mem_cons_of_mem _ hx)
    rw [List.map_cons]
    have h1 := h o List.mem_cons_self
    cases o with
    | none => simp [partD, PyData.canLayAll0, PyData.canLay0, ih]
    | some e =>
      obtain ⟨k, a, b⟩ := e
      obtain ⟨s1, s2, s3⟩ := h1 _ rfl
      simp [partD, PyData.canLayAll0, PyData.canLay0, ih, s1, s2, s3]
theorem none_in : ∀ (os : List (Option Step3)), ((os.map partD).any fun e => PyData.eqv e .none) = decide (none ∈ os)
  | [] => rfl
  | o :: os => by
    rw [List.map_cons, List.any_cons, none_in os]
    cases o with
    | none => simp [partD, PyData.eqv]
    | some e =>
      obtain ⟨k, a, b⟩ := e
      simp [partD, PyData.eqv]
def begF : PyData → Option PyData
  | .tuple [_, b, _] => some b
  | _ => none
def knF : PyData → Option PyData
  | .tuple [a, _, _] => some a
  | _ => none
theorem begF_eq (es : List Step3) : ((es.map some).map partD).filterMap begF = sPy (es.map (·.2.1)) := by
  induction es with
  | nil => rfl
  | cons e es ih => rw [List.map_cons, List.map_cons, List.map_cons, List.filterMap_cons_some (f := begF) (a := partD (some e)) (b := PyData.str e.2.1) rfl, ih]; rfl
theorem knF_eq (es : List Step3) : ((es.map some).map partD).filterMap knF = sPy (es.map (·.1)) := by
  induction es with
  | nil => rfl
  | cons e es ih => rw [List.map_cons, List.map_cons, List.map_cons, List.filterMap_cons_some (f := knF) (a := partD (some e)) (b := PyData.str e.1) rfl, ih]; rfl
def linkF : PyData → Option PyData
  | .tuple [.tuple [_, _, .str c], .tuple [_, .str b, _]] => some (.bool (decide (c = b)))
  | _ => none
theorem zip_parts (es fs : List Step3) : ((List.range (min ((es.map some).map partD).length ((fs.map some).map partD).length)).map (zipD ((es.map some).map partD) ((fs.map some).map partD))).filterMap linkF = bPy ((es.zip fs).map fun p => decide (p.1.2.2 = p.2.2.1)) := by
  have e1 : (List.range (min ((es.map some).map partD).length ((fs.map some).map partD).length)).map (zipD ((es.map some).map partD) ((fs.map some).map partD)) = (es.zip fs).map fun p => .tuple [partD (some p.1), partD (some p.2)] := by
    apply List.ext_getElem?
    intro i
    rw [List.getElem?_map, List.getElem?_map, List.length_map, List.length_map, List.length_map, List.length_map]
    by_cases h : i < min es.length fs.length
    · have h1 : i < es.length := by omega
      have h2 : i < fs.length := by omega
      rw [List.getElem?_range h, List.getElem?_eq_getElem (by rw [List.length_zip]; exact h), List.getElem_zip]
      show some (zipD _ _ i) = some _
      unfold zipD
      rw [List.getD_eq_getElem?_getD, List.getD_eq_getElem?_getD, List.getElem?_map, List.getElem?_map, List.getElem?_map, List.getElem?_map, List.getElem?_eq_getElem h1, List.getElem?_eq_getElem h2]
      rfl
    · rw [List.getElem?_eq_none (by rw [List.length_range]; omega), List.getElem?_eq_none (by rw [List.length_zip]; omega)]
      rfl
  rw [e1]
  induction es.zip fs with
  | nil => rfl
  | cons p ps ih =>
    rw [List.map_cons, List.filterMap_cons_some (f := linkF) (a := PyData.tuple [partD (some p.1), partD (some p.2)]) (b := PyData.bool (decide (p.1.2.2 = p.2.2.1))) rfl, ih]
    rfl
abbrev s_go_on : Stmt := top 11
theorem sc_go_on : FnScope ["ends", "begun", "knot", "child", "goal", "ahead", "later"] ["ends"] (defScope s_go_on) := ⟨rfl, rfl, rfl, by decide +kernel, rfl, by decide +kernel, by decide +kernel⟩
set_option maxHeartbeats 4000000 in
theorem ok_go_on (T : Bi K mg) (Df : DefAt K mg "go_on" s_go_on ["ends"]) : Cal P w K mg base 1 "go_on" ["ends"] S_go_on := by
  refine ok4 Df sc_go_on (fun ds g R h0 => by obtain ⟨_, h, _⟩ := h0; rw [h]; rfl) (fun cdv A outer s H E f hr => ?_)
  have hu1 := hu_of hr.r
  have hu64 := hr.units
  have hu65 : (A.deeper (PyProof.Rows.envOfC "go_on" (defScope s_go_on) s.heap.objs.size f cdv)).units + 65 < cLine := by have := hr.un; omega
  refine ⟨_, (pss_cons (ps_if (PW.pt (pw_or (pt_cmpR op_lt (pe_callB (u_len (K := K) rfl) (by rfl) T.b_len (by decide +kernel) (pa_cons (pv 0) pa_nil)) pe_int (nomark _)) (pw_or1 (pt_cmpR (u_in (K := K) rfl hu65) pe_non (pv 0) (by rfl)))))
    (pss_one (ps_ret pe_bl))
    pss_nil)
    (pss_cons (ps_setLc (i := 1) (own := [("knot", 2), ("child", 3), ("goal", 4)]) (by rfl) sc_go_on.nd rfl rfl (sw_true rfl rfl rfl (by decide +kernel)) (u_seq (K := K) rfl (pv 0)) (blkOk_by (own := [("knot", 2), ("child", 3), ("goal", 4)]) (N := ["ends", "begun", "knot", "child", "goal", "ahead", "later"]) (sc := defScope s_go_on) (by decide +kernel)) (fun _ _ _ _ _ => (u_tup (K := K) (n := 3) rfl (by rfl) (pgs_cons (pg_name (i := 2) sc_go_on.nd rfl (by first | exact Or.inl rfl | exact Or.inr rfl)) (pgs_cons (pg_name (i := 3) sc_go_on.nd rfl (by first | exact Or.inl rfl | exact Or.inr rfl)) (pgs_cons (pg_name (i := 4) sc_go_on.nd rfl (by first | exact Or.inl rfl | exact Or.inr rfl)) pgs_nil))))) (fun _ _ _ _ _ => pts_nil) (fun _ _ _ _ _ => (pv 3)))
    (pss_cons (ps_if (PW.pt (pw_or (pt_cmpR op_lt (pe_lenSetT (K := K) rfl rfl (by rfl) T.b_len (by rfl) T.b_set (pv 1)) (pe_callB (u_len (K := K) rfl) (by rfl) T.b_len (by decide +kernel) (pa_cons (pv 1) pa_nil)) (nomark _)) (pw_or1 (pt_cmpR op_gt (pe_lenSetT (K := K) rfl rfl (by rfl) T.b_len (by rfl) T.b_set (pe_lc (own := [("knot", 2), ("child", 3), ("goal", 4)]) (by rfl) sc_go_on.nd (u_seq (K := K) rfl (pv 0)) (blkOk_by (own := [("knot", 2), ("child", 3), ("goal", 4)]) (N := ["ends", "begun", "knot", "child", "goal", "ahead", "later"]) (sc := defScope s_go_on) (by decide +kernel)) (fun _ _ _ _ _ => (u_tup (K := K) (n := 3) rfl (by rfl) (pgs_cons (pg_name (i := 2) sc_go_on.nd rfl (by first | exact Or.inl rfl | exact Or.inr rfl)) (pgs_cons (pg_name (i := 3) sc_go_on.nd rfl (by first | exact Or.inl rfl | exact Or.inr rfl)) (pgs_cons (pg_name (i := 4) sc_go_on.nd rfl (by first | exact Or.inl rfl | exact Or.inr rfl)) pgs_nil))))) (fun _ _ _ _ _ => pts_nil) (fun _ _ _ _ _ => (pv 2)))) pe_int (nomark _)))))
    (pss_one (ps_ret pe_bl))
    pss_nil)
    (pss_one (ps_ret (pe_callB (u_all (K := K) rfl rfl) (by rfl) T.b_all (by decide +kernel) (pa_cons (pe_lc (own := [("ahead", 5), ("later", 6)]) (by rfl) sc_go_on.nd (u_zip (K := K) rfl (by rfl) T.b_zip (pa_cons (pv 0) (pa_cons (pe_slice (u_sl (K := K) rfl) (pv 0) (po_some pe_int) po_none) pa_nil))) (blkOk_by (own := [("ahead", 5), ("later", 6)]) (N := ["ends", "begun", "knot", "child", "goal", "ahead", "later"]) (sc := defScope s_go_on) (by decide +kernel)) (fun _ _ _ _ _ => (u_tup (K := K) (n := 2) rfl (by rfl) (pgs_cons (pg_name (i := 5) sc_go_on.nd rfl (by first | exact Or.inl rfl | exact Or.inr rfl)) (pgs_cons (pg_name (i := 6) sc_go_on.nd rfl (by first | exact Or.inl rfl | exact Or.inr rfl)) pgs_nil)))) (fun _ _ _ _ _ => pts_nil) (fun _ _ _ _ _ => (pe_cmpR (u_eq (K := K) rfl hu64) (pe_ix (u_ix (K := K) rfl hu1) (pv 5) pe_int (fun _ _ => rfl)) (pe_ix (u_ix (K := K) rfl hu1) (pv 6) pe_int (fun _ _ => rfl)) (nomark _)))) pa_nil))))))), fun ds g R hS => ?_⟩
  obtain ⟨os, rfl, rfl, hol, hok, z⟩ := hS
  show ExS K _ [some _, none, none, none, none, none, none] _ _
  have hl0 : (os.map partD).length = os.length := List.length_map ..
  refine xs_gateC (2 ≤ os.length ∧ none ∉ os) ?_ fun hg => ?_
  · have no : ¬ (2 ≤ os.length ∧ none ∉ os) → Res 0 R (.f (.bool false)) [] := fun h => by
      have e : goOnB os = false := by
        cases e : goOnB os with
        | false => rfl
        | true =>
          unfold goOnB at e
          rw [Bool.and_eq_true, decide_eq_true_eq] at e
          exact absurd ⟨e.1.1, e.1.2.1⟩ h
      rw [e] at z
      exact Res.dat (fun _ h => by cases h) z
    refine t_or (t_test (e_op (e_cb (a_cons (e_var rfl (a_nil (c_lenQ isq_list (e_int (o_I0b ⟨_, rfl, ?_⟩)))))))))
    rw [hl0]
    refine d_both (fun c1 => x_ret (e_bl (no fun h => by omega))) (fun c1 => ?_)
    refine t_test (e_op (e_non (e_var rfl (o_inP asd_f isq_list (by decide) (lay_parts hok) ⟨_, rfl, ?_⟩))))
    have e0 : (if false = true then !((os.map partD).any fun e => PyData.eqv e .none) else (os.map partD).any fun e => PyData.eqv e .none) = decide (none ∈ os) := none_in os
    rw [e0]
    refine d_both (fun c2 => x_ret (e_bl (no fun h => h.2 c2))) (fun c2 => ⟨rfl, by omega, c2⟩)
  · obtain ⟨es, rfl⟩ : ∃ es : List Step3, os = es.map some := ⟨_, somes hg.2⟩
    have hel : es.length ≤ 1000 := by simpa using hol
    have hmm : ((es.map some).map partD).length = es.length := by rw [List.length_map, List.length_map]
    have part_in : ∀ d ∈ ((es.map some).map partD), ∃ e ∈ es, d = .tuple [.str e.1, .str e.2.1, .str e.2.2] := fun d hd => by
      obtain ⟨o, ho, rfl⟩ := List.mem_map.mp hd
      obtain ⟨e, he, rfl⟩ := List.mem_map.mp ho
      exact ⟨e, he, rfl⟩
    refine xs_set (e_lcF begF (gg_tup (gg_cons (gg_name (by decide)) (gg_cons (gg_name (by decide)) (gg_cons (gg_name (by decide)) gg_nil mono_name) mono_name) mono_name)) (e_var rfl ⟨_, isq_list, by rw [hmm]; omega, fun d hd => ?_, ?_⟩))
    · obtain ⟨e, he, rfl⟩ := part_in d hd
      exact g_tup rfl (g_cons (g_name (g_cons (g_name (g_cons (g_name (g_nil (t_yes (e_var rfl ⟨_, rfl, rfl, rfl⟩)))))))))
    rw [begF_eq]
    have e1 : (es.map some).filterMap id = es := by
      induction es with
      | nil => rfl
      | cons e es ih => 
        clear ih
        rw [List.filterMap_map]
        show (e :: es).filterMap some = _
        exact List.filterMap_some
    have ez : goOnB (es.map some) = (decide ((es.map (·.2.1)).Nodup ∧ (onceL (es.map (·.1))).length ≤ 1) && (es.zip es.tail).all fun p => decide (p.1.2.2 = p.2.2.1)) := by
      unfold goOnB
      rw [e1]
      congr 1
      exact decide_eq_decide.mpr ⟨fun h => h.2.2, fun h => ⟨hg.1, hg.2, h⟩⟩
    rw [ez] at z
    refine xs_gateC ((es.map (·.2.1)).Nodup ∧ (onceL (es.map (·.1))).length ≤ 1) (t_cut 1 (Nat.le_refl _) ?_) fun hg2 => ?_
    · have no : ¬ ((es.map (·.2.1)).Nodup ∧ (onceL (es.map (·.1))).length ≤ 1) → Res 0 R (.f (.bool false)) [.lst (sPy (es.map (·.2.1)))] := fun h => by
        rw [decide_eq_false h] at z
        exact Res.dat (fun _ h => by cases h) z
      refine t_or (t_test (e_op (e_lenSet (e_var rfl ⟨_, isl_own (n := 0) rfl, by rw [List.length_map]; omega, ?_⟩))))
      refine e_cb (a_cons (e_var rfl (a_nil (c_lenQ (isq_own (n := 0) rfl) (o_I0b ⟨_, rfl, ?_⟩)))))
      rw [sPy_len]
      have hle : (onceL (es.map (·.2.1))).length ≤ (es.map (·.2.1)).length := nodup_le (onceL_nodup _) fun x hx => mem_onceL.mp hx
      refine d_both (fun c1 => ⟨(fun o ho => by cases List.mem_singleton.mp ho; trivial), x_ret (e_bl (no fun h => by have := onceL_full.mpr h.1; omega))⟩) (fun c1 => ?_)
      have hnd := onceL_full.mp (show (onceL (es.map (·.2.1))).length = (es.map (·.2.1)).length by omega)
      refine t_test (e_op (e_lenSet (e_lcF knF (gg_tup (gg_cons (gg_name (by decide)) (gg_cons (gg_name (by decide)) (gg_cons (gg_name (by decide)) gg_nil mono_name) mono_name) mono_name)) (e_var rfl ⟨_, isq_list, by rw [hmm]; omega, fun d hd => ?_, ?_⟩))))
      · obtain ⟨e, he, rfl⟩ := part_in d hd
        exact g_tup rfl (g_cons (g_name (g_cons (g_name (g_cons (g_name (g_nil (t_yes (e_var rfl ⟨_, rfl, rfl, rfl⟩)))))))))
      rw [knF_eq]
      refine ⟨_, isl_own (n := 1) rfl, by rw [List.length_map]; omega, e_int (o_I0b ⟨_, rfl, (fun o ho => by cases List.mem_singleton.mp ho; trivial), ?_⟩)⟩
      refine d_both (fun c2 => x_ret (e_bl (no fun h => by omega))) (fun c2 => ⟨rfl, hnd, by omega⟩)
    · rw [decide_eq_true hg2, Bool.true_and] at z
      refine x_ret (e_cb (a_cons (e_lcZ linkF (gg_tup (gg_cons (gg_name (by decide)) (gg_cons (gg_name (by decide)) gg_nil mono_name) mono_name)) (a_cons (e_var rfl (a_cons (e_sl (e_var rfl (o_some (e_int ⟨1, rfl, o_none (s_listF isl_list ?_)⟩))))))))))
      rw [cut_tail]
      have et : ((es.map some).map partD).tail = (es.tail.map some).map partD := by rw [List.map_tail, List.map_tail]
      rw [et]
      refine a_nil ⟨_, _, (es.map some).map partD, (es.tail.map some).map partD, rfl, isl_list, isl_list, by rw [hmm]; omega, fun i hi => ?_, ?_⟩
      · rw [List.length_map, List.length_map, List.length_map, List.length_map] at hi
        have h1 : i < es.length := by omega
        have h2 : i < es.tail.length := by omega
        have ez : zipD ((es.map some).map partD) ((es.tail.map some).map partD) i = .tuple [.tuple [.str es[i].1, .str es[i].2.1, .str es[i].2.2], .tuple [.str es.tail[i].1, .str es.tail[i].2.1, .str es.tail[i].2.2]] := by
          unfold zipD
          rw [List.getD_eq_getElem?_getD, List.getD_eq_getElem?_getD, List.getElem?_map, List.getElem?_map, List.getElem?_map, List.getElem?_map, List.getElem?_eq_getElem h1, List.getElem?_eq_getElem h2]
          rfl
        rw [ez]
        refine g_tup rfl (g_cons (g_name (g_cons (g_name (g_nil (t_yes ?_))))))
        rw [if_pos rfl]
        exact e_op (e_op (e_var rfl (e_int (o_ixQ isq_tup rfl (e_op (e_var rfl (e_int (o_ixQ isq_tup rfl (o_eqS ⟨_, rfl, rfl, rfl⟩)))))))))
      · rw [zip_parts]
        refine a_nil (c_all (isl_own rfl) ?_)
        have e9 : ((es.zip es.tail).map fun p => decide (p.1.2.2 = p.2.2.1)).all id = (es.zip es.tail).all fun p => decide (p.1.2.2 = p.2.2.1) := by rw [List.all_map]; rfl
        rw [e9]
        exact Res.dat (fun _ h => by cases h) z
def S_go_round : Spec3 := fun ds g R => ∃ os, ds = [.f (.list (os.map partD))] ∧ g = [] ∧ os.length ≤ 1000 ∧ (∀ o ∈ os, PartOk o) ∧ R (.f (.bool (goRoundB os))) []
/-- what goes on: its first and its last -/
theorem go_ends {os : List (Option Step3)} (h : goOnB os = true) : ∃ (f g : Step3) (r : List Step3) (l : Step3), os = (f :: g :: r).map some ∧ (f :: g :: r).getLast? = some l := by
  obtain ⟨es, rfl, G⟩ := goOnB_some h
  have := G.two
  match es with
  | [] => simp at this
  | [_] => simp at this
  | f :: g :: r =>
    cases hl : (f :: g :: r).getLast? with
    | none => simp at hl
    | some l => exact ⟨f, g, r, l, rfl, hl⟩
theorem go_at {f : Step3} {r : List Step3} {l : Step3} (h : (f :: r).getLast? = some l) : atI (((f :: r).map some).map partD) (-1) = some (.tuple [.str l.1, .str l.2.1, .str l.2.2]) := by
  refine atI_m1 ?_
  rw [List.getLast?_map, List.getLast?_map, h]
  rfl
abbrev s_go_round : Stmt := top 12
theorem sc_go_round : FnScope ["ends"] ["ends"] (defScope s_go_round) := ⟨rfl, rfl, rfl, by decide +kernel, rfl, by decide +kernel, by decide +kernel⟩
set_option maxHeartbeats 4000000 in
theorem ok_go_round (T : Bi K mg) (Df : DefAt K mg "go_round" s_go_round ["ends"]) (C_go_on : Cal P w K mg base 1 "go_on" ["ends"] S_go_on) : Cal P w K mg base 2 "go_round" ["ends"] S_go_round := by
  refine ok4 Df sc_go_round (fun ds g R h0 => by obtain ⟨_, h, _⟩ := h0; rw [h]; rfl) (fun cdv A outer s H E f hr => ?_)
  have hu1 := hu_of hr.r
  have hu64 := hr.units
  have hu65 : (A.deeper (PyProof.Rows.envOfC "go_round" (defScope s_go_round) s.heap.objs.size f cdv)).units + 65 < cLine := by have := hr.un; omega
  refine ⟨_, (pss_one (ps_ret (pe_and (pe_cal (K := K) rfl C_go_on (hr.mono (by decide)) (by rfl) (pa_cons (pv 0) pa_nil)) (pe_one (pe_cmpR (u_eq (K := K) rfl hu64) (pe_ix (u_ix (K := K) rfl hu1) (pe_ix (u_ix (K := K) rfl hu1) (pv 0) (pe_un un_neg pe_int) (fun _ _ => rfl)) pe_int (fun _ _ => rfl)) (pe_ix (u_ix (K := K) rfl hu1) (pe_ix (u_ix (K := K) rfl hu1) (pv 0) pe_int (fun _ _ => rfl)) pe_int (fun _ _ => rfl)) (nomark _)))))), fun ds g R hS => ?_⟩
  obtain ⟨os, rfl, rfl, hol, hok, z⟩ := hS
  show ExS K _ [some _] _ _
  refine x_ret (e_andV (e_call0 (a_cons (e_var rfl (a_nil ⟨trivial, os, rfl, rfl, hol, hok, _, rfl, ?_⟩)))))
  cases hg : goOnB os with
  | false =>
    refine iteF ?_
    have e : goRoundB os = false := by unfold goRoundB; rw [hg]; rfl
    rw [e] at z
    exact Res.dat (fun _ h => by cases h) z
  | true =>
    refine iteT ?_
    obtain ⟨f, q, r, l, rfl, hl⟩ := go_ends hg
    have e : goRoundB ((f :: q :: r).map some) = decide (l.2.2 = f.2.1) := by
      unfold goRoundB
      rw [hg, List.getLast?_map, hl]
      rfl
    rw [e] at z
    refine e_op (e_op (e_op (e_var rfl (e_un (e_int (o_neg (o_ixQ isq_list (go_at hl) (e_int (o_ixQ isq_tup rfl ?_)))))))))
    refine e_op (e_op (e_var rfl (e_int (o_ixQ isq_list (atI_zero _ _) (e_int (o_ixQ isq_tup rfl (o_eqS ?_)))))))
    exact Res.dat (fun _ h => by cases h) z
theorem okTie : PyData.strOk ("tie" : Str) = true := by decide +kernel
theorem isWord_ok {w : Str} (h : IsWord w) : PyData.strOk w = true := by
  rcases h with rfl | rfl | rfl
  · exact okTie
  · exact ok_first
  · exact ok_last
theorem steps_lay {us : List Str} (hs : ∀ u ∈ us, PyData.strOk u = true) : ∀ {ss : List Step3}, StepsIn us ss → PyData.canLayAll0 (s3Py ss) = true ∧ PyData.depthAll (s3Py ss) ≤ 1
  | [], _ => by simp [s3Py, PyData.canLayAll0, PyData.depthAll]
  | t :: ss, h => by
    obtain ⟨i1, i2⟩ := steps_lay hs (ss := ss) fun x hx => h x (List.mem_cons_of_mem _ hx)
    obtain ⟨h1, h2, h3⟩ := h t List.mem_cons_self
    have e : s3Py (t :: ss) = .tuple [.str t.1, .str t.2.1, .str t.2.2] :: s3Py ss := rfl
    rw [e]
    refine ⟨by simp [PyData.canLayAll0, PyData.canLay0, i1, isWord_ok h1, hs _ h2, hs _ h3], ?_⟩
    simp only [PyData.depthAll, PyData.depth]; omega
theorem shape_ring {us : List Str} (hs : ∀ u ∈ us, PyData.strOk u = true) {ss : List Step3} (h : StepsIn us ss) : SeqAt.shaped (.list (s3Py ss)) = true := by
  obtain ⟨i1, i2⟩ := steps_lay hs h
  simp [SeqAt.shaped, PyData.canLay0, PyData.depth, i1]
  omega
def endD (ks : Knots) (ts ws : Ties) : PyData → Option PyData
  | .tuple [.str w, .str a, .str b] => some (partD (endsF ks ts ws (w, a, b)))
  | _ => none
theorem endD_eq (ks : Knots) (ts ws : Ties) (ss : List Step3) : (s3Py ss).filterMap (endD ks ts ws) = (ss.map (endsF ks ts ws)).map partD := by
  induction ss with
  | nil => rfl
  | cons t ss ih =>
    show (s3D t :: s3Py ss).filterMap _ = _
    rw [List.filterMap_cons_some (f := endD ks ts ws) (a := s3D t) (b := partD (endsF ks ts ws t)) rfl, ih]
    rfl
theorem ends_ok {ks : Knots} {us : List Str} {ts ws ws2 : Ties} (hB : TreeB ks us) (hP : Parted ks us ts) (hN : Nameable ks us ws2) {ss : List Step3} (h : StepsIn us ss) : ∀ o ∈ ss.map (endsF ks ts ws), PartOk o := by
  intro o ho e he
  obtain ⟨t, ht, rfl⟩ := List.mem_map.mp ho
  obtain ⟨k, x, y⟩ := e
  obtain ⟨h1, h2, h3⟩ := endsF_in hB hP (h t ht).2.1 (h t ht).2.2 he
  exact ⟨hN.knot hB h1, hN.us _ h2, hN.us _ h3⟩
theorem s3Py_mem {ss : List Step3} {d : PyData} (h : d ∈ s3Py ss) : ∃ t ∈ ss, d = s3D t := by
  obtain ⟨t, ht, rfl⟩ := List.mem_map.mp h
  exact ⟨t, ht, rfl⟩
def S_is_tie_ring : Spec3 := fun ds g R => ∃ ks us ts wt ws a b ss, ds = [.f (houseD ks ts wt ws), .f (.str a), .f (.str b), .f (.list (s3Py ss))] ∧ g = [] ∧ TreeB ks us ∧ Parted ks us ts ∧ Nameable ks us ws ∧ a ∈ us ∧ b ∈ us ∧ StepsIn us ss ∧ ss.length ≤ 900 ∧ R (.f (.bool (tieRingB ks ts ws a b ss))) []
abbrev s_is_tie_ring : Stmt := top 13
theorem sc_is_tie_ring : FnScope ["house", "one", "other", "ring", "told"] ["house", "one", "other", "ring"] (defScope s_is_tie_ring) := ⟨rfl, rfl, rfl, by decide +kernel, rfl, by decide +kernel, by decide +kernel⟩
set_option maxHeartbeats 4000000 in
theorem ok_is_tie_ring (T : Bi K mg) (Df : DefAt K mg "is_tie_ring" s_is_tie_ring ["house", "one", "other", "ring"]) (C_go_round : Cal P w K mg base 2 "go_round" ["ends"] S_go_round) (C_parting : Cal P w K mg base 3 "parting" ["house", "one", "other"] S_parting) (C_ends_of : Cal P w K mg base 4 "ends_of" ["house", "told"] S_ends_of) : Cal P w K mg base 5 "is_tie_ring" ["house", "one", "other", "ring"] S_is_tie_ring := by
  refine ok4 Df sc_is_tie_ring (fun ds g R h0 => by obtain ⟨_, _, _, _, _, _, _, _, h, _⟩ := h0; rw [h]; rfl) (fun cdv A outer s H E f hr => ?_)
  have hu1 := hu_of hr.r
  have hu64 := hr.units
  have hu65 : (A.deeper (PyProof.Rows.envOfC "is_tie_ring" (defScope s_is_tie_ring) s.heap.objs.size f cdv)).units + 65 < cLine := by have := hr.un; omega
  refine ⟨_, (pss_cons (ps_if (PW.pt (pw_or (pt_not (pt_val (pe_callB (u_isi (K := K) rfl) (by rfl) T.b_isinstance (by decide +kernel) (pa_cons (pv 3) (pa_cons (pe_bltn (v := .ty "list") (u := .type "list") rfl T.b_list (by decide +kernel) rfl) pa_nil))))) (pw_or (pt_cmpR (u_eq (K := K) rfl hu64) (pv 3) (pe_lst pa_nil) (nomark _)) (pw_or1 (pt_cmpR (u_ne (K := K) rfl hu64) (pe_ix (u_ix (K := K) rfl hu1) (pv 3) pe_int (fun _ _ => rfl)) (pe_tup (pa_cons pe_str (pa_cons (pv 1) (pa_cons (pv 2) pa_nil)))) (nomark _))))))
    (pss_one (ps_ret pe_bl))
    pss_nil)
    (pss_one (ps_ret (pe_cal (K := K) rfl C_go_round (hr.mono (by decide)) (by rfl) (pa_cons (pe_op (u_add (K := K) rfl) (pe_lst (pa_cons (pe_cal (K := K) rfl C_parting (hr.mono (by decide)) (by rfl) (pa_cons (pv 0) (pa_cons (pv 1) (pa_cons (pv 2) pa_nil)))) pa_nil)) (pe_lc (own := [("told", 4)]) (by rfl) sc_is_tie_ring.nd (u_seq (K := K) rfl (pe_slice (u_sl (K := K) rfl) (pv 3) (po_some pe_int) po_none)) (blkOk_by (own := [("told", 4)]) (N := ["house", "one", "other", "ring", "told"]) (sc := defScope s_is_tie_ring) (by decide +kernel)) (fun _ _ _ _ _ => (pg_name (i := 4) sc_is_tie_ring.nd rfl (by first | exact Or.inl rfl | exact Or.inr rfl))) (fun _ _ _ _ _ => pts_nil) (fun _ _ _ _ _ => (pe_cal (K := K) rfl C_ends_of (hr.mono (by decide)) (by rfl) (pa_cons (pv 0) (pa_cons (pv 4) pa_nil)))))) pa_nil))))), fun ds g R hS => ?_⟩
  obtain ⟨ks, us, ts, wt, ws, a, b, ss, rfl, rfl, hB, hP, hN, ha, hb, hS, hsl, z⟩ := hS
  show ExS K _ [some _, some _, some _, some _, none] _ _
  cases ss with
  | nil =>
    have e : tieRingB ks ts ws a b [] = false := rfl
    rw [e] at z
    refine xs_gateC False ?_ fun h => h.elim
    refine t_or (t_not (t_test (e_isi (e_var rfl ⟨"list", true, rfl, rfl, _, rfl, iteNT ?_⟩))))
    refine t_or (t_test (e_op (e_var rfl (e_lstF (a_nil ⟨[], rfl, by decide, o_eqP asd_f asd_f shape_nil shape_nil ⟨_, rfl, ?_⟩⟩)))))
    rw [eqv_nil]
    exact iteT (x_ret (e_bl (Res.dat (fun _ h => by cases h) z)))
  | cons t r =>
    obtain ⟨hw, h2, h3⟩ := hS t List.mem_cons_self
    have hS' : StepsIn us r := fun x hx => hS x (List.mem_cons_of_mem _ hx)
    have hrl : r.length ≤ 899 := by simp only [List.length_cons] at hsl; omega
    refine xs_gateC (t = (("tie", a, b) : Step3)) (t_cut 0 (Nat.le_refl _) (t_or (t_not (t_test (e_isi (e_var rfl ⟨"list", true, rfl, rfl, _, rfl, iteNT ?_⟩)))))) fun ht => ?_
    · refine t_or (t_test (e_op (e_var rfl (e_lstF (a_nil ⟨[], rfl, by decide, o_eqP asd_f asd_f (shape_ring hN.us hS) shape_nil ⟨_, rfl, ?_⟩⟩)))))
      rw [eqv_nil]
      refine iteF (t_test (e_op (e_op (e_var rfl (e_int (o_ixQ isq_list (atI_zero _ _) (e_tup (a_cons (e_str (a_cons (e_var rfl (a_cons (e_var rfl (a_nil ⟨[.str "tie", .str a, .str b], rfl, Nat.le_of_ble_eq_true rfl, ?_⟩))))))))))))))
      refine o_neP asd_f asd_f (shape_trip (isWord_ok hw) (hN.us _ h2) (hN.us _ h3)) (shape_trip okTie (hN.us _ ha) (hN.us _ hb)) ⟨_, rfl, (fun _ h => by cases h), ?_⟩
      rw [show s3D t = .tuple [.str t.1, .str t.2.1, .str t.2.2] from rfl, part_eqv]
      refine nd_both (fun c => ?_) (fun c => ⟨rfl, Option.some.inj c⟩)
      have e : tieRingB ks ts ws a b (t :: r) = false := by
        unfold tieRingB
        rw [decide_eq_false (p := (t :: r).head? = some (("tie", a, b) : Step3)) c]
        rfl
      rw [e] at z
      exact x_ret (e_bl (Res.dat (fun _ h => by cases h) z))
    · subst ht
      have e : tieRingB ks ts ws a b (("tie", a, b) :: r) = goRoundB (partF ks a b :: r.map (endsF ks ts ws)) := by
        unfold tieRingB
        rw [decide_eq_true (p := ((("tie", a, b) : Step3) :: r).head? = some (("tie", a, b) : Step3)) rfl]
        rfl
      rw [e] at z
      refine x_ret (e_call0 (a_cons (e_frz (e_op (e_lst (a_cons (e_call0 (a_cons (e_var rfl (a_cons (e_var rfl (a_cons (e_var rfl (a_nil ⟨trivial, ks, us, _, a, b, rfl, rfl, hB, ha, hb, ?_⟩))))))))))))))
      refine a_nil ⟨[partD (partF ks a b)], rfl, Nat.le_of_ble_eq_true rfl, ?_⟩
      refine e_lcF (endD ks ts ws) (gg_name (by decide)) (e_sl (e_var rfl (o_some (e_int ⟨1, rfl, o_none (s_listF isl_list ?_)⟩))))
      rw [cut_tail]
      refine ⟨s3Py r, isq_list, by rw [s3Py_len]; omega, fun d hd => ?_, ?_⟩
      · obtain ⟨q, hq, rfl⟩ := s3Py_mem hd
        refine g_name (t_yes ?_)
        rw [if_pos rfl]
        refine e_call0 (a_cons (e_var rfl (a_cons (e_var rfl (a_nil ⟨trivial, ks, us, ts, wt, ws, q, rfl, rfl, hB, hP, hN.us, hN.ws, .inr (isWord_ok (hS' q hq).1), (hS' q hq).2.1, (hS' q hq).2.2, ?_⟩)))))
        exact ⟨_, rfl, rfl, rfl⟩
      · rw [endD_eq]
        refine o_addL (ds := [partD (partF ks a b)]) (es := (r.map (endsF ks ts ws)).map partD) (isl_own (n := 0) rfl) (isl_own (n := 1) rfl) (by rw [List.length_map, List.length_map]; show 1 + _ ≤ _; omega) ?_
        refine ⟨2, _, rfl, rfl, a_nil ⟨trivial, partF ks a b :: r.map (endsF ks ts ws), rfl, rfl, by rw [List.length_cons, List.length_map]; omega, fun o ho => ?_, ?_⟩⟩
        · rcases List.mem_cons.mp ho with rfl | ho
          · intro e he
            obtain ⟨k, x, y⟩ := e
            obtain ⟨s1, s2, _⟩ := hB.part ha hb he
            obtain ⟨_, _, T, _⟩ := id hB
            exact ⟨hN.knot hB s1.knot, hN.us _ ((T.all _).mpr ⟨_, s1⟩), hN.us _ ((T.all _).mpr ⟨_, s2⟩)⟩
          · exact ends_ok hB hP hN hS' o ho
        · exact Res.dat (fun _ h => by cases h) z
def S_is_want_ring : Spec3 := fun ds g R => ∃ ks us ts wt ws w u ss, ds = [.f (houseD ks ts wt ws), .f (.str w), .f (.str u), .f (.list (s3Py ss))] ∧ g = [] ∧ TreeB ks us ∧ Parted ks us ts ∧ Nameable ks us ws ∧ (w = "first" ∨ w = "last") ∧ u ∈ us ∧ StepsIn us ss ∧ ss.length ≤ 900 ∧ ws.length ≤ 900 ∧ R (.f (.bool (wantRingB ks ts ws w u ss))) []
abbrev s_is_want_ring : Stmt := top 14
theorem sc_is_want_ring : FnScope ["house", "word", "one", "ring", "first", "told"] ["house", "word", "one", "ring"] (defScope s_is_want_ring) := ⟨rfl, rfl, rfl, by decide +kernel, rfl, by decide +kernel, by decide +kernel⟩
set_option maxHeartbeats 4000000 in
theorem ok_is_want_ring (T : Bi K mg) (Df : DefAt K mg "is_want_ring" s_is_want_ring ["house", "word", "one", "ring"]) (C_go_round : Cal P w K mg base 2 "go_round" ["ends"] S_go_round) (C_ends_of : Cal P w K mg base 4 "ends_of" ["house", "told"] S_ends_of) (C_with_want : Cal P w K mg base 1 "with_want" ["house", "word", "unit"] S_with_want) : Cal P w K mg base 5 "is_want_ring" ["house", "word", "one", "ring"] S_is_want_ring := by
  refine ok4 Df sc_is_want_ring (fun ds g R h0 => by obtain ⟨_, _, _, _, _, _, _, _, h, _⟩ := h0; rw [h]; rfl) (fun cdv A outer s H E f hr => ?_)
  have hu1 := hu_of hr.r
  have hu64 := hr.units
  have hu65 : (A.deeper (PyProof.Rows.envOfC "is_want_ring" (defScope s_is_want_ring) s.heap.objs.size f cdv)).units + 65 < cLine := by have := hr.un; omega
  refine ⟨_, (pss_cons (ps_if (PW.pt (pw_or (pt_not (pt_val (pe_callB (u_isi (K := K) rfl) (by rfl) T.b_isinstance (by decide +kernel) (pa_cons (pv 3) (pa_cons (pe_bltn (v := .ty "list") (u := .type "list") rfl T.b_list (by decide +kernel) rfl) pa_nil))))) (pw_or1 (pt_cmpR (u_eq (K := K) rfl hu64) (pv 3) (pe_lst pa_nil) (nomark _)))))
    (pss_one (ps_ret pe_bl))
    pss_nil)
    (pss_cons (ps_set (i := 4) sc_is_want_ring.nd rfl (by first | exact Or.inl rfl | exact Or.inr rfl) (pe_cal (K := K) rfl C_ends_of (hr.mono (by decide)) (by rfl) (pa_cons (pe_cal (K := K) rfl C_with_want (hr.mono (by decide)) (by rfl) (pa_cons (pv 0) (pa_cons (pv 1) (pa_cons (pv 2) pa_nil)))) (pa_cons (pe_ix (u_ix (K := K) rfl hu1) (pv 3) pe_int (fun _ _ => rfl)) pa_nil))))
    (pss_cons (ps_if (PW.pt (pw_or (pt_cmpR op_isN1 (pv 4) pe_non (nomark _)) (pw_or (pt_cmpR (u_ne (K := K) rfl hu64) (pe_ix (u_ix (K := K) rfl hu1) (pe_ix (u_ix (K := K) rfl hu1) (pv 3) pe_int (fun _ _ => rfl)) pe_int (fun _ _ => rfl)) (pv 1) (nomark _)) (pw_or1 (pt_cmpR (u_ne (K := K) rfl hu64) (pe_ix (u_ix (K := K) rfl hu1) (pv 4) (pe_op (u_add (K := K) rfl) pe_int (pe_callTy u_int (by rfl) T.b_int (by decide +kernel) (pa_cons (pe_cmpR (u_eq (K := K) rfl hu64) (pv 1) pe_str (nomark _)) pa_nil))) (fun _ _ => rfl)) (pv 2) (nomark _))))))
    (pss_one (ps_ret pe_bl))
    pss_nil)
    (pss_one (ps_ret (pe_cal (K := K) rfl C_go_round (hr.mono (by decide)) (by rfl) (pa_cons (pe_op (u_add (K := K) rfl) (pe_lst (pa_cons (pv 4) pa_nil)) (pe_lc (own := [("told", 5)]) (by rfl) sc_is_want_ring.nd (u_seq (K := K) rfl (pe_slice (u_sl (K := K) rfl) (pv 3) (po_some pe_int) po_none)) (blkOk_by (own := [("told", 5)]) (N := ["house", "word", "one", "ring", "first", "told"]) (sc := defScope s_is_want_ring) (by decide +kernel)) (fun _ _ _ _ _ => (pg_name (i := 5) sc_is_want_ring.nd rfl (by first | exact Or.inl rfl | exact Or.inr rfl))) (fun _ _ _ _ _ => pts_nil) (fun _ _ _ _ _ => (pe_cal (K := K) rfl C_ends_of (hr.mono (by decide)) (by rfl) (pa_cons (pv 0) (pa_cons (pv 5) pa_nil)))))) pa_nil))))))), fun ds g R hS => ?_⟩
  obtain ⟨ks, us, ts, wt, ws, w, u, ss, rfl, rfl, hB, hP, hN, hw, hu, hS, hsl, hwl, z⟩ := hS
  show ExS K _ [some _, some _, some _, some _, none, none] _ _
  have hwo : PyData.strOk w = true := isWord_ok (.inr hw)
  cases ss with
  | nil =>
    have e : wantRingB ks ts ws w u [] = false := rfl
    rw [e] at z
    refine xs_gateC False ?_ fun h => h.elim
    refine t_or (t_not (t_test (e_isi (e_var rfl ⟨"list", true, rfl, rfl, _, rfl, iteNT ?_⟩))))
    refine t_test (e_op (e_var rfl (e_lstF (a_nil ⟨[], rfl, by decide, o_eqP asd_f asd_f shape_nil shape_nil ⟨_, rfl, ?_⟩⟩))))
    rw [eqv_nil]
    exact iteT (x_ret (e_bl (Res.dat (fun _ h => by cases h) z)))
  | cons t r =>
    obtain ⟨hw1, h2, h3⟩ := hS t List.mem_cons_self
    have hS' : StepsIn us r := fun x hx => hS x (List.mem_cons_of_mem _ hx)
    have hrl : r.length ≤ 899 := by simp only [List.length_cons] at hsl; omega
    refine xs_gate (t_cut 0 (Nat.le_refl _) (t_or (t_not (t_test (e_isi (e_var rfl ⟨"list", true, rfl, rfl, _, rfl, iteNT ?_⟩)))))) ?_
    · refine t_test (e_op (e_var rfl (e_lstF (a_nil ⟨[], rfl, by decide, o_eqP asd_f asd_f (shape_ring hN.us hS) shape_nil ⟨_, rfl, ?_⟩⟩))))
      rw [eqv_nil]
      exact ⟨(fun o ho => by cases ho), rfl⟩
    have hws2 : ∀ q ∈ ws ++ [(w, u)], PyData.strOk q.1 = true ∧ PyData.strOk q.2 = true := fun q hq => by
      rcases List.mem_append.mp hq with h | h
      · exact hN.ws q h
      · rw [List.mem_singleton.mp h]; exact ⟨hwo, hN.us _ hu⟩
    refine xs_set (e_call0 (a_cons (e_call0 (a_cons (e_var rfl (a_cons (e_var rfl (a_cons (e_var rfl (a_nil ⟨trivial, ks, ts, wt, ws, w, u, rfl, rfl, by omega, ?_⟩))))))))))
    refine a_cons (e_op (e_var rfl (e_int (o_ixQ isq_list (atI_zero _ _) (a_nil ⟨trivial, ks, us, ts, wt, ws ++ [(w, u)], t, rfl, rfl, hB, hP, hN.us, hws2, .inr (isWord_ok hw1), h2, h3, ?_⟩)))))
    rw [wantRingB_cons] at z
    cases he : endsF ks ts (ws ++ [(w, u)]) t with
    | none =>
      rw [he] at z
      exact xs_gateC False (t_or (t_test (e_op (e_var rfl (e_non (o_isN ⟨true, rfl, iteT (x_ret (e_bl (Res.dat (fun _ h => by cases h) z)))⟩)))))) fun h => h.elim
    | some e =>
      rw [he] at z
      obtain ⟨k, x, y⟩ := e
      obtain ⟨ek1, ek2, ek3⟩ := endsF_in hB hP h2 h3 he
      simp only at z
      refine xs_gateC (t.1 = w ∧ (if w = ("last" : Str) then y else x) = u) (t_cut 0 (Nat.le_refl _) (t_or (t_test (e_op (e_var rfl (e_non (o_isN ⟨false, rfl, iteF ?_⟩))))))) fun hg => ?_
      · have no : ¬ (t.1 = w ∧ (if w = ("last" : Str) then y else x) = u) → Res 0 R (.f (.bool false)) [] := fun h => by
          rw [decide_eq_false h] at z
          exact Res.dat (fun _ h => by cases h) z
        refine t_or (t_test (e_op (e_op (e_op (e_var rfl (e_int (o_ixQ isq_list (atI_zero _ _) (e_int (o_ixQ isq_tup rfl (e_var rfl (o_neS ⟨_, rfl, ?_⟩)))))))))))
        refine nd_both (fun c1 => ⟨(fun _ h => by cases h), x_ret (e_bl (no fun h => c1 h.1))⟩) (fun c1 => ?_)
        refine t_test (e_op (e_op (e_var rfl (e_op (e_int (e_cb (a_cons (e_op (e_var rfl (e_str (o_eqS (a_nil (c_intB (o_addI ?_))))))))))))))
        have eat : atI [PyData.str k, .str x, .str y] (1 + if (decide (w = ("last" : Str))) = true then 1 else 0) = some (.str (if w = ("last" : Str) then y else x)) := by
          by_cases hl : w = ("last" : Str)
          · rw [if_pos hl, if_pos (decide_eq_true hl)]; rfl
          · rw [if_neg hl, if_neg (by simp [hl])]; rfl
        refine o_ixQ isq_tup eat (e_var rfl (o_neS ⟨_, rfl, ?_⟩))
        refine ⟨(fun _ h => by cases h), nd_both (fun c2 => ?_) (fun c2 => ?_)⟩
        · exact x_ret (e_bl (no fun h => c2 h.2))
        · exact ⟨rfl, c1, c2⟩
      · rw [decide_eq_true hg, Bool.true_and] at z
        refine x_ret (e_call0 (a_cons (e_frz (e_op (e_lst (a_cons (e_var rfl (a_nil ⟨[partD (some (k, x, y))], rfl, Nat.le_of_ble_eq_true rfl, ?_⟩))))))))
        refine e_lcF (endD ks ts ws) (gg_name (by decide)) (e_sl (e_var rfl (o_some (e_int ⟨1, rfl, o_none (s_listF isl_list ?_)⟩))))
        rw [cut_tail]
        refine ⟨s3Py r, isq_list, by rw [s3Py_len]; omega, fun d hd => ?_, ?_⟩
        · obtain ⟨q, hq, rfl⟩ := s3Py_mem hd
          refine g_name (t_yes ?_)
          rw [if_pos rfl]
          refine e_call0 (a_cons (e_var rfl (a_cons (e_var rfl (a_nil ⟨trivial, ks, us, ts, wt, ws, q, rfl, rfl, hB, hP, hN.us, hN.ws, .inr (isWord_ok (hS' q hq).1), (hS' q hq).2.1, (hS' q hq).2.2, ?_⟩)))))
          exact ⟨_, rfl, rfl, rfl⟩
        · rw [endD_eq]
          refine o_addL (ds := [partD (some (k, x, y))]) (es := (r.map (endsF ks ts ws)).map partD) (isl_own (n := 0) rfl) (isl_own (n := 1) rfl) (by rw [List.length_map, List.length_map]; show 1 + _ ≤ _; omega) ?_
          refine ⟨2, _, rfl, rfl, a_nil ⟨trivial, some (k, x, y) :: r.map (endsF ks ts ws), rfl, rfl, by rw [List.length_cons, List.length_map]; omega, fun o ho => ?_, ?_⟩⟩
          · rcases List.mem_cons.mp ho with rfl | ho
            · intro e he
              cases he
              exact ⟨hN.knot hB ek1, hN.us _ ek2, hN.us _ ek3⟩
            · exact ends_ok hB hP hN hS' o ho
          · exact Res.dat (fun _ h => by cases h) z
def S_is_group_ring : Spec3 := fun ds g R => ∃ ks us ts wt ws b M k ss, ds = [.f (houseD ks ts wt ws), .f (mPy b M), .f (.list (s3Py ss))] ∧ g = [] ∧ TreeB ks us ∧ Parted ks us ts ∧ Nameable ks us (bareW ws M) ∧ ws.length ≤ 900 ∧ M ≠ [] ∧ (∀ m ∈ M, m ∈ kids ks k) ∧ StepsIn us ss ∧ ss.length ≤ 900 ∧ R (.f (.bool (groupEndsB k M (ss.map (endsF ks ts (bareW ws M)))))) []
def outF (M : List Str) : PyData → Option PyData
  | .tuple [_, .str b, _] => some (.bool (!decide (b ∈ M)))
  | _ => none
theorem outF_eq (M : List Str) (es : List Step3) : ((es.map some).map partD).filterMap (outF M) = bPy (es.map fun e => !decide (e.2.1 ∈ M)) := by
  induction es with
  | nil => rfl
  | cons e es ih => rw [List.map_cons, List.map_cons, List.map_cons, List.filterMap_cons_some (f := outF M) (a := partD (some e)) (b := PyData.bool (!decide (e.2.1 ∈ M))) rfl, ih]; rfl
theorem groupEnds_some (k : Str) (M : List Str) {f q l : Step3} {r : List Step3} (hg : goOnB ((f :: q :: r).map some) = true) (hl : (f :: q :: r).getLast? = some l) : groupEndsB k M ((f :: q :: r).map some) = (decide (f.1 = k ∧ f.2.1 ∈ M ∧ l.2.2 ∈ M) && ((q :: r).map fun e => !decide (e.2.1 ∈ M)).all id) := by
  unfold groupEndsB
  rw [hg, List.getLast?_map, hl]
  have e1 : (((f :: q :: r).map some).tail.filterMap id) = q :: r := by
    rw [List.map_cons, List.tail_cons, List.filterMap_map]
    exact List.filterMap_some
  rw [e1, List.all_map]
  rfl
abbrev s_is_group_ring : Stmt := top 15
theorem sc_is_group_ring : FnScope ["house", "members", "ring", "bare", "ends", "told", "knot", "child", "goal"] ["house", "members", "ring"] (defScope s_is_group_ring) := ⟨rfl, rfl, rfl, by decide +kernel, rfl, by decide +kernel, by decide +kernel⟩
set_option maxHeartbeats 4000000 in
theorem ok_is_group_ring (T : Bi K mg) (Df : DefAt K mg "is_group_ring" s_is_group_ring ["house", "members", "ring"]) (C_go_on : Cal P w K mg base 1 "go_on" ["ends"] S_go_on) (C_knot_of : Cal P w K mg base 1 "knot_of" ["house", "one"] S_knot_of) (C_ends_of : Cal P w K mg base 4 "ends_of" ["house", "told"] S_ends_of) (C_without_wants : Cal P w K mg base 1 "without_wants" ["house", "units"] S_without_wants) : Cal P w K mg base 5 "is_group_ring" ["house", "members", "ring"] S_is_group_ring := by
  refine ok4 Df sc_is_group_ring (fun ds g R h0 => by obtain ⟨_, _, _, _, _, _, _, _, _, h, _⟩ := h0; rw [h]; rfl) (fun cdv A outer s H E f hr => ?_)
  have hu1 := hu_of hr.r
  have hu64 := hr.units
  have hu65 : (A.deeper (PyProof.Rows.envOfC "is_group_ring" (defScope s_is_group_ring) s.heap.objs.size f cdv)).units + 65 < cLine := by have := hr.un; omega
  refine ⟨_, (pss_cons (ps_if (pt_not (pt_val (pe_callB (u_isi (K := K) rfl) (by rfl) T.b_isinstance (by decide +kernel) (pa_cons (pv 2) (pa_cons (pe_bltn (v := .ty "list") (u := .type "list") rfl T.b_list (by decide +kernel) rfl) pa_nil)))))
    (pss_one (ps_ret pe_bl))
    pss_nil)
    (pss_cons (ps_set (i := 3) sc_is_group_ring.nd rfl (by first | exact Or.inl rfl | exact Or.inr rfl) (pe_cal (K := K) rfl C_without_wants (hr.mono (by decide)) (by rfl) (pa_cons (pv 0) (pa_cons (pv 1) pa_nil))))
    (pss_cons (ps_setLc (i := 4) (own := [("told", 5)]) (by rfl) sc_is_group_ring.nd rfl rfl (sw_true rfl rfl rfl (by decide +kernel)) (u_seq (K := K) rfl (pv 2)) (blkOk_by (own := [("told", 5)]) (N := ["house", "members", "ring", "bare", "ends", "told", "knot", "child", "goal"]) (sc := defScope s_is_group_ring) (by decide +kernel)) (fun _ _ _ _ _ => (pg_name (i := 5) sc_is_group_ring.nd rfl (by first | exact Or.inl rfl | exact Or.inr rfl))) (fun _ _ _ _ _ => pts_nil) (fun _ _ _ _ _ => (pe_cal (K := K) rfl C_ends_of (hr.mono (by decide)) (by rfl) (pa_cons (pv 3) (pa_cons (pv 5) pa_nil)))))
    (pss_cons (ps_if (PW.pt (pw_or (pt_not (pt_val (pe_cal (K := K) rfl C_go_on (hr.mono (by decide)) (by rfl) (pa_cons (pv 4) pa_nil)))) (pw_or1 (pt_cmpR (u_ne (K := K) rfl hu64) (pe_ix (u_ix (K := K) rfl hu1) (pe_ix (u_ix (K := K) rfl hu1) (pv 4) pe_int (fun _ _ => rfl)) pe_int (fun _ _ => rfl)) (pe_cal (K := K) rfl C_knot_of (hr.mono (by decide)) (by rfl) (pa_cons (pv 0) (pa_cons (pe_ix (u_ix (K := K) rfl hu1) (pv 1) pe_int (fun _ _ => rfl)) pa_nil))) (nomark _)))))
    (pss_one (ps_ret pe_bl))
    pss_nil)
    (pss_cons (ps_if (PW.pt (pw_or (pt_cmpR (u_notIn (K := K) rfl hu65) (pe_ix (u_ix (K := K) rfl hu1) (pe_ix (u_ix (K := K) rfl hu1) (pv 4) pe_int (fun _ _ => rfl)) pe_int (fun _ _ => rfl)) (pv 1) (by rfl)) (pw_or1 (pt_cmpR (u_notIn (K := K) rfl hu65) (pe_ix (u_ix (K := K) rfl hu1) (pe_ix (u_ix (K := K) rfl hu1) (pv 4) (pe_un un_neg pe_int) (fun _ _ => rfl)) pe_int (fun _ _ => rfl)) (pv 1) (by rfl)))))
    (pss_one (ps_ret pe_bl))
    pss_nil)
    (pss_one (ps_ret (pe_callB (u_all (K := K) rfl rfl) (by rfl) T.b_all (by decide +kernel) (pa_cons (pe_lc (own := [("knot", 6), ("child", 7), ("goal", 8)]) (by rfl) sc_is_group_ring.nd (u_seq (K := K) rfl (pe_slice (u_sl (K := K) rfl) (pv 4) (po_some pe_int) po_none)) (blkOk_by (own := [("knot", 6), ("child", 7), ("goal", 8)]) (N := ["house", "members", "ring", "bare", "ends", "told", "knot", "child", "goal"]) (sc := defScope s_is_group_ring) (by decide +kernel)) (fun _ _ _ _ _ => (u_tup (K := K) (n := 3) rfl (by rfl) (pgs_cons (pg_name (i := 6) sc_is_group_ring.nd rfl (by first | exact Or.inl rfl | exact Or.inr rfl)) (pgs_cons (pg_name (i := 7) sc_is_group_ring.nd rfl (by first | exact Or.inl rfl | exact Or.inr rfl)) (pgs_cons (pg_name (i := 8) sc_is_group_ring.nd rfl (by first | exact Or.inl rfl | exact Or.inr rfl)) pgs_nil))))) (fun _ _ _ _ _ => pts_nil) (fun _ _ _ _ _ => (pe_cmpR (u_notIn (K := K) rfl hu65) (pv 7) (pv 1) (by rfl)))) pa_nil))))))))), fun ds g R hS => ?_⟩
  obtain ⟨ks, us, ts, wt, ws, b, M, k, ss, rfl, rfl, hB, hP, hN, hwl, hM0, hMk, hS, hsl, z⟩ := hS
  show ExS K _ [some _, some _, some _, none, none, none, none, none, none] _ _
  obtain ⟨m, Mr, eM⟩ : ∃ m Mr, M = m :: Mr := by cases M with | nil => exact absurd rfl hM0 | cons a b => exact ⟨_, _, rfl⟩
  have hm0 : atI (sPy M) 0 = some (.str m) := by rw [eM]; exact atI_nat rfl
  have hmk : L3.knotOf ks m = some k := by
    have h := (mem_kids hB.names).mp (hMk m (by rw [eM]; exact List.mem_cons_self))
    obtain ⟨_, _, T, _⟩ := hB
    exact T.knotOf.mpr h
  refine xs_gate (t_not (t_test (e_isi (e_var rfl ⟨"list", true, rfl, rfl, _, rfl, iteNT rfl⟩)))) ?_
  refine xs_set (e_call0 (a_cons (e_var rfl (a_cons (e_var rfl (a_nil ⟨trivial, ks, ts, wt, ws, b, M, rfl, rfl, by omega, ?_⟩))))))
  refine xs_set (e_frz (e_lcF (endD ks ts (bareW ws M)) (gg_name (by decide)) (e_var rfl ⟨s3Py ss, isq_list, by rw [s3Py_len]; omega, fun d hd => ?_, ?_⟩)))
  · obtain ⟨q, hq, rfl⟩ := s3Py_mem hd
    refine g_name (t_yes ?_)
    rw [if_pos rfl]
    refine e_call0 (a_cons (e_var rfl (a_cons (e_var rfl (a_nil ⟨trivial, ks, us, ts, wt, bareW ws M, q, rfl, rfl, hB, hP, hN.us, hN.ws, .inr (isWord_ok (hS q hq).1), (hS q hq).2.1, (hS q hq).2.2, ?_⟩)))))
    exact ⟨_, rfl, rfl, rfl⟩
  rw [endD_eq]
  refine ⟨0, _, rfl, rfl, ?_⟩
  have hok := ends_ok (ws := bareW ws M) hB hP hN hS
  have hol : (ss.map (endsF ks ts (bareW ws M))).length ≤ 900 := by rw [List.length_map]; exact hsl
  generalize ss.map (endsF ks ts (bareW ws M)) = os at z hok hol
  cases hg : goOnB os with
  | false =>
    refine xs_gateC False (t_or (t_not (t_test (e_call0 (a_cons (e_var rfl (a_nil ⟨trivial, os, rfl, rfl, by omega, hok, _, rfl, ?_⟩))))))) fun h => h.elim
    rw [hg]
    have e : groupEndsB k M os = false := by unfold groupEndsB; rw [hg]; rfl
    rw [e] at z
    exact iteNF (x_ret (e_bl (Res.dat (fun _ h => by cases h) z)))
  | true =>
    obtain ⟨f, q, r, l, rfl, hl⟩ := go_ends hg
    rw [groupEnds_some k M hg hl] at z
    have hlen : (f :: q :: r).length ≤ 900 := by rw [List.length_map] at hol; exact hol
    refine xs_gateC (f.1 = k) (t_or (t_not (t_test (e_call0 (a_cons (e_var rfl (a_nil ⟨trivial, _, rfl, rfl, by omega, hok, _, rfl, ?_⟩))))))) fun hfk => ?_
    · rw [hg]
      refine iteNT (t_test (e_op (e_op (e_op (e_var rfl (e_int (o_ixQ isq_list (atI_zero _ _) (e_int (o_ixQ isq_tup rfl ?_)))))))))
      refine e_call0 (a_cons (e_var rfl (a_cons (e_op (e_var rfl (e_int (o_ixQ (isq_m b M) hm0 (a_nil ⟨trivial, ks, _, m, rfl, rfl, ?_⟩))))))))
      rw [hmk]
      refine o_neS ⟨_, rfl, ?_⟩
      refine nd_both (fun c1 => ?_) (fun c1 => ⟨rfl, c1⟩)
      rw [decide_eq_false (fun h : f.1 = k ∧ _ => c1 h.1)] at z
      exact x_ret (e_bl (Res.dat (fun _ h => by cases h) z))
    refine xs_gateC (f.2.1 ∈ M ∧ l.2.2 ∈ M) ?_ fun hfl => ?_
    · have no : ¬ (f.2.1 ∈ M ∧ l.2.2 ∈ M) → Res 0 R (.f (.bool false)) [.gone] := fun h => by
        rw [decide_eq_false (fun h' => h h'.2)] at z
        exact Res.dat (fun _ h => by cases h) z
      refine t_or (t_test (e_op (e_op (e_op (e_var rfl (e_int (o_ixQ isq_list (atI_zero _ _) (e_int (o_ixQ isq_tup rfl (e_var rfl (o_ninS (isq_m b M) ⟨_, rfl, ?_⟩)))))))))))
      refine nd_both (fun c1 => x_ret (e_bl (no fun h => c1 h.1))) (fun c1 => ?_)
      refine t_test (e_op (e_op (e_op (e_var rfl (e_un (e_int (o_neg (o_ixQ isq_list (go_at hl) (e_int (o_ixQ isq_tup rfl (e_var rfl (o_ninS (isq_m b M) ⟨_, rfl, ?_⟩))))))))))))
      refine nd_both (fun c2 => x_ret (e_bl (no fun h => c2 h.2))) (fun c2 => ⟨rfl, c1, c2⟩)
    rw [decide_eq_true ⟨hfk, hfl⟩, Bool.true_and] at z
    refine x_ret (e_cb (a_cons (e_lcF (outF M) (gg_tup (gg_cons (gg_name (by decide)) (gg_cons (gg_name (by decide)) (gg_cons (gg_name (by decide)) gg_nil mono_name) mono_name) mono_name)) (e_sl (e_var rfl (o_some (e_int ⟨1, rfl, o_none (s_listF isl_list ?_)⟩)))))))
    rw [cut_tail]
    have et : (((f :: q :: r).map some).map partD).tail = ((q :: r).map some).map partD := rfl
    rw [et]
    refine ⟨_, isq_list, by rw [List.length_map, List.length_map]; simp only [List.length_cons] at hlen ⊢; omega, fun d hd => ?_, ?_⟩
    · obtain ⟨o, ho, rfl⟩ := List.mem_map.mp hd
      obtain ⟨e, he, rfl⟩ := List.mem_map.mp ho
      refine g_tup rfl (g_cons (g_name (g_cons (g_name (g_cons (g_name (g_nil (t_yes ?_)))))))) 
      rw [if_pos rfl]
      exact e_op (e_var rfl (e_var rfl (o_ninS (isq_m b M) ⟨_, rfl, rfl, rfl⟩)))
    · rw [outF_eq]
      refine a_nil (c_all (isl_own (n := 1) rfl) ?_)
      exact Res.dat (fun _ h => by cases h) z
/-- all steps from a child to another -/
def stepsF (ks : Knots) (ts ws : Ties) (k x y : Str) : List Step3 := ((ts.filter fun e => decide (partF ks e.1 e.2 = some (k, x, y))).map fun e => (("tie" : Str), e.1, e.2)) ++ ((ws.filter fun q => decide (q = (("first" : Str), x))).map fun _ => (("first" : Str), x, y)) ++ ((ws.filter fun q => decide (q = (("last" : Str), y))).map fun _ => (("last" : Str), x, y))
theorem mem_stepsF {ks : Knots} {ts ws : Ties} {k x y : Str} {t : Step3} : t ∈ stepsF ks ts ws k x y ↔ (∃ e ∈ ts, partF ks e.1 e.2 = some (k, x, y) ∧ t = (("tie", e.1, e.2) : Step3)) ∨ ((("first" : Str), x) ∈ ws ∧ t = (("first", x, y) : Step3)) ∨ ((("last" : Str), y) ∈ ws ∧ t = (("last", x, y) : Step3)) := by
  unfold stepsF
  rw [List.append_assoc, List.mem_append, List.mem_append]
  constructor
  · rintro (h | h | h)
    · obtain ⟨e, he, rfl⟩ := List.mem_map.mp h
      obtain ⟨h1, h2⟩ := List.mem_filter.mp he
      exact .inl ⟨e, h1, of_decide_eq_true h2, rfl⟩
    · obtain ⟨q, hq, rfl⟩ := List.mem_map.mp h
      obtain ⟨h1, h2⟩ := List.mem_filter.mp hq
      exact .inr (.inl ⟨by rw [← of_decide_eq_true h2]; exact h1, rfl⟩)
    · obtain ⟨q, hq, rfl⟩ := List.mem_map.mp h
      obtain ⟨h1, h2⟩ := List.mem_filter.mp hq
      exact .inr (.inr ⟨by rw [← of_decide_eq_true h2]; exact h1, rfl⟩)
  · rintro (⟨e, h1, h2, rfl⟩ | ⟨h, rfl⟩ | ⟨h, rfl⟩)
    · exact .inl (List.mem_map.mpr ⟨e, List.mem_filter.mpr ⟨h1, decide_eq_true h2⟩, rfl⟩)
    · exact .inr (.inl (List.mem_map.mpr ⟨_, List.mem_filter.mpr ⟨h, decide_eq_true rfl⟩, rfl⟩))
    · exact .inr (.inr (List.mem_map.mpr ⟨_, List.mem_filter.mpr ⟨h, decide_eq_true rfl⟩, rfl⟩))
section
variable {ks : Knots} {us : List Str} {ts ws : Ties} {k x y : Str}
theorem stepsF_some (h : (x, y) ∈ edgesF ks ts ws k) : stepsF ks ts ws k x y ≠ [] := by
  have ex : ∃ t, t ∈ stepsF ks ts ws k x y := by
    rcases mem_edges.mp h with h1 | h1 | h1
    · obtain ⟨e, he, h2⟩ := mem_tieE.mp h1
      exact ⟨_, mem_stepsF.mpr (.inl ⟨e, he, h2, rfl⟩)⟩
    · obtain ⟨_, _, _, hm⟩ := mem_wantE.mp h1
      rw [if_neg (by decide)] at hm
      exact ⟨_, mem_stepsF.mpr (.inr (.inl ⟨hm, rfl⟩))⟩
    · obtain ⟨_, _, _, hm⟩ := mem_wantE.mp h1
      rw [if_pos rfl] at hm
      exact ⟨_, mem_stepsF.mpr (.inr (.inr ⟨hm, rfl⟩))⟩
  obtain ⟨t, ht⟩ := ex
  exact List.ne_nil_of_mem ht
theorem stepsF_ends (hB : TreeB ks us) (hx : x ∈ kids ks k) (hy : y ∈ kids ks k) (hne : x ≠ y) {t : Step3} (ht : t ∈ stepsF ks ts ws k x y) : endsF ks ts ws t = some (k, x, y) := by
  have kn : knotOf ks x = some k := by
    have := (mem_kids hB.names).mp hx
    obtain ⟨_, _, T, _⟩ := hB
    exact T.knotOf.mpr this
  have no : ¬ (x = y ∨ y ∉ kids ks k) := by rintro (e | e); exact hne e; exact e hy
  rcases mem_stepsF.mp ht with ⟨e, h1, h2, rfl⟩ | ⟨h, rfl⟩ | ⟨h, rfl⟩
  · unfold endsF
    rw [if_pos rfl]
    rw [if_pos (show ((("tie" : Str), e.1, e.2).2.1, (("tie" : Str), e.1, e.2).2.2) ∈ ts from h1)]
    exact h2
  · rw [endsF_want (t := ("first", x, y)) ne_first kn, if_neg no]
    exact if_pos (show wantKey (("first" : Str), x, y) ∈ ws from h)
  · rw [endsF_want (t := ("last", x, y)) ne_last kn, if_neg no]
    exact if_pos (show wantKey (("last" : Str), x, y) ∈ ws from h)
theorem stepsF_in (hP : Parted ks us ts) (hx : x ∈ us) (hy : y ∈ us) {t : Step3} (ht : t ∈ stepsF ks ts ws k x y) : IsWord t.1 ∧ t.2.1 ∈ us ∧ t.2.2 ∈ us := by
  rcases mem_stepsF.mp ht with ⟨e, h1, h2, rfl⟩ | ⟨h, rfl⟩ | ⟨h, rfl⟩
  · have := hP e h1
    exact ⟨.inl rfl, this.1, this.2.1⟩
  · exact ⟨.inr (.inl rfl), hx, hy⟩
  · exact ⟨.inr (.inr rfl), hx, hy⟩
theorem stepsF_len : (stepsF ks ts ws k x y).length ≤ ts.length + 2 * ws.length := by
  unfold stepsF
  rw [List.length_append, List.length_append, List.length_map, List.length_map, List.length_map]
  have := List.length_filter_le (fun e => decide (partF ks e.1 e.2 = some (k, x, y))) ts
  have := List.length_filter_le (fun q => decide (q = (("first" : Str), x))) ws
  have := List.length_filter_le (fun q => decide (q = (("last" : Str), y))) ws
  omega
end
/-- the house's parts as the looks want them -/
structure Hs (ks : Knots) (us : List Str) (ts ws : Ties) : Prop where
  tree : TreeB ks us
  pa : Parted ks us ts
  tl : ts.length ≤ 200
  wl : ws.length ≤ 60
  nm : Nameable ks us ws
def tieSt (ks : Knots) (k x y : Str) : PyData → Option PyData
  | .tuple [.str a, .str b] => if partF ks a b = some (k, x, y) then some (.tuple [.str "tie", .str a, .str b]) else none
  | _ => none
def wantSt (w v x y : Str) : PyData → Option PyData
  | .tuple [.str a, .str b] => if (a, b) = (w, v) then some (.tuple [.str w, .str x, .str y]) else none
  | _ => none
theorem tieSt_eq (ks : Knots) (k x y : Str) (ts : Ties) : (pPy ts).filterMap (tieSt ks k x y) = s3Py ((ts.filter fun e => decide (partF ks e.1 e.2 = some (k, x, y))).map fun e => (("tie" : Str), e.1, e.2)) := by
  induction ts with
  | nil => rfl
  | cons e ts ih =>
    have e1 : tieSt ks k x y (.tuple [.str e.1, .str e.2]) = if partF ks e.1 e.2 = some (k, x, y) then some (.tuple [.str "tie", .str e.1, .str e.2]) else none := rfl
    show (PyData.tuple [.str e.1, .str e.2] :: pPy ts).filterMap _ = _
    rw [List.filterMap_cons, ih, e1, List.filter_cons]
    by_cases c : partF ks e.1 e.2 = some (k, x, y)
    · rw [if_pos c, if_pos (decide_eq_true c)]
      rfl
    · rw [if_neg c, if_neg (by simp [c])]
theorem wantSt_eq (w v x y : Str) (ws : Ties) : (pPy ws).filterMap (wantSt w v x y) = s3Py ((ws.filter fun q => decide (q = (w, v))).map fun _ => (w, x, y)) := by
  induction ws with
  | nil => rfl
  | cons e ws ih =>
    have e1 : wantSt w v x y (.tuple [.str e.1, .str e.2]) = if (e.1, e.2) = (w, v) then some (.tuple [.str w, .str x, .str y]) else none := rfl
    show (PyData.tuple [.str e.1, .str e.2] :: pPy ws).filterMap _ = _
    rw [List.filterMap_cons, ih, e1, List.filter_cons]
    by_cases c : e = (w, v)
    · rw [if_pos c, if_pos (decide_eq_true c)]
      rfl
    · rw [if_neg c, if_neg (by simp [c])]
def S__law_steps : Spec3 := fun ds g R => ∃ ks us ts wt ws k x y, ds = [.f (houseD ks ts wt ws), .f (.str k), .f (.str x), .f (.str y)] ∧ g = [] ∧ Hs ks us ts ws ∧ PyData.strOk k = true ∧ x ∈ us ∧ y ∈ us ∧ R (.f (.list (s3Py (stepsF ks ts ws k x y)))) []
theorem s3Py_app (a b : List Step3) : s3Py (a ++ b) = s3Py a ++ s3Py b := List.map_append ..
theorem s3Py_len (a : List Step3) : (s3Py a).length = a.length := List.length_map ..
abbrev s__law_steps : Stmt := top 30
theorem sc__law_steps : FnScope ["_law_house_here", "_law_knot", "_law_here", "_law_there", "_law_around_here", "_law_found", "_law_tie_here", "_law_want_here"] ["_law_house_here", "_law_knot", "_law_here", "_law_there"] (defScope s__law_steps) := ⟨rfl, rfl, rfl, by decide +kernel, rfl, by decide +kernel, by decide +kernel⟩
set_option maxHeartbeats 4000000 in
theorem ok__law_steps (T : Bi K mg) (Df : DefAt K mg "_law_steps" s__law_steps ["_law_house_here", "_law_knot", "_law_here", "_law_there"]) (C__law_parting : Cal P w K mg base 2 "_law_parting" ["_law_around_here", "_law_one", "_law_other"] S__law_parting) (C__law_around : Cal P w K mg base 1 "_law_around" ["_law_knots"] S__law_around) : Cal P w K mg base 3 "_law_steps" ["_law_house_here", "_law_knot", "_law_here", "_law_there"] S__law_steps := by
  refine ok4 Df sc__law_steps (fun ds g R h0 => by obtain ⟨_, _, _, _, _, _, _, _, h, _⟩ := h0; rw [h]; rfl) (fun cdv A outer s H E f hr => ?_)
  have hu1 := hu_of hr.r
  have hu64 := hr.units
  have hu65 : (A.deeper (PyProof.Rows.envOfC "_law_steps" (defScope s__law_steps) s.heap.objs.size f cdv)).units + 65 < cLine := by have := hr.un; omega
  refine ⟨_, (pss_cons (ps_set (i := 4) sc__law_steps.nd rfl (by first | exact Or.inl rfl | exact Or.inr rfl) (pe_cal (K := K) rfl C__law_around (hr.mono (by decide)) (by rfl) (pa_cons (pe_ix (u_ix (K := K) rfl hu1) (pv 0) pe_int (fun _ _ => rfl)) pa_nil)))
    (pss_cons (ps_setLc (i := 5) (own := [("_law_tie_here", 6)]) (by rfl) sc__law_steps.nd rfl rfl (sw_true rfl rfl rfl (by decide +kernel)) (u_seq (K := K) rfl (pe_ix (u_ix (K := K) rfl hu1) (pv 0) pe_int (fun _ _ => rfl))) (blkOk_by (own := [("_law_tie_here", 6)]) (N := ["_law_house_here", "_law_knot", "_law_here", "_law_there", "_law_around_here", "_law_found", "_law_tie_here", "_law_want_here"]) (sc := defScope s__law_steps) (by decide +kernel)) (fun _ _ _ _ _ => (pg_name (i := 6) sc__law_steps.nd rfl (by first | exact Or.inl rfl | exact Or.inr rfl))) (fun _ _ _ _ _ => (pts_one (pt_cmpR (u_eq (K := K) rfl hu64) (pe_cal (K := K) rfl C__law_parting (hr.mono (by decide)) (by rfl) (pa_cons (pv 4) (pa_cons (pe_ix (u_ix (K := K) rfl hu1) (pv 6) pe_int (fun _ _ => rfl)) (pa_cons (pe_ix (u_ix (K := K) rfl hu1) (pv 6) pe_int (fun _ _ => rfl)) pa_nil)))) (pe_tup (pa_cons (pv 1) (pa_cons (pv 2) (pa_cons (pv 3) pa_nil)))) (nomark _)))) (fun _ _ _ _ _ => (pe_op (u_add (K := K) rfl) (pe_tup (pa_cons pe_str pa_nil)) (pv 6))))
    (pss_cons (ps_set (i := 5) sc__law_steps.nd rfl (by first | exact Or.inl rfl | exact Or.inr rfl) (pe_op (u_add (K := K) rfl) (pv 5) (pe_lc (own := [("_law_want_here", 7)]) (by rfl) sc__law_steps.nd (u_seq (K := K) rfl (pe_ix (u_ix (K := K) rfl hu1) (pv 0) pe_int (fun _ _ => rfl))) (blkOk_by (own := [("_law_want_here", 7)]) (N := ["_law_house_here", "_law_knot", "_law_here", "_law_there", "_law_around_here", "_law_found", "_law_tie_here", "_law_want_here"]) (sc := defScope s__law_steps) (by decide +kernel)) (fun _ _ _ _ _ => (pg_name (i := 7) sc__law_steps.nd rfl (by first | exact Or.inl rfl | exact Or.inr rfl))) (fun _ _ _ _ _ => (pts_one (pt_cmpR (u_eq (K := K) rfl hu64) (pv 7) (pe_tup (pa_cons pe_str (pa_cons (pv 2) pa_nil))) (nomark _)))) (fun _ _ _ _ _ => (pe_tup (pa_cons pe_str (pa_cons (pv 2) (pa_cons (pv 3) pa_nil))))))))
    (pss_one (ps_ret (pe_op (u_add (K := K) rfl) (pv 5) (pe_lc (own := [("_law_want_here", 7)]) (by rfl) sc__law_steps.nd (u_seq (K := K) rfl (pe_ix (u_ix (K := K) rfl hu1) (pv 0) pe_int (fun _ _ => rfl))) (blkOk_by (own := [("_law_want_here", 7)]) (N := ["_law_house_here", "_law_knot", "_law_here", "_law_there", "_law_around_here", "_law_found", "_law_tie_here", "_law_want_here"]) (sc := defScope s__law_steps) (by decide +kernel)) (fun _ _ _ _ _ => (pg_name (i := 7) sc__law_steps.nd rfl (by first | exact Or.inl rfl | exact Or.inr rfl))) (fun _ _ _ _ _ => (pts_one (pt_cmpR (u_eq (K := K) rfl hu64) (pv 7) (pe_tup (pa_cons pe_str (pa_cons (pv 3) pa_nil))) (nomark _)))) (fun _ _ _ _ _ => (pe_tup (pa_cons pe_str (pa_cons (pv 2) (pa_cons (pv 3) pa_nil)))))))))))), fun ds g R hS => ?_⟩
  obtain ⟨ks, us, ts, wt, ws, k, x, y, rfl, rfl, hH, hk, hx, hy, z⟩ := hS
  obtain ⟨hB, hP, htl, hwl, hso, hwo⟩ := hH
  show ExS K _ [some _, some _, some _, some _, none, none, none, none] _ _
  refine xs_set (e_call0 (a_cons (e_op (e_var rfl (e_int (o_ixQ isq_tup rfl (a_nil ⟨trivial, ks, us, rfl, rfl, hB, fun A hA => ?_⟩)))))))
  refine xs_set (e_frz (e_lcF (tieSt ks k x y) (gg_name (by decide)) (e_op (e_var rfl (e_int (o_ixQ isq_tup rfl ⟨pPy ts, isq_tup, by rw [pPy_len]; omega, fun d hd => ?_, ?_⟩))))))
  · obtain ⟨e, he, rfl⟩ := List.mem_map.mp hd
    obtain ⟨h1, h2, kk, a, b, hq⟩ := hP e he
    refine g_name (t_test (e_op (e_call1 0 (a_cons (e_var rfl (a_cons (e_op (e_var rfl (e_int (o_ixQ isq_tup (atI_zero _ _) (a_cons (e_op (e_var rfl (e_int (o_ixQ isq_tup (show atI [PyData.str e.1, .str e.2] 1 = some (.str e.2) from rfl) (a_nil ⟨_, _, rfl, trivial, rfl, ks, us, A, e.1, e.2, rfl, rfl, hB, hA, h1, h2, _, _, rfl, ?_⟩))))))))))))))))
    have okp : PyData.strOk kk = true ∧ PyData.strOk a = true ∧ PyData.strOk b = true := by
      obtain ⟨q1, q2, q3⟩ := hB.part h1 h2 hq
      have hN : Nameable ks us ws := ⟨hso, hwo⟩
      obtain ⟨_, _, T, _⟩ := id hB
      exact ⟨hN.knot hB (by obtain ⟨xs, hx, _⟩ := q1; exact List.mem_map.mpr ⟨_, hx, rfl⟩), hso _ ((T.all _).mpr ⟨_, q1⟩), hso _ ((T.all _).mpr ⟨_, q2⟩)⟩
    rw [hq]
    refine e_tup (a_cons (e_var rfl (a_cons (e_var rfl (a_cons (e_var rfl (a_nil ⟨_, rfl, Nat.le_of_ble_eq_true rfl, o_eqP asd_f asd_f (shape_trip okp.1 okp.2.1 okp.2.2) (shape_trip hk (hso _ hx) (hso _ hy)) ⟨_, rfl, ?_⟩⟩)))))))
    rw [show partD (some (kk, a, b)) = .tuple [.str kk, .str a, .str b] from rfl, part_eqv]
    refine d_both (fun c => ?_) (fun c => ⟨?_, rfl⟩)
    · refine e_op (e_tup (a_cons (e_str (a_nil ⟨[.str "tie"], rfl, Nat.le_of_ble_eq_true rfl, e_var rfl (o_addTA (by show 1 + 2 ≤ _; decide) ⟨_, rfl, ?_, rfl⟩)⟩))))
      show (if partF ks e.1 e.2 = some (k, x, y) then _ else _) = _
      rw [if_pos (hq.trans c)]
      rfl
    · show (if partF ks e.1 e.2 = some (k, x, y) then _ else _) = _
      rw [if_neg fun q => c (hq.symm.trans q)]
  rw [tieSt_eq]
  refine ⟨1, _, rfl, rfl, ?_⟩
  have l1 := List.length_filter_le (fun e => decide (partF ks e.1 e.2 = some (k, x, y))) ts
  have l2 := List.length_filter_le (fun q => decide (q = (("first" : Str), x))) ws
  have l3 := List.length_filter_le (fun q => decide (q = (("last" : Str), y))) ws
  show ExS K _ [some (.f (houseD ks ts wt ws)), some (.f (.str k)), some (.f (.str x)), some (.f (.str y)), some (.own 0), some (.f (.list (s3Py ((ts.filter fun e => decide (partF ks e.1 e.2 = some (k, x, y))).map fun e => (("tie" : Str), e.1, e.2))))), none, none] [.dct A, .gone] _
  refine xs_set (e_op (e_var rfl (e_lcF (wantSt "first" x x y) (gg_name (by decide)) (e_op (e_var rfl (e_int (o_ixQ isq_tup rfl ⟨pPy ws, isq_tup, by rw [pPy_len]; omega, fun d hd => ?_, ?_⟩)))))))
  · obtain ⟨e, he, rfl⟩ := List.mem_map.mp hd
    refine g_name (t_test (e_op (e_var rfl (e_tup (a_cons (e_str (a_cons (e_var rfl (a_nil ⟨_, rfl, Nat.le_of_ble_eq_true rfl, o_eqP asd_f asd_f (shape_pair (hwo e he).1 (hwo e he).2) (shape_pair ok_first (hso _ hx)) ⟨_, rfl, ?_⟩⟩)))))))))
    rw [eqv_pair]
    refine d_both (fun c => ?_) (fun c => ⟨?_, rfl⟩)
    · refine e_tup (a_cons (e_str (a_cons (e_var rfl (a_cons (e_var rfl (a_nil ⟨_, rfl, Nat.le_of_ble_eq_true rfl, _, rfl, ?_, rfl⟩)))))))
      show (if (e.1, e.2) = _ then _ else _) = _
      rw [if_pos c]
    · show (if (e.1, e.2) = _ then _ else _) = _
      rw [if_neg c]
  rw [wantSt_eq]
  refine o_addLF isl_list (isl_own (n := 2) rfl) (by rw [s3Py_len, s3Py_len, List.length_map, List.length_map]; omega) ?_
  rw [← s3Py_app]
  refine x_ret (e_op (e_var rfl (e_lcF (wantSt "last" y x y) (gg_name (by decide)) (e_op (e_var rfl (e_int (o_ixQ isq_tup rfl ⟨pPy ws, isq_tup, by rw [pPy_len]; omega, fun d hd => ?_, ?_⟩)))))))
  · obtain ⟨e, he, rfl⟩ := List.mem_map.mp hd
    refine g_name (t_test (e_op (e_var rfl (e_tup (a_cons (e_str (a_cons (e_var rfl (a_nil ⟨_, rfl, Nat.le_of_ble_eq_true rfl, o_eqP asd_f asd_f (shape_pair (hwo e he).1 (hwo e he).2) (shape_pair ok_last (hso _ hy)) ⟨_, rfl, ?_⟩⟩)))))))))
    rw [eqv_pair]
    refine d_both (fun c => ?_) (fun c => ⟨?_, rfl⟩)
    · refine e_tup (a_cons (e_str (a_cons (e_var rfl (a_cons (e_var rfl (a_nil ⟨_, rfl, Nat.le_of_ble_eq_true rfl, _, rfl, ?_, rfl⟩)))))))
      show (if (e.1, e.2) = _ then _ else _) = _
      rw [if_pos c]
    · show (if (e.1, e.2) = _ then _ else _) = _
      rw [if_neg c]
  rw [wantSt_eq]
  refine o_addLF isl_list (isl_own (n := 3) rfl) (by rw [s3Py_len, s3Py_len, List.length_append, List.length_map, List.length_map, List.length_map]; omega) ?_
  rw [← s3Py_app]
  exact Res.dat (fun _ h => by cases h) z
structure WalkOk (es : Ties) (here : Str) (goals q : List Str) (cur : Str) : Prop where
  hd : (q ++ [cur]).head? = some here
  on : OnW es (q ++ [cur])
  ne : q ≠ []
  last : cur ∈ goals
  mid : ∀ v ∈ q.tail, v ∉ goals
structure WalkTo (es : Ties) (here : Str) (goals D : List Str) (r : Str → Nat) (q : List Str) (cur : Str) : Prop where
  hd : (q ++ [cur]).head? = some here
  on : OnW es (q ++ [cur])
  mid : ∀ v ∈ q.tail, v ∉ goals
  rk : q.length ≤ r cur
  rch : q ≠ [] → cur ∈ D
def swapE (e : Str × Str) : Str × Str := (e.2, e.1)
def swapF : PyData → Option PyData
  | .tuple [a, b] => some (.tuple [b, a])
  | _ => none
theorem swapF_eq (es : Ties) : (pPy es).filterMap swapF = pPy (es.map swapE) := by
  induction es with
  | nil => rfl
  | cons e es ih =>
    show (PyData.tuple [.str e.1, .str e.2] :: pPy es).filterMap _ = _
    rw [List.filterMap_cons, ih]
    rfl
theorem goesS_trans {es : Ties} {a b c : Str} (h : GoesS es a b) (h2 : GoesS es b c) : GoesS es a c := by
  induction h2 with
  | refl => exact h
  | tail _ h3 ih => exact .tail ih h3
theorem goesS_swap {es : Ties} {a b : Str} (h : GoesS (es.map swapE) a b) : GoesS es b a := by
  induction h with
  | refl => exact .refl _
  | tail _ h2 ih =>
    obtain ⟨e, he, q⟩ := List.mem_map.mp h2
    cases q
    exact goesS_trans (.tail (.refl _) he) ih
theorem goesS_swap' {es : Ties} {a b : Str} (h : GoesS es a b) : GoesS (es.map swapE) b a := by
  induction h with
  | refl => exact .refl _
  | tail _ h2 ih => exact goesS_trans (.tail (.refl _) (List.mem_map.mpr ⟨_, h2, rfl⟩)) ih
theorem goesS_head {es : Ties} {a b : Str} (h : GoesS es a b) : a = b ∨ ∃ v, (a, v) ∈ es ∧ GoesS es v b := by
  induction h with
  | refl => exact .inl rfl
  | tail _ h2 ih =>
    rcases ih with rfl | ⟨v, h3, h4⟩
    · exact .inr ⟨_, h2, .refl _⟩
    · exact .inr ⟨v, h3, .tail h4 h2⟩
def nextF (cur : Str) (D : List Str) : PyData → Option PyData
  | .tuple [.str a, .str b] => if a = cur ∧ b ∈ D then some (.str b) else none
  | _ => none
def nextL (cur : Str) (D : List Str) (es : Ties) : List Str := (es.filter fun e => decide (e.1 = cur ∧ e.2 ∈ D)).map (·.2)
theorem nextF_eq (cur : Str) (D : List Str) (es : Ties) : (pPy es).filterMap (nextF cur D) = sPy (nextL cur D es) := by
  induction es with
  | nil => rfl
  | cons e es ih =>
    have e1 : nextF cur D (.tuple [.str e.1, .str e.2]) = if e.1 = cur ∧ e.2 ∈ D then some (.str e.2) else none := rfl
    show (PyData.tuple [.str e.1, .str e.2] :: pPy es).filterMap _ = _
    rw [List.filterMap_cons, ih, e1]
    unfold nextL
    rw [List.filter_cons]
    by_cases c : e.1 = cur ∧ e.2 ∈ D
    · rw [if_pos c, if_pos (decide_eq_true c)]
      rfl
    · rw [if_neg c, if_neg (by simpa using c)]
theorem mem_nextL {cur : Str} {D : List Str} {es : Ties} {v : Str} : v ∈ nextL cur D es ↔ (cur, v) ∈ es ∧ v ∈ D := by
  unfold nextL
  rw [List.mem_map]
  constructor
  · rintro ⟨e, he, rfl⟩
    obtain ⟨h1, h2⟩ := List.mem_filter.mp he
    obtain ⟨h3, h4⟩ := of_decide_eq_true h2
    exact ⟨by rw [← h3]; exact h1, h4⟩
  · rintro ⟨h1, h2⟩
    exact ⟨(cur, v), List.mem_filter.mpr ⟨h1, decide_eq_true ⟨rfl, h2⟩⟩, rfl⟩
def S__law_walk : Spec3 := fun ds g R => ∃ (o : O) (es : Ties) (here : Str) (goals T : List Str) (r : Str → Nat), ds = [.own 0, .f (.list (pPy es)), .f (.str here), .f (.list (sPy goals))] ∧ g = [o] ∧ IsPen o ∧ es.length ≤ 19000 ∧ goals.length ≤ 60 ∧ T.length ≤ 60 ∧ (∀ e ∈ es, e.1 ∈ T ∧ e.2 ∈ T) ∧ (∀ g ∈ goals, g ∈ T) ∧ (∀ e ∈ es, r e.1 < r e.2 ∧ r e.2 ≤ 100) ∧
  (¬ (here ∉ goals ∧ ∃ g ∈ goals, GoesS es here g) → ∀ o', IsPen o' → R (.f .none) [o']) ∧ ∀ o' q cur, IsPen o' → WalkOk es here goals q cur → R (.own 1) [o', .lst (sPy (q ++ [cur]))]
abbrev s__law_walk : Stmt := top 31
theorem sc__law_walk : FnScope ["_law_pen_here", "_law_edges_here", "_law_here", "_law_goals", "_law_turned", "_law_reaching", "_law_goal", "_law_found", "_law_some", "_law_first", "_law_last"] ["_law_pen_here", "_law_edges_here", "_law_here", "_law_goals"] (defScope s__law_walk) := ⟨rfl, rfl, rfl, by decide +kernel, rfl, by decide +kernel, by decide +kernel⟩
set_option maxHeartbeats 4000000 in
theorem ok__law_walk (T : Bi K mg) (Df : DefAt K mg "_law_walk" s__law_walk ["_law_pen_here", "_law_edges_here", "_law_here", "_law_goals"]) (C__law_draw : Cal P w K mg base 1 "_law_draw" ["_law_pen_here", "_law_most"] S__law_draw) (C__law_reached : Cal P w K mg base 1 "_law_reached" ["_law_edges_here", "_law_one"] S__law_reached) : Cal P w K mg base 2 "_law_walk" ["_law_pen_here", "_law_edges_here", "_law_here", "_law_goals"] S__law_walk := by
  refine ok4 Df sc__law_walk (fun ds g R h0 => by obtain ⟨_, _, _, _, _, _, h, _⟩ := h0; rw [h]; rfl) (fun cdv A outer s H E f hr => ?_)
  have hu1 := hu_of hr.r
  have hu64 := hr.units
  have hu65 : (A.deeper (PyProof.Rows.envOfC "_law_walk" (defScope s__law_walk) s.heap.objs.size f cdv)).units + 65 < cLine := by have := hr.un; omega
  refine ⟨_, (pss_cons (ps_setLc (i := 4) (own := [("_law_first", 9), ("_law_last", 10)]) (by rfl) sc__law_walk.nd rfl rfl (sw_true rfl rfl rfl (by decide +kernel)) (u_seq (K := K) rfl (pv 1)) (blkOk_by (own := [("_law_first", 9), ("_law_last", 10)]) (N := ["_law_pen_here", "_law_edges_here", "_law_here", "_law_goals", "_law_turned", "_law_reaching", "_law_goal", "_law_found", "_law_some", "_law_first", "_law_last"]) (sc := defScope s__law_walk) (by decide +kernel)) (fun _ _ _ _ _ => (u_tup (K := K) (n := 2) rfl (by rfl) (pgs_cons (pg_name (i := 9) sc__law_walk.nd rfl (by first | exact Or.inl rfl | exact Or.inr rfl)) (pgs_cons (pg_name (i := 10) sc__law_walk.nd rfl (by first | exact Or.inl rfl | exact Or.inr rfl)) pgs_nil)))) (fun _ _ _ _ _ => pts_nil) (fun _ _ _ _ _ => (pe_tup (pa_cons (pv 10) (pa_cons (pv 9) pa_nil)))))
    (pss_cons (ps_set (i := 5) sc__law_walk.nd rfl (by first | exact Or.inl rfl | exact Or.inr rfl) (pe_lst pa_nil))
    (pss_cons (ps_for PassesOwn.never rfl (u_seq (K := K) rfl (pv 3)) (pg_name (i := 6) sc__law_walk.nd rfl (by first | exact Or.inl rfl | exact Or.inr rfl))
    (pss_one (ps_set (i := 5) sc__law_walk.nd rfl (by first | exact Or.inl rfl | exact Or.inr rfl) (pe_op (u_add (K := K) rfl) (pv 5) (pe_cal (K := K) rfl C__law_reached (hr.mono (by decide)) (by rfl) (pa_cons (pv 4) (pa_cons (pv 6) pa_nil)))))))
    (pss_cons (ps_set (i := 7) sc__law_walk.nd rfl (by first | exact Or.inl rfl | exact Or.inr rfl) (pe_lst (pa_cons (pv 2) pa_nil)))
    (pss_cons (ps_while PassesOwn.never (PW.pt (pw_or (pt_cmpR (u_notIn (K := K) rfl hu65) (pe_ix (u_ix (K := K) rfl hu1) (pv 7) (pe_un un_neg pe_int) (fun _ _ => rfl)) (pv 3) (by rfl)) (pw_or1 (pt_cmpR (u_eq (K := K) rfl hu64) (pe_callB (u_len (K := K) rfl) (by rfl) T.b_len (by decide +kernel) (pa_cons (pv 7) pa_nil)) pe_int (nomark _)))))
    (pss_cons (ps_setLc (i := 8) (own := [("_law_first", 9), ("_law_last", 10)]) (by rfl) sc__law_walk.nd rfl rfl (sw_true rfl rfl rfl (by decide +kernel)) (u_seq (K := K) rfl (pv 1)) (blkOk_by (own := [("_law_first", 9), ("_law_last", 10)]) (N := ["_law_pen_here", "_law_edges_here", "_law_here", "_law_goals", "_law_turned", "_law_reaching", "_law_goal", "_law_found", "_law_some", "_law_first", "_law_last"]) (sc := defScope s__law_walk) (by decide +kernel)) (fun _ _ _ _ _ => (u_tup (K := K) (n := 2) rfl (by rfl) (pgs_cons (pg_name (i := 9) sc__law_walk.nd rfl (by first | exact Or.inl rfl | exact Or.inr rfl)) (pgs_cons (pg_name (i := 10) sc__law_walk.nd rfl (by first | exact Or.inl rfl | exact Or.inr rfl)) pgs_nil)))) (fun _ _ _ _ _ => (pts_one (PW.pt (pw_and (pt_cmpR (u_eq (K := K) rfl hu64) (pv 9) (pe_ix (u_ix (K := K) rfl hu1) (pv 7) (pe_un un_neg pe_int) (fun _ _ => rfl)) (nomark _)) (pw_and1 (pt_cmpR (u_in (K := K) rfl hu65) (pv 10) (pv 5) (by rfl))))))) (fun _ _ _ _ _ => (pv 10)))
    (pss_cons (ps_if (pt_cmpR (u_eq0 (K := K) rfl hu64) (pv 8) (pe_lst pa_nil) (nomark _))
    (pss_one (ps_ret pe_non))
    pss_nil)
    (pss_one (ps_expr (u_bm (K := K) rfl PySem.F.plainAttrs_list PySem.F.slot_list_append PySem.F.type_list_append mt_append (pv 7) (pa_cons (pe_ix (u_ix (K := K) rfl hu1) (pv 8) (pe_cal (K := K) rfl C__law_draw (hr.mono (by decide)) (by rfl) (pa_cons (pv 0) (pa_cons (pe_callB (u_len (K := K) rfl) (by rfl) T.b_len (by decide +kernel) (pa_cons (pv 8) pa_nil)) pa_nil))) (fun _ _ => rfl)) pa_nil)))))))
    (pss_one (ps_ret (pv 7)))))))), fun ds g R hS => ?_⟩
  obtain ⟨o, es, here, goals, T, r, rfl, rfl, hp, hel, hgl, hTl, hT, hgT, hr, z1, z2⟩ := hS
  have und : ∀ {o : O} {t : List O}, IsPen o → ∀ x ∈ (o :: t).take 1, x.under 1 := fun h x hx => by
    cases hx with
    | head => exact h.under
    | tail _ q => cases q
  show ExS K _ [some _, some _, some _, some _, none, none, none, none, none, none, none] _ _
  refine xs_set (e_frzL (e_lcF swapF (gg_tup (gg_cons (gg_name (by decide)) (gg_cons (gg_name (by decide)) gg_nil mono_name) mono_name)) (e_var rfl ⟨pPy es, isq_list, by rw [pPy_len]; omega, fun d hd => ?_, 1, _, rfl, Nat.le_refl _, rfl, und hp, ?_⟩)))
  · obtain ⟨e, he, rfl⟩ := List.mem_map.mp hd
    refine g_tup rfl (g_cons (g_name (g_cons (g_name (g_nil (t_yes ?_))))))
    rw [if_pos rfl]
    exact e_tup (a_cons (e_var rfl (a_cons (e_var rfl (a_nil ⟨_, rfl, Nat.le_of_ble_eq_true rfl, _, rfl, rfl, rfl⟩)))))
  rw [swapF_eq]
  refine xs_set (e_lstF (a_nil ⟨[], rfl, Nat.le_of_ble_eq_true rfl, ?_⟩))
  show ExS K _ [some (.own 0), some (.f (.list (pPy es))), some (.f (.str here)), some (.f (.list (sPy goals))), some (.f (.list (pPy (es.map swapE)))), some (.f (.list (sPy []))), none, none, none, none, none] [o] _
  refine xs_forQ (e_var rfl ⟨sPy goals, isq_list, fun i ρ' l' => ∃ D a, ρ' = [some (.own 0), some (.f (.list (pPy es))), some (.f (.str here)), some (.f (.list (sPy goals))), some (.f (.list (pPy (es.map swapE)))), some (.f (.list (sPy D))), a, none, none, none, none] ∧ l' = [o] ∧ D.length ≤ 60 * i ∧ (∀ y, y ∈ D ↔ ∃ g ∈ goals.take i, GoesS es y g) ∧ UndS 1 [a], ⟨[], none, rfl, rfl, Nat.le_refl _, fun y => by simp, trivial⟩, fun _ _ _ _ _ => isq_list, ?_, ?_⟩)
  · rintro i d ρ' l' hd ⟨D, a, rfl, rfl, hDl, hD, _⟩
    obtain ⟨x, hx, rfl⟩ := sPy_get hd
    have hil := (List.getElem?_eq_some_iff.mp hx).1
    have hxT := hgT x (List.mem_of_getElem? hx)
    refine g_name (x_tidy 1 [] (Nat.le_refl _) ?_)
    refine x_set (e_op (e_var rfl (e_call0 (a_cons (e_var rfl (a_cons (e_var rfl (a_nil ⟨trivial, es.map swapE, x, rfl, rfl, by rw [List.length_map]; omega, fun xs hxs => ?_⟩))))))))
    have hxl : xs.length ≤ 60 := by
      have hsub : ∀ y ∈ xs, y ∈ T := fun y hy => by
        have g := (hxs.all y).mp hy
        have key : ∀ {a b : Str}, GoesS (es.map swapE) a b → a ∈ T → b ∈ T := fun h ha => by
          induction h with
          | refl => exact ha
          | tail _ h2 ih =>
            obtain ⟨e, he, q⟩ := List.mem_map.mp h2
            cases q
            exact (hT e he).1
        exact key g hxT
      have := nodup_le hxs.nd hsub
      omega
    refine o_addLF isl_list (isl_own (n := 1) rfl) (by rw [sPy_len, sPy_len]; omega) ?_
    rw [← sPy_app]
    refine ⟨by walk_at "v", ⟨hp.under, trivial⟩, D ++ xs, _, rfl, rfl, by rw [List.length_append]; omega, fun y => ?_, trivial, trivial⟩
    rw [L3.take_next hx, List.mem_append, hD, hxs.all]
    constructor
    · rintro (⟨g, h1, h2⟩ | h)
      · exact ⟨g, List.mem_append_left _ h1, h2⟩
      · exact ⟨x, List.mem_append_right _ (List.mem_singleton.mpr rfl), goesS_swap h⟩
    · rintro ⟨g, h1, h2⟩
      rcases List.mem_append.mp h1 with h1 | h1
      · exact .inl ⟨g, h1, h2⟩
      · rw [List.mem_singleton.mp h1] at h2
        exact .inr (goesS_swap' h2)
  rintro ρ' l' ⟨D, a, rfl, rfl, _, hD, _⟩
  rw [sPy_len, List.take_length] at hD
  refine xs_set (e_lst (a_cons (e_var rfl (a_nil ⟨[.str here], rfl, Nat.le_of_ble_eq_true rfl, ?_⟩))))
  show ExS K _ [some (.own 0), some (.f (.list (pPy es))), some (.f (.str here)), some (.f (.list (sPy goals))), some (.f (.list (pPy (es.map swapE)))), some (.f (.list (sPy D))), a, some (.own 1), none, none, none] [o, .lst (sPy ([] ++ [here]))] _
  refine xs_while (fun ρ' l' => ∃ o' q cur b, ρ' = [some (.own 0), some (.f (.list (pPy es))), some (.f (.str here)), some (.f (.list (sPy goals))), some (.f (.list (pPy (es.map swapE)))), some (.f (.list (sPy D))), a, some (.own 1), b, none, none] ∧ l' = [o', .lst (sPy (q ++ [cur]))] ∧ IsPen o' ∧ WalkTo es here goals D r q cur) (fun _ l' => 300 - lenI l' 1) ⟨o, [], here, none, rfl, rfl, hp, ⟨rfl, fun e he => by simp at he, fun v hv => by simp at hv, Nat.zero_le _, fun h => absurd rfl h⟩⟩ ?_
  rintro ρ' l' ⟨o1, q, cur, b, rfl, rfl, p1, W⟩
  have lq : (sPy (q ++ [cur])).length = q.length + 1 := by rw [sPy_len, List.length_append]; rfl
  have ql : q.length ≤ 100 ∨ q = [] := by
    by_cases c : q = []
    · exact .inr c
    · refine .inl ?_
      obtain ⟨q0, y, rfl⟩ : ∃ q0 y, q = q0 ++ [y] := by
        rcases List.eq_nil_or_concat q with h | ⟨q0, y, h⟩
        · exact absurd h c
        · exact ⟨q0, y, by rw [h, List.concat_eq_append]⟩
      have he : (y, cur) ∈ es := W.on _ (by
        have : ∀ (l : List Str) (u v : Str), (u, v) ∈ (l ++ [u] ++ [v]).zip (l ++ [u] ++ [v]).tail := fun l u v => by
          induction l with
          | nil => simp
          | cons w l ih => 
            cases l with
            | nil => simp
            | cons z l => exact List.mem_cons_of_mem _ ih
        exact this q0 y cur)
      have h100 : r cur ≤ 100 := (hr _ he).2
      have := W.rk
      omega
  have ql2 : q.length ≤ 100 := by rcases ql with h | h; exact h; rw [h]; exact Nat.zero_le _
  have gl : atI (sPy (q ++ [cur])) (-1) = some (.str cur) := atI_m1 (by rw [sPy_app]; show (sPy q ++ [PyData.str cur]).getLast? = _; simp)
  have go : cur ∉ goals ∨ q = [] → ∀ v, (cur, v) ∈ es → v ∈ D → WalkTo es here goals D r (q ++ [cur]) v := fun hcur v hv hvD => by
    refine ⟨?_, onW_snoc W.on hv, fun x hx => ?_, ?_, fun _ => hvD⟩
    · rw [List.head?_append, W.hd]
      rfl
    · cases q with
      | nil => simp at hx
      | cons y q =>
        have hx : x ∈ q ++ [cur] := hx
        rcases List.mem_append.mp hx with h | h
        · exact W.mid x h
        · rw [List.mem_singleton.mp h]
          exact hcur.elim id fun h => by cases h
    · have h1 : r cur < r v := (hr _ hv).1
      have := W.rk
      rw [List.length_append]
      show q.length + 1 ≤ _
      omega
  refine EvT.imp (R := fun b l1 => l1 = [o1, .lst (sPy (q ++ [cur]))] ∧ (b = true ↔ (cur ∉ goals ∨ q = []))) (t_or (t_test (e_op (e_op (e_var rfl (e_un (e_int (o_neg (o_ixQ (isq_own (n := 1) rfl) gl (e_var rfl (o_ninS isq_list ⟨_, rfl, ?_⟩))))))))))) ?_
  · refine nd_both (fun c => ⟨rfl, fun _ => .inl c, fun _ => rfl⟩) (fun c => ?_)
    refine t_test (e_op (e_cb (a_cons (e_var rfl (a_nil (c_lenQ (isq_own (n := 1) rfl) (e_int (o_eqI ⟨_, rfl, ?_⟩))))))))
    rw [lq]
    refine ⟨rfl, fun h => .inr ?_, fun h => ?_⟩
    · have := of_decide_eq_true h
      exact List.length_eq_zero_iff.mp (by omega)
    · rcases h with h | h
      · exact absurd c h
      · rw [h]; rfl
  rintro b' l1 ⟨rfl, hb⟩
  cases b' with
  | false =>
    have hn : cur ∈ goals ∧ q ≠ [] := by
      refine ⟨Classical.byContradiction fun h => ?_, fun h => ?_⟩
      · cases hb.mpr (.inl h)
      · cases hb.mpr (.inr h)
    exact x_ret (e_var rfl (Res.own (n := 1) rfl trivial nofun (Nat.le_refl _) (fun x hx => by cases hx with | head => exact p1.under | tail _ h => cases h) (z2 o1 q cur p1 ⟨W.hd, W.on, hn.2, hn.1, W.mid⟩)))
  | true =>
    have hcur := hb.mp rfl
    have go := go hcur
    have undo : ∀ x ∈ ([o1, .lst (sPy (q ++ [cur]))] : List O).take 2, x.under 2 := UndO.all ⟨p1.under, trivial, trivial⟩
    have nl : (nextL cur D es).length ≤ es.length := by unfold nextL; rw [List.length_map]; exact List.length_filter_le _ _
    refine xs_set (e_frzL (e_lcF (nextF cur D) (gg_tup (gg_cons (gg_name (by decide)) (gg_cons (gg_name (by decide)) gg_nil mono_name) mono_name)) (e_var rfl ⟨pPy es, isq_list, by rw [pPy_len]; omega, fun d hd => ?_, 2, _, rfl, Nat.le_refl _, rfl, undo, ?_⟩)))
    · obtain ⟨e, he, rfl⟩ := List.mem_map.mp hd
      refine g_tup rfl (g_cons (g_name (g_cons (g_name (g_nil ?_)))))
      refine t_and (t_test (e_op (e_var rfl (e_op (e_var rfl (e_un (e_int (o_neg (o_ixQ (isq_own (n := 1) rfl) gl (o_eqS ⟨_, rfl, ?_⟩))))))))))
      have e1 : nextF cur D (.tuple [.str e.1, .str e.2]) = if e.1 = cur ∧ e.2 ∈ D then some (.str e.2) else none := rfl
      refine d_both (fun c => ?_) (fun c => iteF ⟨e1.trans (if_neg fun q => c q.1), rfl⟩)
      refine t_test (e_op (e_var rfl (e_var rfl (o_inQS isq_list ⟨_, rfl, ?_⟩))))
      rw [if_neg Bool.false_ne_true]
      exact d_both (fun c2 => e_var rfl ⟨_, rfl, e1.trans (if_pos ⟨c, c2⟩), rfl⟩) (fun c2 => ⟨e1.trans (if_neg fun q => c2 q.2), rfl⟩)
    rw [nextF_eq]
    refine xs_gateC (nextL cur D es ≠ []) (t_test (e_op (e_var rfl (e_lstF (a_nil ⟨[], rfl, Nat.le_of_ble_eq_true rfl, o_nil isl_list ⟨_, rfl, ?_⟩⟩))))) fun hne => ?_
    · rw [if_neg Bool.false_ne_true]
      cases hnl : nextL cur D es with
      | cons y ys => exact ⟨rfl, by simp⟩
      | nil =>
        refine x_ret (e_non (Res.dat (fun x hx => by cases hx with | head => exact p1.under | tail _ h => cases h) (z1 (fun ⟨h1, g, h2, h3⟩ => ?_) o1 p1)))
        have fin : ∀ g ∈ goals, GoesS es cur g → cur ∉ goals → False := fun g hg hgo hcn => by
          rcases goesS_head hgo with rfl | ⟨v, h5, h6⟩
          · exact hcn hg
          · have : v ∈ nextL cur D es := mem_nextL.mpr ⟨h5, (hD v).mpr ⟨g, hg, h6⟩⟩
            rw [hnl] at this
            cases this
        by_cases c : q = []
        · have : here = cur := by
            have := W.hd
            rw [c] at this
            exact (Option.some.inj this).symm
          subst this
          exact fin g h2 h3 h1
        · obtain ⟨g', h5, h6⟩ := (hD cur).mp (W.rch c)
          exact fin g' h5 h6 (hcur.elim id fun h => absurd h c)
    have hpos : 0 < (nextL cur D es).length := List.length_pos_iff.mpr hne
    refine x_drop (e_bmL (e_var rfl ⟨⟨_, isl_own (n := 1) rfl⟩, a_cons (e_op (e_var rfl (e_draw 0 (a_cons (e_var rfl (a_cons (e_cb (a_cons (e_var rfl (a_nil (c_lenQ isq_list (a_nil ⟨_, o1, rfl, rfl, p1, by rw [sPy_len]; omega, by rw [sPy_len]; omega, fun k o2 a2 b2 p2 => ?_⟩))))))))))))⟩))
    rw [sPy_len] at b2
    obtain ⟨v, gv, ev⟩ : ∃ x, (nextL cur D es)[k.toNat]? = some x ∧ atI (sPy (nextL cur D es)) k = some (.str x) := by
      obtain ⟨j, rfl⟩ := Int.eq_ofNat_of_zero_le a2
      have hj : j < (nextL cur D es).length := by omega
      refine ⟨(nextL cur D es)[j], by simp [hj], atI_nat ?_⟩
      exact sPy_get_of (List.getElem?_eq_getElem hj)
    obtain ⟨hv1, hv2⟩ := mem_nextL.mp (List.mem_of_getElem? gv)
    refine o_ixQ isq_list ev (a_nil (m_append (n := 1) rfl (by rw [lq]; omega) ?_))
    refine ⟨⟨o2, q ++ [cur], v, _, rfl, by rw [sPy_app (q ++ [cur])]; rfl, p2, go v hv1 hv2⟩, ?_⟩
    show 300 - (sPy (q ++ [cur]) ++ [PyData.str v]).length < 300 - (sPy (q ++ [cur])).length
    rw [List.length_append, lq]
    simp only [List.length_cons, List.length_nil]
    omega
/-- the first n steps along a way -/
structure Along (ks : Knots) (ts ws : Ties) (k : Str) (p : List Str) (ss : List Step3) (n : Nat) : Prop where
  len : ss.length = n
  at_ : ∀ (i : Nat) t, ss[i]? = some t → ∃ x y, p[i]? = some x ∧ p[i + 1]? = some y ∧ t ∈ stepsF ks ts ws k x y
def S__law_along : Spec3 := fun ds g R => ∃ (o : O) (ks : Knots) (us : List Str) (ts wt ws : Ties) (k : Str) (p : List Str) (row : PyData), ds = [.own 0, .f (houseD ks ts wt ws), .f (.str k), .f row] ∧ g = [o] ∧ IsPen o ∧ (row = .list (sPy p) ∨ row = .tuple (sPy p)) ∧ p ≠ [] ∧ p.length ≤ 200 ∧ Hs ks us ts ws ∧ PyData.strOk k = true ∧ OnW (edgesF ks ts ws k) p ∧
  ∀ o' ss, IsPen o' → Along ks ts ws k p ss (p.length - 1) → R (.own 1) [o', .lst (s3Py ss)]
abbrev s__law_along : Stmt := top 32
theorem sc__law_along : FnScope ["_law_pen_here", "_law_house_here", "_law_knot", "_law_row", "_law_found", "_law_here", "_law_there", "_law_some"] ["_law_pen_here", "_law_house_here", "_law_knot", "_law_row"] (defScope s__law_along) := ⟨rfl, rfl, rfl, by decide +kernel, rfl, by decide +kernel, by decide +kernel⟩
set_option maxHeartbeats 4000000 in
theorem ok__law_along (T : Bi K mg) (Df : DefAt K mg "_law_along" s__law_along ["_law_pen_here", "_law_house_here", "_law_knot", "_law_row"]) (C__law_draw : Cal P w K mg base 1 "_law_draw" ["_law_pen_here", "_law_most"] S__law_draw) (C__law_steps : Cal P w K mg base 3 "_law_steps" ["_law_house_here", "_law_knot", "_law_here", "_law_there"] S__law_steps) : Cal P w K mg base 4 "_law_along" ["_law_pen_here", "_law_house_here", "_law_knot", "_law_row"] S__law_along := by
  refine ok4 Df sc__law_along (fun ds g R h0 => by obtain ⟨_, _, _, _, _, _, _, _, _, h, _⟩ := h0; rw [h]; rfl) (fun cdv A outer s H E f hr => ?_)
  have hu1 := hu_of hr.r
  have hu64 := hr.units
  have hu65 : (A.deeper (PyProof.Rows.envOfC "_law_along" (defScope s__law_along) s.heap.objs.size f cdv)).units + 65 < cLine := by have := hr.un; omega
  refine ⟨_, (pss_cons (ps_set (i := 4) sc__law_along.nd rfl (by first | exact Or.inl rfl | exact Or.inr rfl) (pe_lst pa_nil))
    (pss_cons (ps_for PassesOwn.never rfl (u_zipA (K := K) rfl (by rfl) T.b_zip (pa_cons (pv 3) (pa_cons (pe_slice (u_sl (K := K) rfl) (pv 3) (po_some pe_int) po_none) pa_nil))) (u_tup (K := K) (n := 2) rfl (by rfl) (pgs_cons (pg_name (i := 5) sc__law_along.nd rfl (by first | exact Or.inl rfl | exact Or.inr rfl)) (pgs_cons (pg_name (i := 6) sc__law_along.nd rfl (by first | exact Or.inl rfl | exact Or.inr rfl)) pgs_nil)))
    (pss_cons (ps_set (i := 7) sc__law_along.nd rfl (by first | exact Or.inl rfl | exact Or.inr rfl) (pe_cal (K := K) rfl C__law_steps (hr.mono (by decide)) (by rfl) (pa_cons (pv 1) (pa_cons (pv 2) (pa_cons (pv 5) (pa_cons (pv 6) pa_nil))))))
    (pss_one (ps_expr (u_bm (K := K) rfl PySem.F.plainAttrs_list PySem.F.slot_list_append PySem.F.type_list_append mt_append (pv 4) (pa_cons (pe_ix (u_ix (K := K) rfl hu1) (pv 7) (pe_cal (K := K) rfl C__law_draw (hr.mono (by decide)) (by rfl) (pa_cons (pv 0) (pa_cons (pe_callB (u_len (K := K) rfl) (by rfl) T.b_len (by decide +kernel) (pa_cons (pv 7) pa_nil)) pa_nil))) (fun _ _ => rfl)) pa_nil))))))
    (pss_one (ps_ret (pv 4))))), fun ds g R hS => ?_⟩
  obtain ⟨o, ks, us, ts, wt, ws, k, p, row, rfl, rfl, hp, hrow, hpn, hpl, hH, hk, hon, z⟩ := hS
  show ExS K _ [some _, some _, some _, some _, none, none, none, none] _ _
  refine xs_set (e_lst (a_nil ⟨[], rfl, by decide, ?_⟩))
  have hpp : 0 < p.length := List.length_pos_iff.mpr hpn
  rcases hrow with rfl | rfl
  · refine xs_mid (fun ρ' l' => ∃ a b c o' ss, ρ' = [some (.own 0), some (.f (houseD ks ts wt ws)), some (.f (.str k)), some (.f (.list (sPy p))), some (.own 1), a, b, c] ∧ l' = [o', .lst (s3Py ss)] ∧ IsPen o' ∧ Along ks ts ws k p ss (p.length - 1)) ?_ ?_
    · refine x_for (i_zipAL (a_cons (e_var rfl (a_cons (e_sl (e_var rfl (o_some (e_int ⟨1, rfl, o_none (s_listF isl_list ?_)⟩))))))))
      rw [cut_tail, sPy_tail]
      refine a_nil ⟨_, _, sPy p, sPy p.tail, rfl, .inl ⟨isl_list, isl_list, fun i ρ' l' => ∃ a b c o' ss, ρ' = [some (.own 0), some (.f (houseD ks ts wt ws)), some (.f (.str k)), some (.f (.list (sPy p))), some (.own 1), a, b, c] ∧ l' = [o', .lst (s3Py ss)] ∧ IsPen o' ∧ Along ks ts ws k p ss i, ⟨none, none, none, o, [], rfl, rfl, hp, ⟨rfl, nofun⟩⟩, ?_, ?_, ?_⟩⟩
      · rintro i ρ' l' hi ⟨a, b, c, o', ss, rfl, rfl, hp', hA⟩
        exact ⟨isl_list, isl_list⟩
      · rintro i ρ' l' hi ⟨a, b, c, o', ss, rfl, rfl, hp', hA⟩
        have hi1 : i + 1 < p.length := by rw [sPy_len, sPy_len, List.length_tail] at hi; omega
        have gx : p[i]? = some p[i] := List.getElem?_eq_getElem (by omega)
        have gy : p[i + 1]? = some p[i + 1] := List.getElem?_eq_getElem hi1
        generalize p[i] = x at gx
        generalize p[i + 1] = y at gy
        have gy2 : p.tail[i]? = some y := by rw [List.getElem?_tail]; exact gy
        have w1 : (sPy p).getD i .none = .str x := by rw [List.getD_eq_getElem?_getD, sPy_get_of gx]; rfl
        have w2 : (sPy p.tail).getD i .none = .str y := by rw [List.getD_eq_getElem?_getD, sPy_get_of gy2]; rfl
        show AsS K _ (.f (zipD (sPy p) (sPy p.tail) i)) _ _ _
        unfold zipD
        rw [w1, w2]
        have he : (x, y) ∈ edgesF ks ts ws k := hon _ (List.mem_of_getElem? (i := i) (List.getElem?_zip_eq_some.mpr ⟨gx, gy2⟩))
        obtain ⟨kx, ky, hne⟩ := edges_kids hH.tree hH.pa _ he
        have htl := hH.tl
        have hwl := hH.wl
        have hsl := stepsF_len (ks := ks) (ts := ts) (ws := ws) (k := k) (x := x) (y := y)
        have hpos : 0 < (stepsF ks ts ws k x y).length := List.length_pos_iff.mpr (stepsF_some he)
        refine g_tup rfl (g_cons (g_name (g_cons (g_name (g_nil ?_)))))
        refine xs_set (e_call0 (a_cons (e_var rfl (a_cons (e_var rfl (a_cons (e_var rfl (a_cons (e_var rfl (a_nil ⟨trivial, ks, us, ts, wt, ws, k, x, y, rfl, rfl, hH, hk, hH.tree.kid kx, hH.tree.kid ky, ?_⟩))))))))))
        refine x_drop (e_bmL (e_var rfl ⟨⟨_, isl_own (n := 1) rfl⟩, a_cons (e_op (e_var rfl (e_draw 0 (a_cons (e_var rfl (a_cons (e_cb (a_cons (e_var rfl (a_nil (c_lenQ isq_list (a_nil ⟨_, o', rfl, rfl, hp', by rw [s3Py_len]; omega, by rw [s3Py_len]; omega, fun r o2 a2 b2 p2 => ?_⟩))))))))))))⟩))
        rw [s3Py_len] at b2
        obtain ⟨j, rfl⟩ := Int.eq_ofNat_of_zero_le a2
        have hj : j < (stepsF ks ts ws k x y).length := by omega
        have gt : (stepsF ks ts ws k x y)[j]? = some (stepsF ks ts ws k x y)[j] := List.getElem?_eq_getElem hj
        generalize (stepsF ks ts ws k x y)[j] = t at gt
        have gt2 : atI (s3Py (stepsF ks ts ws k x y)) (j : Nat) = some (s3D t) := atI_nat (by unfold s3Py; rw [List.getElem?_map, gt]; rfl)
        have hln := hA.len
        refine o_ixQ isq_list gt2 (a_nil (m_append (n := 1) rfl (by rw [s3Py_len]; omega) ?_))
        refine ⟨_, _, _, o2, ss ++ [t], rfl, by rw [s3Py_app]; rfl, p2, ⟨by rw [List.length_append, hln]; rfl, fun j' t' ht' => ?_⟩⟩
        by_cases c : j' < ss.length
        · rw [List.getElem?_append_left c] at ht'
          exact hA.at_ j' t' ht'
        · have hl := (List.getElem?_eq_some_iff.mp ht').1
          rw [List.length_append] at hl
          have ej : j' = i := by have : j' < ss.length + 1 := hl; omega
          subst ej
          rw [List.getElem?_append_right (by omega), hln, Nat.sub_self] at ht'
          cases ht'
          exact ⟨x, y, gx, gy, List.mem_of_getElem? gt⟩
      · rintro ρ' l' ⟨a, b, c, o', ss, rfl, rfl, hp', hA⟩
        have e0 : min (sPy p).length (sPy p.tail).length = p.length - 1 := by rw [sPy_len, sPy_len, List.length_tail]; omega
        rw [e0] at hA
        exact ⟨_, _, _, _, ss, rfl, rfl, hp', hA⟩
    rintro ρ' l' ⟨a, b, c, o', ss, rfl, rfl, hp', hA⟩
    exact x_ret (e_var rfl (Res.own (n := 1) rfl trivial nofun (Nat.le_refl _) (fun x hx => by cases hx with | head => exact hp'.under | tail _ h => cases h) (z o' ss hp' hA)))
  · refine xs_mid (fun ρ' l' => ∃ a b c o' ss, ρ' = [some (.own 0), some (.f (houseD ks ts wt ws)), some (.f (.str k)), some (.f (.tuple (sPy p))), some (.own 1), a, b, c] ∧ l' = [o', .lst (s3Py ss)] ∧ IsPen o' ∧ Along ks ts ws k p ss (p.length - 1)) ?_ ?_
    · refine x_for (i_zipAL (a_cons (e_var rfl (a_cons (e_sl (e_var rfl (o_some (e_int ⟨1, rfl, o_none (s_tup (fun h => by have h1 : min 1 (sPy p).length = 0 := h.1; rw [sPy_len] at h1; omega) ?_)⟩))))))))
      rw [cut_tail, sPy_tail]
      refine a_nil ⟨_, _, sPy p, sPy p.tail, rfl, .inr ⟨rfl, rfl, fun i ρ' l' => ∃ a b c o' ss, ρ' = [some (.own 0), some (.f (houseD ks ts wt ws)), some (.f (.str k)), some (.f (.tuple (sPy p))), some (.own 1), a, b, c] ∧ l' = [o', .lst (s3Py ss)] ∧ IsPen o' ∧ Along ks ts ws k p ss i, ⟨none, none, none, o, [], rfl, rfl, hp, ⟨rfl, nofun⟩⟩, ?_, ?_, ?_⟩⟩
      · rintro i ρ' l' hi ⟨a, b, c, o', ss, rfl, rfl, hp', hA⟩
        exact trivial
      · rintro i ρ' l' hi ⟨a, b, c, o', ss, rfl, rfl, hp', hA⟩
        have hi1 : i + 1 < p.length := by rw [sPy_len, sPy_len, List.length_tail] at hi; omega
        have gx : p[i]? = some p[i] := List.getElem?_eq_getElem (by omega)
        have gy : p[i + 1]? = some p[i + 1] := List.getElem?_eq_getElem hi1
        generalize p[i] = x at gx
        generalize p[i + 1] = y at gy
        have gy2 : p.tail[i]? = some y := by rw [List.getElem?_tail]; exact gy
        have w1 : (sPy p).getD i .none = .str x := by rw [List.getD_eq_getElem?_getD, sPy_get_of gx]; rfl
        have w2 : (sPy p.tail).getD i .none = .str y := by rw [List.getD_eq_getElem?_getD, sPy_get_of gy2]; rfl
        show AsS K _ (.f (zipD (sPy p) (sPy p.tail) i)) _ _ _
        unfold zipD
        rw [w1, w2]
        have he : (x, y) ∈ edgesF ks ts ws k := hon _ (List.mem_of_getElem? (i := i) (List.getElem?_zip_eq_some.mpr ⟨gx, gy2⟩))
        obtain ⟨kx, ky, hne⟩ := edges_kids hH.tree hH.pa _ he
        have htl := hH.tl
        have hwl := hH.wl
        have hsl := stepsF_len (ks := ks) (ts := ts) (ws := ws) (k := k) (x := x) (y := y)
        have hpos : 0 < (stepsF ks ts ws k x y).length := List.length_pos_iff.mpr (stepsF_some he)
        refine g_tup rfl (g_cons (g_name (g_cons (g_name (g_nil ?_)))))
        refine xs_set (e_call0 (a_cons (e_var rfl (a_cons (e_var rfl (a_cons (e_var rfl (a_cons (e_var rfl (a_nil ⟨trivial, ks, us, ts, wt, ws, k, x, y, rfl, rfl, hH, hk, hH.tree.kid kx, hH.tree.kid ky, ?_⟩))))))))))
        refine x_drop (e_bmL (e_var rfl ⟨⟨_, isl_own (n := 1) rfl⟩, a_cons (e_op (e_var rfl (e_draw 0 (a_cons (e_var rfl (a_cons (e_cb (a_cons (e_var rfl (a_nil (c_lenQ isq_list (a_nil ⟨_, o', rfl, rfl, hp', by rw [s3Py_len]; omega, by rw [s3Py_len]; omega, fun r o2 a2 b2 p2 => ?_⟩))))))))))))⟩))
        rw [s3Py_len] at b2
        obtain ⟨j, rfl⟩ := Int.eq_ofNat_of_zero_le a2
        have hj : j < (stepsF ks ts ws k x y).length := by omega
        have gt : (stepsF ks ts ws k x y)[j]? = some (stepsF ks ts ws k x y)[j] := List.getElem?_eq_getElem hj
        generalize (stepsF ks ts ws k x y)[j] = t at gt
        have gt2 : atI (s3Py (stepsF ks ts ws k x y)) (j : Nat) = some (s3D t) := atI_nat (by unfold s3Py; rw [List.getElem?_map, gt]; rfl)
        have hln := hA.len
        refine o_ixQ isq_list gt2 (a_nil (m_append (n := 1) rfl (by rw [s3Py_len]; omega) ?_))
        refine ⟨_, _, _, o2, ss ++ [t], rfl, by rw [s3Py_app]; rfl, p2, ⟨by rw [List.length_append, hln]; rfl, fun j' t' ht' => ?_⟩⟩
        by_cases c : j' < ss.length
        · rw [List.getElem?_append_left c] at ht'
          exact hA.at_ j' t' ht'
        · have hl := (List.getElem?_eq_some_iff.mp ht').1
          rw [List.length_append] at hl
          have ej : j' = i := by have : j' < ss.length + 1 := hl; omega
          subst ej
          rw [List.getElem?_append_right (by omega), hln, Nat.sub_self] at ht'
          cases ht'
          exact ⟨x, y, gx, gy, List.mem_of_getElem? gt⟩
      · rintro ρ' l' ⟨a, b, c, o', ss, rfl, rfl, hp', hA⟩
        have e0 : min (sPy p).length (sPy p.tail).length = p.length - 1 := by rw [sPy_len, sPy_len, List.length_tail]; omega
        rw [e0] at hA
        exact ⟨_, _, _, _, ss, rfl, rfl, hp', hA⟩
    rintro ρ' l' ⟨a, b, c, o', ss, rfl, rfl, hp', hA⟩
    exact x_ret (e_var rfl (Res.own (n := 1) rfl trivial nofun (Nat.le_refl _) (fun x hx => by cases hx with | head => exact hp'.under | tail _ h => cases h) (z o' ss hp' hA)))
section
variable {ks : Knots} {us : List Str} {ts wt ws : Ties} {k : Str}
theorem kids_at (hB : TreeB ks us) {p : Str × List Str} (hp : p ∈ ks) : kids ks p.1 = p.2 := kids_of hB.names hp
theorem wne1 : ("first" : Str) ≠ "last" := by decide
/-- all ties of a view go forward -/
theorem edges_fw (h : HouseOk ks us ts wt ws) : ∀ e ∈ edgesF ks ts ws k, (kids ks k).idxOf e.1 < (kids ks k).idxOf e.2 := by
  rintro ⟨x, y⟩ he
  have hB := h.tree
  have one : ∀ {p : Str × List Str} {v : Str}, p ∈ ks → v ∈ p.2 → v ∈ kids ks k → kids ks k = p.2 := fun {p v} hp hv hk => by
    have h1 := (mem_kids hB.names).mp hk
    have h2 : Stands ks v p.1 := ⟨p.2, hp, hv⟩
    obtain ⟨_, _, T, _⟩ := id hB
    rw [T.one _ _ _ h1 h2]
    exact kids_at hB hp
  rcases mem_edges.mp he with h1 | h1 | h1
  · obtain ⟨e, he, h2⟩ := mem_tieE.mp h1
    exact h.ties.fw e he k x y h2
  · obtain ⟨hne, hx, hy, hm⟩ := mem_wantE.mp h1
    rw [if_neg (by decide)] at hm
    rcases h.wants.ok _ hm with ⟨_, p, hp, e⟩ | ⟨e, _⟩
    · have ek := one hp (List.mem_of_mem_head? e) hx
      rw [ek]
      rw [ek] at hy
      show p.2.idxOf x < p.2.idxOf y
      cases q : p.2 with
      | nil => rw [q] at e; cases e
      | cons a r =>
        rw [q] at e hy
        cases e
        have h0 : (x == y) = false := by simpa using hne
        rw [List.idxOf_cons_self, List.idxOf_cons, h0]
        exact Nat.succ_pos _
    · exact absurd e wne1
  · obtain ⟨hne, hx, hy, hm⟩ := mem_wantE.mp h1
    rw [if_pos rfl] at hm
    rcases h.wants.ok _ hm with ⟨e, _⟩ | ⟨_, p, hp, e, _⟩
    · exact absurd e wne1.symm
    · have ek := one hp (List.mem_of_mem_getLast? e) hy
      have hn := hB.kidsNd k
      rw [ek] at hn hx ⊢
      obtain ⟨r, er⟩ := List.getLast?_eq_some_iff.mp e
      have er : p.2 = r ++ [y] := er
      show p.2.idxOf x < p.2.idxOf y
      rw [er] at hn hx ⊢
      have hxr : x ∈ r := by
        rcases List.mem_append.mp hx with q | q
        · exact q
        · exact absurd (List.mem_singleton.mp q) hne
      have hyr : y ∉ r := fun q => (List.nodup_append.mp hn).2.2 y q y (List.mem_singleton.mpr rfl) rfl
      rw [List.idxOf_append, List.idxOf_append, if_pos hxr, if_neg hyr]
      have := List.idxOf_lt_length_of_mem hxr
      omega
end
theorem onW_cons {E : Ties} {a b : Str} {r : List Str} : OnW E (a :: b :: r) ↔ (a, b) ∈ E ∧ OnW E (b :: r) := by
  unfold OnW
  constructor
  · intro h
    exact ⟨h (a, b) (by simp), fun e he => h e (by simp only [List.tail_cons, List.zip_cons_cons]; exact List.mem_cons_of_mem _ (by simpa using he))⟩
  · rintro ⟨h1, h2⟩ e he
    simp only [List.tail_cons, List.zip_cons_cons] at he
    rcases List.mem_cons.mp he with rfl | he
    · exact h1
    · exact h2 e (by simpa using he)
theorem onW_rise {E : Ties} {f : Str → Nat} (hf : ∀ e ∈ E, f e.1 < f e.2) : ∀ {p : List Str}, OnW E p → p.Pairwise fun a b => f a < f b
  | [], _ => .nil
  | [a], _ => List.pairwise_singleton _ _
  | a :: b :: r, h => by
    obtain ⟨h1, h2⟩ := onW_cons.mp h
    have ih := onW_rise hf h2
    have hab : f a < f b := hf _ h1
    refine List.pairwise_cons.mpr ⟨fun c hc => ?_, ih⟩
    rcases List.mem_cons.mp hc with rfl | hc
    · exact hab
    · have := (List.pairwise_cons.mp ih).1 c hc
      omega
theorem onW_in {E : Ties} {S : List Str} (hE : ∀ e ∈ E, e.1 ∈ S ∧ e.2 ∈ S) {q : List Str} {cur : Str} (on : OnW E (q ++ [cur])) (hc : cur ∈ S) : ∀ v ∈ q ++ [cur], v ∈ S := fun v hv => by
  obtain ⟨i, hi⟩ := List.getElem?_of_mem hv
  have hil := (List.getElem?_eq_some_iff.mp hi).1
  rw [List.length_append] at hil
  have h1 : ([cur] : List Str).length = 1 := rfl
  by_cases c : i + 1 < (q ++ [cur]).length
  · have he : (v, (q ++ [cur])[i + 1]) ∈ E := on _ (List.mem_of_getElem? (i := i) (List.getElem?_zip_eq_some.mpr ⟨hi, by rw [List.getElem?_tail]; exact List.getElem?_eq_getElem c⟩))
    exact (hE _ he).1
  · rw [List.length_append] at c
    have e1 : i = q.length := by omega
    subst e1
    rw [List.getElem?_append_right (Nat.le_refl _), Nat.sub_self] at hi
    cases hi
    exact hc
theorem rise_nodup {f : Str → Nat} {p : List Str} (h : p.Pairwise fun a b => f a < f b) : p.Nodup := h.imp fun h e => by subst e; omega
section
variable {ks : Knots} {us : List Str} {ts ws : Ties} {k : Str} {p : List Str} {ss : List Step3}
theorem Along.step (hA : Along ks ts ws k p ss (p.length - 1)) {i : Nat} {t : Step3} (h : ss[i]? = some t) : ∃ x y, (p.zip p.tail)[i]? = some (x, y) ∧ t ∈ stepsF ks ts ws k x y := by
  obtain ⟨x, y, h1, h2, h3⟩ := hA.at_ i t h
  exact ⟨x, y, List.getElem?_zip_eq_some.mpr ⟨h1, by rw [List.getElem?_tail]; exact h2⟩, h3⟩
theorem Along.ends (hB : TreeB ks us) (hP : Parted ks us ts) (hon : OnW (edgesF ks ts ws k) p) (hA : Along ks ts ws k p ss (p.length - 1)) : ss.map (endsF ks ts ws) = (alongE k p).map some := by
  apply List.ext_getElem?
  intro i
  rw [List.getElem?_map, List.getElem?_map]
  cases h : ss[i]? with
  | none =>
    have h1 := List.getElem?_eq_none_iff.mp h
    have hl := hA.len
    have h2 : (alongE k p)[i]? = none := List.getElem?_eq_none_iff.mpr (by rw [alongE_len]; omega)
    rw [h2]; rfl
  | some t =>
    obtain ⟨x, y, h1, h2⟩ := hA.step h
    obtain ⟨e1, e2, e3⟩ := edges_kids hB hP _ (hon _ (List.mem_of_getElem? h1))
    have h3 : (alongE k p)[i]? = some (k, x, y) := by
      unfold alongE
      rw [List.getElem?_map, h1]
      rfl
    rw [h3]
    show some (endsF ks ts ws t) = some (some (k, x, y))
    rw [stepsF_ends hB e1 e2 e3 h2]
theorem Along.inn (hB : TreeB ks us) (hP : Parted ks us ts) (hon : OnW (edgesF ks ts ws k) p) (hA : Along ks ts ws k p ss (p.length - 1)) : StepsIn us ss := fun t ht => by
  obtain ⟨i, hi⟩ := List.getElem?_of_mem ht
  obtain ⟨x, y, h1, h2⟩ := hA.step hi
  obtain ⟨e1, e2, _⟩ := edges_kids hB hP _ (hon _ (List.mem_of_getElem? h1))
  exact stepsF_in hP (hB.kid e1) (hB.kid e2) h2
end
/-- what goes on has no gap, and begins nowhere twice -/
theorem go_none {os : List (Option Step3)} (h : none ∈ os) : goOnB os = false := by
  cases e : goOnB os with
  | false => rfl
  | true =>
    obtain ⟨es, rfl, _⟩ := goOnB_some e
    obtain ⟨x, _, hx⟩ := List.mem_map.mp h
    cases hx
theorem go_twice {f : Step3} {r : List (Option Step3)} : goOnB (some f :: some f :: r) = false := by
  cases e : goOnB (some f :: some f :: r) with
  | false => rfl
  | true =>
    obtain ⟨es, he, G⟩ := goOnB_some e
    match es, he, G with
    | a :: b :: es, he, G =>
      rw [List.map_cons, List.map_cons] at he
      injection he with h1 h2
      injection h2 with h2 _
      cases h1; cases h2
      have := G.nd
      rw [List.map_cons, List.map_cons, List.nodup_cons] at this
      exact absurd List.mem_cons_self this.1
    | [], he, _ => cases he
    | [_], he, _ => cases he
theorem round_no {os : List (Option Step3)} (h : goOnB os = false) : goRoundB os = false := by
  unfold goRoundB
  rw [h]; rfl
/-- the way that comes back is a ring -/
theorem walk_round {E : Ties} {k x y : Str} {q : List Str} (f : Str → Nat) (hf : ∀ e ∈ E, f e.1 < f e.2) (hd : (q ++ [x]).head? = some y) (on : OnW E (q ++ [x])) (ne : q ≠ []) : goRoundB (some (k, x, y) :: (alongE k (q ++ [x])).map some) = true := by
  obtain ⟨c, r, rfl⟩ : ∃ c r, q = c :: r := by
    cases q with
    | nil => exact absurd rfl ne
    | cons c r => exact ⟨c, r, rfl⟩
  obtain rfl : c = y := Option.some.inj hd
  have nd := rise_nodup (onW_rise hf on)
  have e : some (k, x, c) :: (alongE k (c :: r ++ [x])).map some = (alongE k (x :: (c :: r ++ [x]))).map some := rfl
  rw [e]
  refine round_of (x := x) (by simp) ?_ rfl (by rw [show (x :: (c :: r ++ [x])) = (x :: c :: r) ++ [x] from rfl]; exact List.getLast?_concat ..)
  rw [show (x :: (c :: r ++ [x])) = (x :: c :: r) ++ [x] from rfl, List.dropLast_concat]
  obtain ⟨h1, _, h3⟩ := List.nodup_append.mp nd
  exact List.nodup_cons.mpr ⟨fun h => h3 x h x (List.mem_singleton.mpr rfl) rfl, h1⟩
section
variable {ks : Knots} {us : List Str} {ts wt ws : Ties} {k : Str}
theorem tie44 (h : HouseOk ks us ts wt ws) {a b x y : Str} (ha : a ∈ us) (hb : b ∈ us) (hp : partF ks a b = some (k, x, y)) {q : List Str} {ss : List Step3} (hd : (q ++ [x]).head? = some y) (on : OnW (edgesF ks ts ws k) (q ++ [x])) (ne : q ≠ []) (hA : Along ks ts ws k (q ++ [x]) ss ((q ++ [x]).length - 1)) :
    tieRingB ks ts ws a b ((("tie", a, b) : Step3) :: ss) = true ∧ tieRingB ks ts ws a b ((("tie", a, b) : Step3) :: ss).reverse = false ∧ tieRingB ks ts ws a b ss = false ∧ tieRingB ks ts ws a b ((("tie", a, b) : Step3) :: (("tie", a, b) : Step3) :: ss) = false := by
  have hB := h.tree
  have hxy := (hB.part ha hb hp).2.2
  have fw := edges_fw h (k := k)
  have no : ∀ v w : Str, (("tie", a, b) : Step3) ∈ stepsF ks ts ws k v w → v = x ∧ w = y := fun v w ht => by
    rcases mem_stepsF.mp ht with ⟨e, h1, h2, h3⟩ | ⟨_, h3⟩ | ⟨_, h3⟩
    · injection h3 with _ h3
      injection h3 with h4 h5
      rw [← h4, ← h5, hp] at h2
      cases h2
      exact ⟨rfl, rfl⟩
    · injection h3 with h3 _
      exact absurd h3 (by decide)
    · injection h3 with h3 _
      exact absurd h3 (by decide)
  have hlen := hA.len
  rw [List.length_append] at hlen
  have hq : 0 < q.length := List.length_pos_iff.mpr ne
  have hsl : 0 < ss.length := by rw [hlen]; show 0 < q.length + 1 - 1; omega
  have ends := hA.ends hB h.ties.pa on
  refine ⟨?_, ?_, ?_, ?_⟩
  · unfold tieRingB
    rw [List.tail_cons, ends, hp, walk_round (fun v => (kids ks k).idxOf v) fw hd on ne]
    simp
  · have hl : ss[ss.length - 1]? = some ss[ss.length - 1] := List.getElem?_eq_getElem (by omega)
    generalize ss[ss.length - 1] = t at hl
    obtain ⟨v, w, h1, h2⟩ := hA.step hl
    unfold tieRingB
    have hh : ((("tie", a, b) : Step3) :: ss).reverse.head? = some t := by
      rw [List.reverse_cons, List.head?_append, List.head?_reverse, List.getLast?_eq_getElem?, hl]
      rfl
    have : ¬ some t = some (("tie", a, b) : Step3) := fun e => by
      cases e
      obtain ⟨rfl, rfl⟩ := no v w h2
      -- the last step ends at x
      obtain ⟨_, h4⟩ := List.getElem?_zip_eq_some.mp h1
      rw [List.getElem?_tail, hlen] at h4
      have h5 : (q ++ [v])[q.length + 1 - 1 - 1 + 1]? = some v := by
        rw [show q.length + 1 - 1 - 1 + 1 = q.length by omega, List.getElem?_append_right (Nat.le_refl _), Nat.sub_self]
        rfl
      have h6 : ([v] : List Str).length = 1 := rfl
      rw [h6] at h4
      rw [h5] at h4
      exact hxy (Option.some.inj h4)
    rw [hh, decide_eq_false this]
    rfl
  · have hl : ss[0]? = some ss[0] := List.getElem?_eq_getElem hsl
    generalize ss[0] = t at hl
    obtain ⟨v, w, h1, h2⟩ := hA.step hl
    unfold tieRingB
    have : ¬ ss.head? = some (("tie", a, b) : Step3) := fun e => by
      rw [List.head?_eq_getElem?, hl] at e
      cases e
      obtain ⟨rfl, rfl⟩ := no v w h2
      obtain ⟨h3, _⟩ := List.getElem?_zip_eq_some.mp h1
      rw [← List.head?_eq_getElem?, hd] at h3
      exact hxy (Option.some.inj h3).symm
    rw [decide_eq_false this]
    rfl
  · unfold tieRingB
    rw [List.tail_cons, List.map_cons, hp]
    have : goRoundB (some (k, x, y) :: endsF ks ts ws (("tie", a, b) : Step3) :: ss.map (endsF ks ts ws)) = false := by
      refine round_no ?_
      unfold endsF
      rw [if_pos rfl]
      split
      · rw [show partF ks (("tie", a, b) : Step3).2.1 (("tie", a, b) : Step3).2.2 = some (k, x, y) from hp]
        exact go_twice
      · exact go_none (by simp)
    rw [this, Bool.and_false]
end
section
variable {ks : Knots} {us : List Str} {ts wt ws : Ties} {k : Str}
theorem knot_kid (hB : TreeB ks us) {v : Str} (hv : v ∈ kids ks k) : knotOf ks v = some k := by
  have := (mem_kids hB.names).mp hv
  obtain ⟨_, _, T, _⟩ := hB
  exact T.knotOf.mpr this
theorem want44 (h : HouseOk ks us ts wt ws) {w u c : Str} (hw : w = "first" ∨ w = "last") (hu : u ∈ kids ks k) (hc : c ∈ kids ks k) (hne : c ≠ u) (hno : ∀ q ∈ ws, q.2 ≠ u ∧ ¬ (q.1 = w ∧ q.2 ∈ kids ks k)) {a b : Str} (hab : (a, b) = if w = ("last" : Str) then (c, u) else (u, c))
    {q : List Str} {ss : List Step3} (hd : (q ++ [a]).head? = some b) (on : OnW (edgesF ks ts ws k) (q ++ [a])) (ne : q ≠ []) (hA : Along ks ts ws k (q ++ [a]) ss ((q ++ [a]).length - 1)) :
    wantRingB ks ts ws w u (((w, a, b) : Step3) :: ss) = true ∧ wantRingB ks ts ws w u (((w, a, b) : Step3) :: ss).reverse = false ∧ wantRingB ks ts ws w u ss = false ∧ wantRingB ks ts ws w u (((w, a, b) : Step3) :: ((w, a, b) : Step3) :: ss) = false := by
  have hB := h.tree
  have fw := edges_fw h (k := k)
  have hwt : w ≠ "tie" := by rcases hw with rfl | rfl; exact ne_first; exact ne_last
  have hak : a ∈ kids ks k ∧ b ∈ kids ks k ∧ a ≠ b ∧ (if w = ("last" : Str) then b else a) = u := by
    split at hab
    · rename_i e
      cases hab
      exact ⟨hc, hu, hne, if_pos e⟩
    · rename_i e
      cases hab
      exact ⟨hu, hc, Ne.symm hne, if_neg e⟩
  obtain ⟨ka, kb, nab, eu⟩ := hak
  have noab : ¬ (a = b ∨ b ∉ kids ks k) := by rintro (e | e); exact nab e; exact e kb
  have e1 : endsF ks ts (ws ++ [(w, u)]) (w, a, b) = some (k, a, b) := by
    rw [endsF_want (t := (w, a, b)) hwt (knot_kid hB ka), if_neg noab]
    refine if_pos ?_
    show (w, if w = ("last" : Str) then b else a) ∈ _
    rw [eu]
    exact List.mem_append_right _ (List.mem_singleton.mpr rfl)
  have e2 : endsF ks ts ws (w, a, b) = none := by
    rw [endsF_want (t := (w, a, b)) hwt (knot_kid hB ka), if_neg noab]
    refine if_neg ?_
    show ¬ (w, if w = ("last" : Str) then b else a) ∈ _
    rw [eu]
    exact fun hm => (hno _ hm).1 rfl
  have nw : ∀ {v x : Str} {t : Step3}, v ∈ kids ks k → x ∈ kids ks k → t ∈ stepsF ks ts ws k v x → t.1 ≠ w := fun {v x t} hv hx ht e => by
    rcases mem_stepsF.mp ht with ⟨e', h1, h2, rfl⟩ | ⟨h1, rfl⟩ | ⟨h1, rfl⟩
    · exact hwt e.symm
    · exact (hno _ h1).2 ⟨e, hv⟩
    · exact (hno _ h1).2 ⟨e, hx⟩
  have bad : ∀ {t : Step3} {r : List Step3}, t.1 ≠ w → wantRingB ks ts ws w u (t :: r) = false := fun {t r} ht => by
    rw [wantRingB_cons]
    cases endsF ks ts (ws ++ [(w, u)]) t with
    | none => rfl
    | some e =>
      show (decide _ && _) = false
      rw [decide_eq_false fun q => ht q.1]
      rfl
  have hlen := hA.len
  rw [List.length_append] at hlen
  have hq : 0 < q.length := List.length_pos_iff.mpr ne
  have hsl : 0 < ss.length := by rw [hlen]; show 0 < q.length + 1 - 1; omega
  have ends := hA.ends hB h.ties.pa on
  have nwi : ∀ {i : Nat} {t : Step3}, ss[i]? = some t → t.1 ≠ w := fun {i t} hi => by
    obtain ⟨v, x, h1, h2⟩ := hA.step hi
    obtain ⟨e1, e2, _⟩ := edges_kids hB h.ties.pa _ (on _ (List.mem_of_getElem? h1))
    exact nw e1 e2 h2
  refine ⟨?_, ?_, ?_, ?_⟩
  · rw [wantRingB_cons, e1]
    show (decide _ && _) = true
    rw [ends, walk_round (fun v => (kids ks k).idxOf v) fw hd on ne, Bool.and_true]
    exact decide_eq_true ⟨rfl, eu⟩
  · obtain ⟨t, r, er⟩ : ∃ t r, ss.reverse = t :: r := by
      cases e : ss.reverse with
      | nil => rw [List.reverse_eq_nil_iff.mp e] at hsl; cases hsl
      | cons t r => exact ⟨t, r, rfl⟩
    rw [List.reverse_cons, er]
    refine bad ?_
    have hm : t ∈ ss := List.mem_reverse.mp (by rw [er]; exact List.mem_cons_self)
    obtain ⟨i, hi⟩ := List.getElem?_of_mem hm
    exact nwi hi
  · cases ss with
    | nil => cases hsl
    | cons t r => exact bad (nwi (i := 0) rfl)
  · rw [wantRingB_cons, e1]
    show (decide _ && _) = false
    rw [List.map_cons, e2, round_no (go_none (by simp)), Bool.and_false]
end
section
variable {ks : Knots} {us : List Str} {ts ws : Ties} {k : Str}
theorem zip_last {α : Type} : ∀ (l : List α) (u v : α), (u, v) ∈ (l ++ [u] ++ [v]).zip (l ++ [u] ++ [v]).tail
  | [], u, v => by simp
  | [w], u, v => by simp
  | w :: z :: l, u, v => List.mem_cons_of_mem _ (zip_last (z :: l) u v)
theorem group44 (hB : TreeB ks us) (hP : Parted ks us ts) {M q : List Str} {x y : Str} {ss : List Step3} (fw : ∀ e ∈ edgesF ks ts ws k, (kids ks k).idxOf e.1 < (kids ks k).idxOf e.2) (hd : (q ++ [x]).head? = some y) (on : OnW (edgesF ks ts ws k) (q ++ [x])) (h2 : 2 ≤ q.length) (hy : y ∈ M) (hx : x ∈ M) (mid : ∀ v ∈ q.tail, v ∉ M) (hA : Along ks ts ws k (q ++ [x]) ss ((q ++ [x]).length - 1)) :
    groupEndsB k M (ss.map (endsF ks ts ws)) = true ∧ groupEndsB k M (ss.reverse.map (endsF ks ts ws)) = false ∧ groupEndsB k M (ss.tail.map (endsF ks ts ws)) = false ∧ (∀ t r, ss = t :: r → groupEndsB k M ((t :: t :: r).map (endsF ks ts ws)) = false) := by
  have ends := hA.ends hB hP on
  have nd := rise_nodup (onW_rise (f := fun v => (kids ks k).idxOf v) fw on)
  obtain ⟨c, d, r, rfl⟩ : ∃ c d r, q = c :: d :: r := by
    match q, h2 with
    | c :: d :: r, _ => exact ⟨c, d, r, rfl⟩
  obtain rfl : c = y := Option.some.inj hd
  have nog : ∀ {os : List (Option Step3)}, goOnB os = false → groupEndsB k M os = false := fun h => by unfold groupEndsB; rw [h]; rfl
  have e3 : alongE k (c :: d :: r ++ [x]) = (k, c, d) :: alongE k (d :: r ++ [x]) := rfl
  refine ⟨?_, ?_, ?_, ?_⟩
  · rw [ends]
    unfold groupEndsB
    obtain ⟨l, hl, hl2, _⟩ := alongE_last k (c :: d :: r ++ [x]) x (by simp) (List.getLast?_concat ..)
    rw [goOnB_iff.mpr (alongE_go (by simp) (by rw [List.dropLast_concat]; exact (List.nodup_append.mp nd).1)), List.getLast?_map, hl, e3]
    show (true && (decide _ && _)) = true
    rw [Bool.true_and, Bool.and_eq_true]
    refine ⟨decide_eq_true ⟨rfl, hy, by rw [hl2]; exact hx⟩, List.all_eq_true.mpr fun e he => ?_⟩
    obtain ⟨o, ho, eo⟩ := List.mem_filterMap.mp he
    obtain ⟨e', he', rfl⟩ := List.mem_map.mp ho
    cases eo
    have hb : e.2.1 ∈ (alongE k (d :: r ++ [x])).map (·.2.1) := List.mem_map_of_mem (f := (·.2.1)) he'
    rw [alongE_begun, List.dropLast_concat] at hb
    simpa using mid _ hb
  · rw [List.map_reverse, ends]
    refine nog ?_
    cases hg : goOnB ((alongE k (c :: d :: r ++ [x])).map some).reverse with
    | false => rfl
    | true =>
      exfalso
      rw [← List.map_reverse] at hg
      have G := goOnB_iff.mp hg
      have lk := G.link
      obtain ⟨e', rest, er⟩ : ∃ e' rest, r ++ [x] = e' :: rest := by
        cases q : r ++ [x] with
        | nil => simp at q
        | cons a b => exact ⟨a, b, rfl⟩
      have e4 : alongE k (c :: d :: r ++ [x]) = (k, c, d) :: (k, d, e') :: alongE k (e' :: rest) := by
        rw [show c :: d :: r ++ [x] = c :: d :: (r ++ [x]) from rfl, er]
        rfl
      rw [e4, List.reverse_cons, List.reverse_cons] at lk
      have h5 : e' = c := lk _ (zip_last _ _ _)
      rw [show c :: d :: r ++ [x] = c :: d :: (r ++ [x]) from rfl, er, h5] at nd
      exact (List.nodup_cons.mp nd).1 (by simp)
  · rw [List.map_tail, ends, e3, List.map_cons, List.tail_cons]
    obtain ⟨e', rest, er⟩ : ∃ e' rest, r ++ [x] = e' :: rest := by
      cases q : r ++ [x] with
      | nil => simp at q
      | cons a b => exact ⟨a, b, rfl⟩
    have e4 : alongE k (d :: r ++ [x]) = (k, d, e') :: alongE k (e' :: rest) := by
      rw [show d :: r ++ [x] = d :: (r ++ [x]) from rfl, er]
      rfl
    rw [e4]
    unfold groupEndsB
    rw [List.map_cons, List.head?_cons]
    have hd : d ∉ M := mid d (by simp)
    cases (some (k, d, e') :: (alongE k (e' :: rest)).map some).getLast? with
    | none => simp
    | some o =>
      cases o with
      | none => simp
      | some l =>
        show (_ && (decide _ && _)) = false
        rw [decide_eq_false (fun q => hd q.2.1)]
        simp
  · intro t r' he
    subst he
    have e0 : endsF ks ts ws t = some (k, c, d) := by
      have := congrArg List.head? ends
      rw [e3] at this
      exact Option.some.inj this
    refine nog ?_
    rw [List.map_cons, List.map_cons, e0]
    exact go_twice
end
theorem edges_sub {ks : Knots} {ts ws ws2 : Ties} {k : Str} (h : ∀ q ∈ ws2, q ∈ ws) : ∀ e ∈ edgesF ks ts ws2 k, e ∈ edgesF ks ts ws k := by
  rintro ⟨x, y⟩ he
  rcases mem_edges.mp he with h1 | h1 | h1
  · exact mem_edges.mpr (.inl h1)
  · obtain ⟨a, b, c, d⟩ := mem_wantE.mp h1
    exact mem_edges.mpr (.inr (.inl (mem_wantE.mpr ⟨a, b, c, h _ d⟩)))
  · obtain ⟨a, b, c, d⟩ := mem_wantE.mp h1
    exact mem_edges.mpr (.inr (.inr (mem_wantE.mpr ⟨a, b, c, h _ d⟩)))
theorem bare_sub {ws : Ties} {M : List Str} : ∀ q ∈ bareW ws M, q ∈ ws := fun q hq => (List.mem_filter.mp hq).1
theorem bare_perm {ws : Ties} {M M' : List Str} (h : ∀ v, v ∈ M' ↔ v ∈ M) : bareW ws M' = bareW ws M := by
  unfold bareW
  exact List.filter_congr fun q _ => by simp only [h]
theorem group_perm {k : Str} {M M' : List Str} (h : ∀ v, v ∈ M' ↔ v ∈ M) (os : List (Option Step3)) : groupEndsB k M' os = groupEndsB k M os := by
  unfold groupEndsB
  simp only [h]
/-- what a ring is asked of, and the look at it -/
inductive Asked (ks : Knots) (us : List Str) (ts ws : Ties) : Int → PyData → (List Step3 → Bool) → Prop
  | tie {a b : Str} (ha : a ∈ us) (hb : b ∈ us) : Asked ks us ts ws 0 (.tuple [.str a, .str b]) (tieRingB ks ts ws a b)
  | want {w u : Str} (hw : w = "first" ∨ w = "last") (hu : u ∈ us) : Asked ks us ts ws 1 (.tuple [.str w, .str u]) (wantRingB ks ts ws w u)
  | grp {b : Bool} {M : List Str} {k : Str} (hM : M ≠ []) (hk : ∀ m ∈ M, m ∈ kids ks k) (hl : M.length ≤ 60) : Asked ks us ts ws 2 (mPy b M) (fun ss => groupEndsB k M (ss.map (endsF ks ts (bareW ws M))))
/-- a ring that is one, and is none when it is spoilt -/
structure Ring44 (us : List Str) (look : List Step3 → Bool) (r : List Step3) : Prop where
  inn : StepsIn us r
  len : r.length ≤ 100
  yes : look r = true
  rev : look r.reverse = false
  tl : look r.tail = false
  two : look (r.take 1 ++ r) = false
theorem eqv_unit (es : Ties) : PyData.eqv (.tuple (pPy es)) (.tuple []) = es.isEmpty := by
  cases es <;> simp [pPy, PyData.eqv, PyData.eqvAll]
theorem shape_pairsT {es : Ties} (h : ∀ e ∈ es, PyData.strOk e.1 = true ∧ PyData.strOk e.2 = true) : SeqAt.shaped (.tuple (pPy es)) = true := by
  have := dep_pPy es
  simp [SeqAt.shaped, PyData.canLay0, PyData.depth, lay_pPy h]
  omega
theorem shape_unit : SeqAt.shaped (.tuple []) = true := by simp [SeqAt.shaped, PyData.canLay0, PyData.canLayAll0, PyData.depth, PyData.depthAll]
section
variable {ks : Knots} {us : List Str} {ts wt ws : Ties}
theorem hs44 (h : HouseOk ks us ts wt ws) (hs : ∀ u ∈ us, PyData.strOk u = true) : Hs ks us ts ws := ⟨h.tree, h.ties.pa, by have := h.tl; omega, h.wants.len h.tree, HouseOk.nameable h hs⟩
theorem edges_len (hB : TreeB ks us) {k : Str} : (edgesF ks ts ws k).length ≤ ts.length + 120 * ws.length := by
  have hkl := hB.kidsLen k
  have hw2 : ∀ w, (wantE ks k w ws).length ≤ 60 * ws.length := fun w => by
    have a1 := flatMap_len (f := fun u => wantRow w u (kids ks k)) (n := 60) (xs := wantUs ks k w ws) fun u _ => Nat.le_trans (wantRow_len ..) hkl
    have a2 := wantUs_len ks k w ws
    unfold wantE
    exact Nat.le_trans a1 (Nat.mul_le_mul_left 60 a2)
  have h1 := onceL_len (edges0 ks ts ws k)
  have h2 : (tieE ks k ts).length ≤ ts.length := List.length_filterMap_le ..
  have h3 := hw2 "first"
  have h4 := hw2 "last"
  unfold edges0 at h1
  rw [List.length_append, List.length_append] at h1
  show (onceL _).length ≤ _
  unfold edges0
  omega
end
def S__law_tie : Spec3 := fun ds g R => ∃ (o : O) (ks : Knots) (us : List Str) (ts wt ws : Ties), ds = [.own 0, .f (houseD ks ts wt ws), .f (.list (sPy us))] ∧ g = [o] ∧ IsPen o ∧ HouseOk ks us ts wt ws ∧ (∀ u ∈ us, PyData.strOk u = true) ∧ us ≠ [] ∧ us.length ≤ 60 ∧
  (∀ o', IsPen o' → R (.f .none) [o']) ∧ ∀ o' asked look ring, IsPen o' → Asked ks us ts ws 0 asked look → Ring44 us look ring → R (.f (.tuple [asked, .list (s3Py ring)])) [o']
abbrev s__law_tie : Stmt := top 33
theorem sc__law_tie : FnScope ["_law_pen_here", "_law_house_here", "_law_units", "_law_one", "_law_other", "_law_told", "_law_row", "_law_steps_here"] ["_law_pen_here", "_law_house_here", "_law_units"] (defScope s__law_tie) := ⟨rfl, rfl, rfl, by decide +kernel, rfl, by decide +kernel, by decide +kernel⟩
set_option maxHeartbeats 4000000 in
theorem ok__law_tie (T : Bi K mg) (Df : DefAt K mg "_law_tie" s__law_tie ["_law_pen_here", "_law_house_here", "_law_units"]) (C__law_along : Cal P w K mg base 4 "_law_along" ["_law_pen_here", "_law_house_here", "_law_knot", "_law_row"] S__law_along) (C__law_walk : Cal P w K mg base 2 "_law_walk" ["_law_pen_here", "_law_edges_here", "_law_here", "_law_goals"] S__law_walk) (C__law_edges : Cal P w K mg base 3 "_law_edges" ["_law_house_here", "_law_knot"] S__law_edges) (C__law_parting : Cal P w K mg base 2 "_law_parting" ["_law_around_here", "_law_one", "_law_other"] S__law_parting) (C__law_around : Cal P w K mg base 1 "_law_around" ["_law_knots"] S__law_around) (C__law_draw : Cal P w K mg base 1 "_law_draw" ["_law_pen_here", "_law_most"] S__law_draw) : Cal P w K mg base 5 "_law_tie" ["_law_pen_here", "_law_house_here", "_law_units"] S__law_tie := by
  refine ok4 Df sc__law_tie (fun ds g R h0 => by obtain ⟨_, _, _, _, _, _, h, _⟩ := h0; rw [h]; rfl) (fun cdv A outer s H E f hr => ?_)
  have hu1 := hu_of hr.r
  have hu64 := hr.units
  have hu65 : (A.deeper (PyProof.Rows.envOfC "_law_tie" (defScope s__law_tie) s.heap.objs.size f cdv)).units + 65 < cLine := by have := hr.un; omega
  refine ⟨_, (pss_cons (ps_set (i := 3) sc__law_tie.nd rfl (by first | exact Or.inl rfl | exact Or.inr rfl) (pe_ix (u_ix (K := K) rfl hu1) (pv 2) (pe_cal (K := K) rfl C__law_draw (hr.mono (by decide)) (by rfl) (pa_cons (pv 0) (pa_cons (pe_callB (u_len (K := K) rfl) (by rfl) T.b_len (by decide +kernel) (pa_cons (pv 2) pa_nil)) pa_nil))) (fun _ _ => rfl)))
    (pss_cons (ps_set (i := 4) sc__law_tie.nd rfl (by first | exact Or.inl rfl | exact Or.inr rfl) (pe_ix (u_ix (K := K) rfl hu1) (pv 2) (pe_cal (K := K) rfl C__law_draw (hr.mono (by decide)) (by rfl) (pa_cons (pv 0) (pa_cons (pe_callB (u_len (K := K) rfl) (by rfl) T.b_len (by decide +kernel) (pa_cons (pv 2) pa_nil)) pa_nil))) (fun _ _ => rfl)))
    (pss_cons (ps_if (PW.pt (pw_and (pt_cmpR (u_ne (K := K) rfl hu64) (pe_ix (u_ix (K := K) rfl hu1) (pv 1) pe_int (fun _ _ => rfl)) (pe_tup pa_nil) (nomark _)) (pw_and1 (pt_cmpR op_gt (pe_cal (K := K) rfl C__law_draw (hr.mono (by decide)) (by rfl) (pa_cons (pv 0) (pa_cons pe_int pa_nil))) pe_int (nomark _)))))
    (pss_one (ps_asg (pe_ix (u_ix (K := K) rfl hu1) (pe_ix (u_ix (K := K) rfl hu1) (pv 1) pe_int (fun _ _ => rfl)) (pe_cal (K := K) rfl C__law_draw (hr.mono (by decide)) (by rfl) (pa_cons (pv 0) (pa_cons (pe_callB (u_len (K := K) rfl) (by rfl) T.b_len (by decide +kernel) (pa_cons (pe_ix (u_ix (K := K) rfl hu1) (pv 1) pe_int (fun _ _ => rfl)) pa_nil)) pa_nil))) (fun _ _ => rfl)) (u_tup (K := K) (n := 2) rfl (by rfl) (pgs_cons (pg_name (i := 4) sc__law_tie.nd rfl (by first | exact Or.inl rfl | exact Or.inr rfl)) (pgs_cons (pg_name (i := 3) sc__law_tie.nd rfl (by first | exact Or.inl rfl | exact Or.inr rfl)) pgs_nil)))))
    pss_nil)
    (pss_cons (ps_set (i := 5) sc__law_tie.nd rfl (by first | exact Or.inl rfl | exact Or.inr rfl) (pe_cal (K := K) rfl C__law_parting (hr.mono (by decide)) (by rfl) (pa_cons (pe_cal (K := K) rfl C__law_around (hr.mono (by decide)) (by rfl) (pa_cons (pe_ix (u_ix (K := K) rfl hu1) (pv 1) pe_int (fun _ _ => rfl)) pa_nil)) (pa_cons (pv 3) (pa_cons (pv 4) pa_nil)))))
    (pss_cons (ps_if (pt_cmpR op_isN1 (pv 5) pe_non (nomark _))
    (pss_one (ps_ret pe_non))
    pss_nil)
    (pss_cons (ps_set (i := 6) sc__law_tie.nd rfl (by first | exact Or.inl rfl | exact Or.inr rfl) (pe_cal (K := K) rfl C__law_walk (hr.mono (by decide)) (by rfl) (pa_cons (pv 0) (pa_cons (pe_cal (K := K) rfl C__law_edges (hr.mono (by decide)) (by rfl) (pa_cons (pv 1) (pa_cons (pe_ix (u_ix (K := K) rfl hu1) (pv 5) pe_int (fun _ _ => rfl)) pa_nil))) (pa_cons (pe_ix (u_ix (K := K) rfl hu1) (pv 5) pe_int (fun _ _ => rfl)) (pa_cons (pe_lst (pa_cons (pe_ix (u_ix (K := K) rfl hu1) (pv 5) pe_int (fun _ _ => rfl)) pa_nil)) pa_nil))))))
    (pss_cons (ps_if (pt_cmpR op_isN1 (pv 6) pe_non (nomark _))
    (pss_one (ps_ret pe_non))
    pss_nil)
    (pss_cons (ps_set (i := 7) sc__law_tie.nd rfl (by first | exact Or.inl rfl | exact Or.inr rfl) (pe_cal (K := K) rfl C__law_along (hr.mono (by decide)) (by rfl) (pa_cons (pv 0) (pa_cons (pv 1) (pa_cons (pe_ix (u_ix (K := K) rfl hu1) (pv 5) pe_int (fun _ _ => rfl)) (pa_cons (pv 6) pa_nil))))))
    (pss_one (ps_ret (pe_tup (pa_cons (pe_tup (pa_cons (pv 3) (pa_cons (pv 4) pa_nil))) (pa_cons (pe_op (u_add (K := K) rfl) (pe_lst (pa_cons (pe_tup (pa_cons pe_str (pa_cons (pv 3) (pa_cons (pv 4) pa_nil)))) pa_nil)) (pv 7)) pa_nil))))))))))))), fun ds g R hS => ?_⟩
  obtain ⟨o, ks, us, ts, wt, ws, rfl, rfl, hp, hO, hso, hun, hul, z1, z2⟩ := hS
  have hB := hO.tree
  have hP := hO.ties.pa
  have hH := hs44 hO hso
  have htl := hO.tl
  have hwl := hH.wl
  have hup : 0 < us.length := List.length_pos_iff.mpr hun
  have und : ∀ {o : O} {t : List O}, IsPen o → ∀ x ∈ (o :: t).take 1, x.under 1 := fun h x hx => by
    cases hx with
    | head => exact h.under
    | tail _ q => cases q
  have okE : ∀ e ∈ ts, PyData.strOk e.1 = true ∧ PyData.strOk e.2 = true := fun e he => ⟨hso _ (hP e he).1, hso _ (hP e he).2.1⟩
  have gu : ∀ {r : Int}, 0 ≤ r → r < (sPy us).length → ∃ x, x ∈ us ∧ atI (sPy us) r = some (.str x) := fun {r} h0 h1 => by
    rw [sPy_len] at h1
    obtain ⟨j, rfl⟩ := Int.eq_ofNat_of_zero_le h0
    have hj : j < us.length := by omega
    exact ⟨us[j], List.getElem_mem hj, atI_nat (sPy_get_of (List.getElem?_eq_getElem hj))⟩
  show ExS K _ [some _, some _, some _, none, none, none, none, none] _ _
  refine xs_set (e_op (e_var rfl (e_draw 0 (a_cons (e_var rfl (a_cons (e_cb (a_cons (e_var rfl (a_nil (c_lenQ isq_list (a_nil ⟨_, o, rfl, rfl, hp, by rw [sPy_len]; omega, by rw [sPy_len]; omega, fun r1 o1 a1 b1 p1 => ?_⟩))))))))))))
  obtain ⟨one, m1, g1⟩ := gu a1 b1
  refine o_ixQ isq_list g1 ?_
  refine xs_set (e_op (e_var rfl (e_draw 0 (a_cons (e_var rfl (a_cons (e_cb (a_cons (e_var rfl (a_nil (c_lenQ isq_list (a_nil ⟨_, o1, rfl, rfl, p1, by rw [sPy_len]; omega, by rw [sPy_len]; omega, fun r2 o2 a2 b2 p2 => ?_⟩))))))))))))
  obtain ⟨other, m2, g2⟩ := gu a2 b2
  refine o_ixQ isq_list g2 ?_
  refine xs_mid (fun ρ' l' => ∃ o' a b, ρ' = [some (.own 0), some (.f (houseD ks ts wt ws)), some (.f (.list (sPy us))), some (.f (.str a)), some (.f (.str b)), none, none, none] ∧ l' = [o'] ∧ IsPen o' ∧ a ∈ us ∧ b ∈ us) ?_ ?_
  · refine x_if (t_and (t_test (e_op (e_op (e_var rfl (e_int (o_ixQ isq_tup rfl (e_tup (a_nil ⟨[], rfl, Nat.le_of_ble_eq_true rfl, o_nePP (.inl asd_f) (.inl asd_f) (shape_pairsT okE) shape_unit ⟨_, rfl, ?_⟩⟩)))))))))
    rw [eqv_unit]
    cases hts : ts.isEmpty with
    | true => exact iteNT (x_next ⟨o2, one, other, rfl, rfl, p2, m1, m2⟩)
    | false =>
      have hpos : 0 < ts.length := List.length_pos_iff.mpr fun q => by rw [q] at hts; cases hts
      refine iteNF (t_test (e_op (e_draw 0 (a_cons (e_var rfl (a_cons (e_int (a_nil ⟨_, o2, rfl, rfl, p2, by decide, by decide, fun r3 o3 a3 b3 p3 => e_int (o_I0b ⟨_, rfl, ?_⟩)⟩))))))))
      refine d_both (fun c => ?_) (fun c => x_next ⟨o3, one, other, rfl, rfl, p3, m1, m2⟩)
      refine x_asg (e_op (e_op (e_var rfl (e_int (o_ixQ isq_tup rfl (e_draw 0 (a_cons (e_var rfl (a_cons (e_cb (a_cons (e_op (e_var rfl (e_int (o_ixQ isq_tup rfl (a_nil (c_lenQ isq_tup (a_nil ⟨_, o3, rfl, rfl, p3, by rw [pPy_len]; omega, by rw [pPy_len]; omega, fun r4 o4 a4 b4 p4 => ?_⟩))))))))))))))))))
      rw [pPy_len] at b4
      obtain ⟨j, rfl⟩ := Int.eq_ofNat_of_zero_le a4
      have hj : j < ts.length := by omega
      have ge : ts[j]? = some ts[j] := List.getElem?_eq_getElem hj
      generalize ts[j] = e at ge
      have ge2 : atI (pPy ts) (j : Nat) = some (.tuple [.str e.1, .str e.2]) := atI_nat (by unfold pPy; rw [List.getElem?_map, ge]; rfl)
      obtain ⟨n1, n2, _⟩ := hP e (List.mem_of_getElem? ge)
      refine o_ixQ isq_tup ge2 (g_tup rfl (g_cons (g_name (g_cons (g_name (g_nil ?_))))))
      exact ⟨o4, e.2, e.1, rfl, rfl, p4, n2, n1⟩
  clear g1 g2 m1 m2 a1 b1 a2 b2 p1 p2
  rintro ρ' l' ⟨o3, one, other, rfl, rfl, p3, m1, m2⟩
  have hkn : ∀ {k x y : Str}, partF ks one other = some (k, x, y) → k ∈ ks.map (·.1) ∧ x ∈ kids ks k ∧ y ∈ kids ks k ∧ x ≠ y := fun {k x y} h => by
    obtain ⟨s1, s2, s3⟩ := hB.part m1 m2 h
    exact ⟨s1.knot, (mem_kids hB.names).mpr s1, (mem_kids hB.names).mpr s2, s3⟩
  refine xs_set (e_call1 1 (a_cons (e_call0 (a_cons (e_op (e_var rfl (e_int (o_ixQ isq_tup rfl (a_nil ⟨trivial, ks, us, rfl, rfl, hB, fun A hA => a_cons (e_var rfl (a_cons (e_var rfl (a_nil ⟨_, _, rfl, trivial, rfl, ks, us, A, one, other, rfl, rfl, hB, hA, m1, m2, _, _, rfl, ?_⟩))))⟩)))))))))
  show ExS K _ [some (.own 0), some (.f (houseD ks ts wt ws)), some (.f (.list (sPy us))), some (.f (.str one)), some (.f (.str other)), some (.f (partD (partF ks one other))), none, none] [o3, .dct A] _
  cases hpt : partF ks one other with
  | none =>
    refine xs_gateC False (t_test (e_op (e_var rfl (e_non (o_isN ⟨true, rfl, iteT ?_⟩))))) fun h => h.elim
    exact x_ret (e_non (Res.dat (und p3) (z1 o3 p3)))
  | some kxy =>
    obtain ⟨k, x, y⟩ := kxy
    obtain ⟨hk, kx, ky, hxy⟩ := hkn hpt
    have hko := (hH.nm).knot hB hk
    have fw := edges_fw hO (k := k)
    have hel := edges_len (ts := ts) (ws := ws) hB (k := k)
    have hkl := hB.kidsLen k
    refine xs_gate (t_test (e_op (e_var rfl (e_non (o_isN ⟨false, rfl, iteF rfl⟩))))) ?_
    have gk : atI [PyData.str k, .str x, .str y] 0 = some (.str k) := rfl
    have gx : atI [PyData.str k, .str x, .str y] 1 = some (.str x) := rfl
    have gy : atI [PyData.str k, .str x, .str y] 2 = some (.str y) := rfl
    refine xs_set (e_call1 0 (a_cons (e_var rfl (a_cons (e_frzL (e_call0 (a_cons (e_var rfl (a_cons (e_op (e_var rfl (e_int (o_ixQ isq_tup gk (a_nil ⟨trivial, ks, us, ts, wt, ws, k, rfl, rfl, hB, hP, hH.tl, hwl, hk, hso, 2, _, rfl, Nat.le_refl _, rfl, UndO.all ⟨p3.under, trivial, trivial⟩, ?_⟩))))))))))))))
    refine a_cons (e_op (e_var rfl (e_int (o_ixQ isq_tup gy (a_cons (e_lstF (a_cons (e_op (e_var rfl (e_int (o_ixQ isq_tup gx (a_nil ⟨[.str x], rfl, Nat.le_of_ble_eq_true rfl, ?_⟩))))))))))))
    refine a_nil ⟨_, _, rfl, p3.free, rfl, o3, edgesF ks ts ws k, y, [x], kids ks k, fun v => (kids ks k).idxOf v, rfl, rfl, p3, by omega, by show 1 ≤ 60; decide, hkl, fun e he => ⟨(edges_kids hB hP e he).1, (edges_kids hB hP e he).2.1⟩, fun g hg => by rw [List.mem_singleton.mp hg]; exact kx, fun e he => ⟨fw e he, by show (kids ks k).idxOf e.2 ≤ 100; have := List.idxOf_le_length (l := kids ks k) (a := e.2); omega⟩, fun _ o4 p4 => ⟨_, _, rfl, ?_⟩, fun o4 q cur p4 W => ⟨_, _, rfl, ?_⟩⟩
    · rw [p4.shift1]
      refine xs_gateC False (t_test (e_op (e_var rfl (e_non (o_isN ⟨true, rfl, iteT ?_⟩))))) fun h => h.elim
      exact x_ret (e_non (Res.dat (und p4) (z1 o4 p4)))
    · rw [p4.shift1]
      have hc := List.mem_singleton.mp W.last
      subst hc
      refine xs_gate (t_test (e_op (e_var rfl (e_non (o_isN ⟨false, rfl, iteF rfl⟩))))) ?_
      have nd := rise_nodup (onW_rise (f := fun v => (kids ks k).idxOf v) fw W.on)
      have hsub : ∀ v ∈ q ++ [cur], v ∈ kids ks k := fun v hv => by
        obtain ⟨i, hi⟩ := List.getElem?_of_mem hv
        have hil := (List.getElem?_eq_some_iff.mp hi).1
        have hq := List.length_pos_iff.mpr W.ne
        rw [List.length_append] at hil
        have h1 : ([cur] : List Str).length = 1 := rfl
        by_cases c : i + 1 < (q ++ [cur]).length
        · have he : (v, (q ++ [cur])[i + 1]) ∈ edgesF ks ts ws k := W.on _ (List.mem_of_getElem? (i := i) (List.getElem?_zip_eq_some.mpr ⟨hi, by rw [List.getElem?_tail]; exact List.getElem?_eq_getElem c⟩))
          exact (edges_kids hB hP _ he).1
        · rw [List.length_append] at c
          have e1 : i = q.length := by omega
          subst e1
          rw [List.getElem?_append_right (Nat.le_refl _), Nat.sub_self] at hi
          cases hi
          exact kx
      have hpl : (q ++ [cur]).length ≤ 60 := Nat.le_trans (nodup_le nd hsub) hkl
      refine xs_set (e_frzL (e_call1 0 (a_cons (e_var rfl (a_cons (e_var rfl (a_cons (e_op (e_var rfl (e_int (o_ixQ isq_tup gk (a_cons (e_frz (e_var rfl ⟨2, _, rfl, rfl, ?_⟩))))))))))))))
      refine a_nil ⟨_, _, rfl, p4.free, rfl, o4, ks, us, ts, wt, ws, k, q ++ [cur], _, rfl, rfl, p4, .inl rfl, by simp, by omega, hH, hko, W.on, fun o5 ss p5 hA => ⟨_, _, rfl, ?_⟩⟩
      rw [p5.shift1]
      refine ⟨3, _, rfl, Nat.le_refl _, rfl, UndO.all ⟨p5.under, trivial, trivial, trivial⟩, ?_⟩
      have inn := hA.inn hB hP W.on
      have hsl := hA.len
      have okAll : StepsIn us ((("tie", one, other) : Step3) :: ss) := fun t ht => by
        rcases List.mem_cons.mp ht with rfl | ht
        · exact ⟨.inl rfl, m1, m2⟩
        · exact inn t ht
      obtain ⟨t1, t2, t3, t4⟩ := tie44 hO m1 m2 hpt W.hd W.on W.ne hA
      refine x_ret (e_tup (a_cons (e_tup (a_cons (e_var rfl (a_cons (e_var rfl (a_nil ⟨_, rfl, Nat.le_of_ble_eq_true rfl, a_cons (e_op (e_lstF (a_cons (e_tup (a_cons (e_str (a_cons (e_var rfl (a_cons (e_var rfl (a_nil ⟨_, rfl, Nat.le_of_ble_eq_true rfl, a_nil ⟨[.tuple [.str "tie", .str one, .str other]], rfl, Nat.le_of_ble_eq_true rfl, e_var rfl (o_addLF isl_list isl_list (by rw [s3Py_len]; show 1 + _ ≤ _; omega) (a_nil ⟨_, rfl, Nat.le_of_ble_eq_true rfl, ?_⟩))⟩⟩)))))))))))⟩))))))))
      exact Res.dat (und p5) (z2 o5 _ _ ((("tie", one, other) : Step3) :: ss) p5 (.tie m1 m2) ⟨okAll, by rw [List.length_cons]; omega, t1, t2, t3, t4⟩)
def S__law_want : Spec3 := fun ds g R => ∃ (o : O) (ks : Knots) (us : List Str) (ts wt ws : Ties), ds = [.own 0, .f (houseD ks ts wt ws), .f (.list (sPy us))] ∧ g = [o] ∧ IsPen o ∧ HouseOk ks us ts wt ws ∧ (∀ u ∈ us, PyData.strOk u = true) ∧ us ≠ [] ∧ us.length ≤ 60 ∧
  (∀ o', IsPen o' → R (.f .none) [o']) ∧ ∀ o' asked look ring, IsPen o' → Asked ks us ts ws 1 asked look → Ring44 us look ring → R (.f (.tuple [asked, .list (s3Py ring)])) [o']
abbrev s__law_want : Stmt := top 34
theorem sc__law_want : FnScope ["_law_pen_here", "_law_house_here", "_law_units", "_law_around_here", "_law_word", "_law_unit", "_law_sort", "_law_other", "_law_kids", "_law_edges_here", "_law_twin", "_law_ends", "_law_row", "_law_steps_here", "_law_kid"] ["_law_pen_here", "_law_house_here", "_law_units"] (defScope s__law_want) := ⟨rfl, rfl, rfl, by decide +kernel, rfl, by decide +kernel, by decide +kernel⟩
set_option maxHeartbeats 4000000 in
theorem ok__law_want (T : Bi K mg) (Df : DefAt K mg "_law_want" s__law_want ["_law_pen_here", "_law_house_here", "_law_units"]) (C__law_along : Cal P w K mg base 4 "_law_along" ["_law_pen_here", "_law_house_here", "_law_knot", "_law_row"] S__law_along) (C__law_walk : Cal P w K mg base 2 "_law_walk" ["_law_pen_here", "_law_edges_here", "_law_here", "_law_goals"] S__law_walk) (C__law_draw : Cal P w K mg base 1 "_law_draw" ["_law_pen_here", "_law_most"] S__law_draw) (C__law_edges : Cal P w K mg base 3 "_law_edges" ["_law_house_here", "_law_knot"] S__law_edges) (C__law_around : Cal P w K mg base 1 "_law_around" ["_law_knots"] S__law_around) : Cal P w K mg base 5 "_law_want" ["_law_pen_here", "_law_house_here", "_law_units"] S__law_want := by
  refine ok4 Df sc__law_want (fun ds g R h0 => by obtain ⟨_, _, _, _, _, _, h, _⟩ := h0; rw [h]; rfl) (fun cdv A outer s H E f hr => ?_)
  have hu1 := hu_of hr.r
  have hu64 := hr.units
  have hu65 : (A.deeper (PyProof.Rows.envOfC "_law_want" (defScope s__law_want) s.heap.objs.size f cdv)).units + 65 < cLine := by have := hr.un; omega
  refine ⟨_, (pss_cons (ps_set (i := 3) sc__law_want.nd rfl (by first | exact Or.inl rfl | exact Or.inr rfl) (pe_cal (K := K) rfl C__law_around (hr.mono (by decide)) (by rfl) (pa_cons (pe_ix (u_ix (K := K) rfl hu1) (pv 1) pe_int (fun _ _ => rfl)) pa_nil)))
    (pss_cons (ps_set (i := 4) sc__law_want.nd rfl (by first | exact Or.inl rfl | exact Or.inr rfl) (pe_ix (u_ix (K := K) rfl hu1) (pe_lst (pa_cons pe_str (pa_cons pe_str pa_nil))) (pe_cal (K := K) rfl C__law_draw (hr.mono (by decide)) (by rfl) (pa_cons (pv 0) (pa_cons pe_int pa_nil))) (fun _ _ => rfl)))
    (pss_cons (ps_set (i := 5) sc__law_want.nd rfl (by first | exact Or.inl rfl | exact Or.inr rfl) (pe_ix (u_ix (K := K) rfl hu1) (pv 2) (pe_cal (K := K) rfl C__law_draw (hr.mono (by decide)) (by rfl) (pa_cons (pv 0) (pa_cons (pe_callB (u_len (K := K) rfl) (by rfl) T.b_len (by decide +kernel) (pa_cons (pv 2) pa_nil)) pa_nil))) (fun _ _ => rfl)))
    (pss_cons (ps_for PassesOwn.never rfl (u_seq (K := K) rfl (pe_ix (u_ix (K := K) rfl hu1) (pv 1) pe_int (fun _ _ => rfl))) (u_tup (K := K) (n := 2) rfl (by rfl) (pgs_cons (pg_name (i := 6) sc__law_want.nd rfl (by first | exact Or.inl rfl | exact Or.inr rfl)) (pgs_cons (pg_name (i := 7) sc__law_want.nd rfl (by first | exact Or.inl rfl | exact Or.inr rfl)) pgs_nil)))
    (pss_one (ps_if (PW.pt (pw_or (pt_cmpR (u_eq (K := K) rfl hu64) (pv 7) (pv 5) (nomark _)) (pw_or1 (PW.pt (pw_and (pt_cmpR (u_eq (K := K) rfl hu64) (pv 6) (pv 4) (nomark _)) (pw_and1 (pt_cmpR (u_eq (K := K) rfl hu64) (pe_ix (u_ix (K := K) rfl hu1) (pv 3) (pv 7) (fun _ _ => rfl)) (pe_ix (u_ix (K := K) rfl hu1) (pv 3) (pv 5) (fun _ _ => rfl)) (nomark _))))))))
    (pss_one (ps_ret pe_non))
    pss_nil)))
    (pss_cons (ps_setLc (i := 8) (own := [("_law_kid", 14)]) (by rfl) sc__law_want.nd rfl rfl (sw_true rfl rfl rfl (by decide +kernel)) (u_seq (K := K) rfl (pe_ix (u_ix (K := K) rfl hu1) (pe_callTy (u_dictP (K := K) rfl rfl) (by rfl) T.b_dict (by decide +kernel) (pa_cons (pe_ix (u_ix (K := K) rfl hu1) (pv 1) pe_int (fun _ _ => rfl)) pa_nil)) (pe_ix (u_ix (K := K) rfl hu1) (pv 3) (pv 5) (fun _ _ => rfl)) (fun _ _ => rfl))) (blkOk_by (own := [("_law_kid", 14)]) (N := ["_law_pen_here", "_law_house_here", "_law_units", "_law_around_here", "_law_word", "_law_unit", "_law_sort", "_law_other", "_law_kids", "_law_edges_here", "_law_twin", "_law_ends", "_law_row", "_law_steps_here", "_law_kid"]) (sc := defScope s__law_want) (by decide +kernel)) (fun _ _ _ _ _ => (pg_name (i := 14) sc__law_want.nd rfl (by first | exact Or.inl rfl | exact Or.inr rfl))) (fun _ _ _ _ _ => (pts_one (pt_cmpR (u_ne (K := K) rfl hu64) (pv 14) (pv 5) (nomark _)))) (fun _ _ _ _ _ => (pv 14)))
    (pss_cons (ps_set (i := 9) sc__law_want.nd rfl (by first | exact Or.inl rfl | exact Or.inr rfl) (pe_cal (K := K) rfl C__law_edges (hr.mono (by decide)) (by rfl) (pa_cons (pv 1) (pa_cons (pe_ix (u_ix (K := K) rfl hu1) (pv 3) (pv 5) (fun _ _ => rfl)) pa_nil))))
    (pss_cons (ps_if (pt_cmpR (u_eq0 (K := K) rfl hu64) (pv 8) (pe_lst pa_nil) (nomark _))
    (pss_one (ps_ret pe_non))
    pss_nil)
    (pss_cons (ps_set (i := 10) sc__law_want.nd rfl (by first | exact Or.inl rfl | exact Or.inr rfl) (pe_ix (u_ix (K := K) rfl hu1) (pv 8) (pe_cal (K := K) rfl C__law_draw (hr.mono (by decide)) (by rfl) (pa_cons (pv 0) (pa_cons (pe_callB (u_len (K := K) rfl) (by rfl) T.b_len (by decide +kernel) (pa_cons (pv 8) pa_nil)) pa_nil))) (fun _ _ => rfl)))
    (pss_cons (ps_set (i := 11) sc__law_want.nd rfl (by first | exact Or.inl rfl | exact Or.inr rfl) (pe_ix (u_ix (K := K) rfl hu1) (pe_lst (pa_cons (pe_tup (pa_cons (pv 5) (pa_cons (pv 10) pa_nil))) (pa_cons (pe_tup (pa_cons (pv 10) (pa_cons (pv 5) pa_nil))) pa_nil))) (pe_callTy u_int (by rfl) T.b_int (by decide +kernel) (pa_cons (pe_cmpR (u_eq (K := K) rfl hu64) (pv 4) pe_str (nomark _)) pa_nil)) (fun _ _ => rfl)))
    (pss_cons (ps_set (i := 12) sc__law_want.nd rfl (by first | exact Or.inl rfl | exact Or.inr rfl) (pe_cal (K := K) rfl C__law_walk (hr.mono (by decide)) (by rfl) (pa_cons (pv 0) (pa_cons (pv 9) (pa_cons (pe_ix (u_ix (K := K) rfl hu1) (pv 11) pe_int (fun _ _ => rfl)) (pa_cons (pe_lst (pa_cons (pe_ix (u_ix (K := K) rfl hu1) (pv 11) pe_int (fun _ _ => rfl)) pa_nil)) pa_nil))))))
    (pss_cons (ps_if (pt_cmpR op_isN1 (pv 12) pe_non (nomark _))
    (pss_one (ps_ret pe_non))
    pss_nil)
    (pss_cons (ps_set (i := 13) sc__law_want.nd rfl (by first | exact Or.inl rfl | exact Or.inr rfl) (pe_cal (K := K) rfl C__law_along (hr.mono (by decide)) (by rfl) (pa_cons (pv 0) (pa_cons (pv 1) (pa_cons (pe_ix (u_ix (K := K) rfl hu1) (pv 3) (pv 5) (fun _ _ => rfl)) (pa_cons (pv 12) pa_nil))))))
    (pss_one (ps_ret (pe_tup (pa_cons (pe_tup (pa_cons (pv 4) (pa_cons (pv 5) pa_nil))) (pa_cons (pe_op (u_add (K := K) rfl) (pe_lst (pa_cons (pe_op (u_add (K := K) rfl) (pe_tup (pa_cons (pv 4) pa_nil)) (pv 11)) pa_nil)) (pv 13)) pa_nil))))))))))))))))), fun ds g R hS => ?_⟩
  obtain ⟨o, ks, us, ts, wt, ws, rfl, rfl, hp, hO, hso, hun, hul, z1, z2⟩ := hS
  have hB := hO.tree
  have hP := hO.ties.pa
  have hH := hs44 hO hso
  have htl := hO.tl
  have hwl := hH.wl
  have hup : 0 < us.length := List.length_pos_iff.mpr hun
  have und : ∀ {o : O} {t : List O}, IsPen o → ∀ x ∈ (o :: t).take 1, x.under 1 := fun h x hx => by
    cases hx with
    | head => exact h.under
    | tail _ q => cases q
  have gu : ∀ {xs : List Str} {r : Int}, 0 ≤ r → r < (sPy xs).length → ∃ x, x ∈ xs ∧ atI (sPy xs) r = some (.str x) := fun {xs r} h0 h1 => by
    rw [sPy_len] at h1
    obtain ⟨j, rfl⟩ := Int.eq_ofNat_of_zero_le h0
    have hj : j < xs.length := by omega
    exact ⟨xs[j], List.getElem_mem hj, atI_nat (sPy_get_of (List.getElem?_eq_getElem hj))⟩
  have st : ∀ {u}, u ∈ us → ∃ k, Stands ks u k := fun {u} hu => by
    obtain ⟨_, _, T, _⟩ := id hB
    exact (T.all u).mp hu
  show ExS K _ [some _, some _, some _, none, none, none, none, none, none, none, none, none, none, none, none] _ _
  refine xs_set (e_call0 (a_cons (e_op (e_var rfl (e_int (o_ixQ isq_tup rfl (a_nil ⟨trivial, ks, us, rfl, rfl, hB, fun A hA => ?_⟩)))))))
  refine xs_set (e_op (e_lstF (a_cons (e_str (a_cons (e_str (a_nil ⟨[.str "first", .str "last"], rfl, Nat.le_of_ble_eq_true rfl, e_draw 0 (a_cons (e_var rfl (a_cons (e_int (a_nil ⟨_, o, rfl, rfl, hp, by decide, by decide, fun r1 o1 a1 b1 p1 => ?_⟩)))))⟩)))))))
  obtain ⟨w, hw, gw⟩ : ∃ w : Str, (w = "first" ∨ w = "last") ∧ atI [PyData.str "first", .str "last"] r1 = some (.str w) := by
    have : r1 = 0 ∨ r1 = 1 := by omega
    rcases this with rfl | rfl
    · exact ⟨_, .inl rfl, rfl⟩
    · exact ⟨_, .inr rfl, rfl⟩
  refine o_ixQ isq_list gw ?_
  refine xs_set (e_op (e_var rfl (e_draw 0 (a_cons (e_var rfl (a_cons (e_cb (a_cons (e_var rfl (a_nil (c_lenQ isq_list (a_nil ⟨_, o1, rfl, rfl, p1, by rw [sPy_len]; omega, by rw [sPy_len]; omega, fun r2 o2 a2 b2 p2 => ?_⟩))))))))))))
  obtain ⟨u, hu, g2⟩ := gu a2 b2
  refine o_ixQ isq_list g2 ?_
  obtain ⟨k, hst⟩ := st hu
  have hk : k ∈ ks.map (·.1) := hst.knot
  have ku : u ∈ kids ks k := (mem_kids hB.names).mpr hst
  have hko := (hH.nm).knot hB hk
  show ExS K _ [some (.own 0), some (.f (houseD ks ts wt ws)), some (.f (.list (sPy us))), some (.own 1), some (.f (.str w)), some (.f (.str u)), none, none, none, none, none, none, none, none, none] [o2, .dct A] _
  refine xs_forQ (e_op (e_var rfl (e_int (o_ixQ isq_tup rfl ⟨pPy ws, isq_tup, fun i ρ' l' => ∃ a b, ρ' = [some (.own 0), some (.f (houseD ks ts wt ws)), some (.f (.list (sPy us))), some (.own 1), some (.f (.str w)), some (.f (.str u)), a, b, none, none, none, none, none, none, none] ∧ l' = [o2, .dct A] ∧ ∀ q ∈ ws.take i, q.2 ≠ u ∧ ¬ (q.1 = w ∧ q.2 ∈ kids ks k), ⟨none, none, rfl, rfl, by simp⟩, fun _ _ _ _ _ => isq_tup, ?_, ?_⟩))))
  · rintro i d ρ' l' hd ⟨a, b, rfl, rfl, hno⟩
    obtain ⟨q, hq, rfl⟩ := pPy_get hd
    have hqu := (hO.wants.ok q (List.mem_of_getElem? hq)).unit hB
    obtain ⟨kq, hsq⟩ := st hqu
    refine g_tup rfl (g_cons (g_name (g_cons (g_name (g_nil ?_)))))
    refine x_if (EvT.imp (R := fun b l1 => l1 = [o2, .dct A] ∧ (b = false → q.2 ≠ u ∧ ¬ (q.1 = w ∧ q.2 ∈ kids ks k))) (t_or (t_test (e_op (e_var rfl (e_var rfl (o_eqS ⟨_, rfl, ?_⟩)))))) ?_)
    · refine d_both (fun c => ⟨rfl, nofun⟩) (fun c => ?_)
      refine t_and (t_test (e_op (e_var rfl (e_var rfl (o_eqS ⟨_, rfl, ?_⟩)))))
      refine d_both (fun c2 => ?_) (fun c2 => ⟨rfl, fun _ => ⟨c, fun q => c2 q.1⟩⟩)
      refine t_test (e_op (e_op (e_var rfl (e_var rfl (o_ixDk (n := 1) (k := .inr q.2) rfl (hA _ _ hsq) ?_)))))
      refine e_op (e_var rfl (e_var rfl (o_ixDk (n := 1) (k := .inr u) rfl (hA _ _ hst) (o_eqS ⟨_, rfl, ?_⟩))))
      refine ⟨rfl, fun h => ⟨c, fun q' => ?_⟩⟩
      have h1 := (mem_kids hB.names).mp q'.2
      obtain ⟨_, _, T, _⟩ := id hB
      exact of_decide_eq_false h (T.one _ _ _ hsq h1)
    rintro b' l1 ⟨rfl, hb⟩
    cases b' with
    | true => exact x_ret (e_non (Res.dat (und p2) (z1 o2 p2)))
    | false =>
      refine x_next ⟨_, _, rfl, rfl, fun q' hq' => ?_⟩
      rw [L3.take_next hq] at hq'
      rcases List.mem_append.mp hq' with h | h
      · exact hno q' h
      · rw [List.mem_singleton.mp h]; exact hb rfl
  rintro ρ' l' ⟨a, b, rfl, rfl, hno⟩
  rw [pPy_len, List.take_length] at hno
  have und2 : ∀ {o : O} {t : List O}, IsPen o → ∀ x ∈ ([o, .dct A] : List O), x.under 2 := fun h => UndO.all ⟨h.under, trivial, trivial⟩
  have hkl := hB.kidsLen k
  refine xs_set (e_frzL (e_lcPF (strF fun x => decide (x ≠ u)) (gg_name (by decide)) (e_dictKnots hB.names (e_op (e_var rfl (e_int (o_ixQ isq_tup rfl ⟨rfl, e_op (e_var rfl (e_var rfl (o_ixDk (n := 1) (k := .inr u) rfl (hA _ _ hst) ⟨k, rfl, hk, rfl, sPy (kids ks k), rfl, by rw [sPy_len]; omega, fun d hd => ?_, 3, _, rfl, Nat.le_of_ble_eq_true rfl, rfl, UndO.all ⟨p2.under, trivial, trivial⟩, ?_⟩)))⟩)))))))
  · obtain ⟨x, hx, rfl⟩ := sPy_mem hd
    refine g_name (t_test (e_op (e_var rfl (e_var rfl (o_neS ⟨_, rfl, ?_⟩)))))
    refine nd_both (fun c => e_var rfl ⟨_, rfl, ?_, rfl⟩) (fun c => ⟨?_, rfl⟩)
    · exact if_pos (by simpa using c)
    · exact if_neg (by simp [c])
  rw [sPy_filter]
  have kk : ∀ x ∈ (kids ks k).filter fun x => decide (x ≠ u), x ∈ kids ks k ∧ x ≠ u := fun x hx => ⟨(List.mem_filter.mp hx).1, of_decide_eq_true (List.mem_filter.mp hx).2⟩
  have kkl : ((kids ks k).filter fun x => decide (x ≠ u)).length ≤ 60 := Nat.le_trans (List.length_filter_le _ _) hkl
  generalize ((kids ks k).filter fun x => decide (x ≠ u)) = kd at kk kkl
  have fw := edges_fw hO (k := k)
  have hel := edges_len (ts := ts) (ws := ws) hB (k := k)
  refine xs_set (e_frzL (e_call0 (a_cons (e_var rfl (a_cons (e_op (e_var rfl (e_var rfl (o_ixDk (n := 1) (k := .inr u) rfl (hA _ _ hst) (a_nil ⟨trivial, ks, us, ts, wt, ws, k, rfl, rfl, hB, hP, hH.tl, hwl, hk, hso, 2, _, rfl, Nat.le_refl _, rfl, UndO.all ⟨p2.under, trivial, trivial⟩, ?_⟩))))))))))
  show ExS K _ [some (.own 0), some (.f (houseD ks ts wt ws)), some (.f (.list (sPy us))), some (.own 1), some (.f (.str w)), some (.f (.str u)), a, b, some (.f (.list (sPy kd))), some (.f (.list (pPy (edgesF ks ts ws k)))), none, none, none, none, none] [o2, .dct A] _
  refine xs_gateC (kd ≠ []) (t_test (e_op (e_var rfl (e_lstF (a_nil ⟨[], rfl, Nat.le_of_ble_eq_true rfl, o_nil isl_list ⟨_, rfl, ?_⟩⟩))))) fun hne => ?_
  · rw [if_neg Bool.false_ne_true]
    cases kd with
    | nil => exact x_ret (e_non (Res.dat (und p2) (z1 o2 p2)))
    | cons x xs => exact ⟨rfl, by simp⟩
  have hkp : 0 < kd.length := List.length_pos_iff.mpr hne
  refine xs_set (e_op (e_var rfl (e_draw 0 (a_cons (e_var rfl (a_cons (e_cb (a_cons (e_var rfl (a_nil (c_lenQ isq_list (a_nil ⟨_, o2, rfl, rfl, p2, by rw [sPy_len]; omega, by rw [sPy_len]; omega, fun r3 o3 a3 b3 p3 => ?_⟩))))))))))))
  obtain ⟨c, hc, g3⟩ := gu a3 b3
  refine o_ixQ isq_list g3 ?_
  obtain ⟨kc, hcu⟩ := kk c hc
  obtain ⟨x, y, hxy⟩ : ∃ x y : Str, (x, y) = if w = ("last" : Str) then (c, u) else (u, c) := ⟨_, _, rfl⟩
  have kxy : x ∈ kids ks k ∧ y ∈ kids ks k := by
    split at hxy
    · cases hxy; exact ⟨kc, ku⟩
    · cases hxy; exact ⟨ku, kc⟩
  have gE : atI [PyData.tuple [.str u, .str c], .tuple [.str c, .str u]] (if decide (w = ("last" : Str)) = true then 1 else 0) = some (.tuple [.str x, .str y]) := by
    by_cases e : w = ("last" : Str)
    · rw [if_pos e] at hxy
      rw [if_pos (decide_eq_true e)]
      cases hxy
      rfl
    · rw [if_neg e] at hxy
      rw [if_neg (by simp [e])]
      cases hxy
      rfl
  refine xs_set (e_op (e_lstF (a_cons (e_tup (a_cons (e_var rfl (a_cons (e_var rfl (a_nil ⟨[.str u, .str c], rfl, Nat.le_of_ble_eq_true rfl, ?_⟩)))))))))
  refine a_cons (e_tup (a_cons (e_var rfl (a_cons (e_var rfl (a_nil ⟨[.str c, .str u], rfl, Nat.le_of_ble_eq_true rfl, a_nil ⟨[.tuple [.str u, .str c], .tuple [.str c, .str u]], rfl, Nat.le_of_ble_eq_true rfl, ?_⟩⟩))))))
  refine e_cb (a_cons (e_op (e_var rfl (e_str (o_eqS (a_nil (c_intB (o_ixQ isq_list gE ?_))))))))
  show ExS K _ [some (.own 0), some (.f (houseD ks ts wt ws)), some (.f (.list (sPy us))), some (.own 1), some (.f (.str w)), some (.f (.str u)), a, b, some (.f (.list (sPy kd))), some (.f (.list (pPy (edgesF ks ts ws k)))), some (.f (.str c)), some (.f (.tuple [.str x, .str y])), none, none, none] [o3, .dct A] _
  have gx : atI [PyData.str x, .str y] 0 = some (.str x) := rfl
  have gy : atI [PyData.str x, .str y] 1 = some (.str y) := rfl
  refine xs_set (e_call1 0 (a_cons (e_var rfl (a_cons (e_var rfl (a_cons (e_op (e_var rfl (e_int (o_ixQ isq_tup gy (a_cons (e_lstF (a_cons (e_op (e_var rfl (e_int (o_ixQ isq_tup gx (a_nil ⟨[.str x], rfl, Nat.le_of_ble_eq_true rfl, ?_⟩))))))))))))))))))
  refine a_nil ⟨_, _, rfl, p3.free, rfl, o3, edgesF ks ts ws k, y, [x], kids ks k, fun v => (kids ks k).idxOf v, rfl, rfl, p3, by omega, by show 1 ≤ 60; decide, hkl, fun e he => ⟨(edges_kids hB hP e he).1, (edges_kids hB hP e he).2.1⟩, fun g hg => by rw [List.mem_singleton.mp hg]; exact kxy.1, fun e he => ⟨fw e he, by show (kids ks k).idxOf e.2 ≤ 100; have := List.idxOf_le_length (l := kids ks k) (a := e.2); omega⟩, fun _ o4 p4 => ⟨_, _, rfl, ?_⟩, fun o4 q cur p4 W => ⟨_, _, rfl, ?_⟩⟩
  · rw [p4.shift1]
    refine xs_gateC False (t_test (e_op (e_var rfl (e_non (o_isN ⟨true, rfl, iteT ?_⟩))))) fun h => h.elim
    exact x_ret (e_non (Res.dat (und p4) (z1 o4 p4)))
  rw [p4.shift1]
  have hcx := List.mem_singleton.mp W.last
  subst hcx
  refine xs_gate (t_test (e_op (e_var rfl (e_non (o_isN ⟨false, rfl, iteF rfl⟩))))) ?_
  have nd := rise_nodup (onW_rise (f := fun v => (kids ks k).idxOf v) fw W.on)
  have hpl : (q ++ [cur]).length ≤ 60 := Nat.le_trans (nodup_le nd (onW_in (fun e he => ⟨(edges_kids hB hP e he).1, (edges_kids hB hP e he).2.1⟩) W.on kxy.1)) hkl
  refine xs_set (e_frzL (e_call1 0 (a_cons (e_var rfl (a_cons (e_var rfl (a_cons (e_op (e_var rfl (e_var rfl (o_ixDk (n := 1) (k := .inr u) rfl (hA _ _ hst) (a_cons (e_frz (e_var rfl ⟨2, _, rfl, rfl, ?_⟩))))))))))))))
  refine a_nil ⟨_, _, rfl, p4.free, rfl, o4, ks, us, ts, wt, ws, k, q ++ [cur], _, rfl, rfl, p4, .inl rfl, by simp, by omega, hH, hko, W.on, fun o5 ss p5 hA5 => ⟨_, _, rfl, ?_⟩⟩
  rw [p5.shift1]
  refine ⟨3, _, rfl, Nat.le_refl _, rfl, UndO.all ⟨p5.under, trivial, trivial, trivial⟩, ?_⟩
  have inn := hA5.inn hB hP W.on
  have hsl := hA5.len
  have okAll : StepsIn us (((w, cur, y) : Step3) :: ss) := fun t ht => by
    rcases List.mem_cons.mp ht with rfl | ht
    · exact ⟨.inr hw, hB.kid kxy.1, hB.kid kxy.2⟩
    · exact inn t ht
  obtain ⟨t1, t2, t3, t4⟩ := want44 hO hw ku kc hcu hno hxy W.hd W.on W.ne hA5
  refine x_ret (e_tup (a_cons (e_tup (a_cons (e_var rfl (a_cons (e_var rfl (a_nil ⟨_, rfl, Nat.le_of_ble_eq_true rfl, ?_⟩))))))))
  refine a_cons (e_op (e_lstF (a_cons (e_op (e_tup (a_cons (e_var rfl (a_nil ⟨[.str w], rfl, Nat.le_of_ble_eq_true rfl, e_var rfl (o_addTA (by show 1 + 2 ≤ _; decide) (a_nil ⟨[.tuple [.str w, .str cur, .str y]], rfl, Nat.le_of_ble_eq_true rfl, ?_⟩))⟩))))))))
  refine e_var rfl (o_addLF isl_list isl_list (by rw [s3Py_len]; show 1 + _ ≤ _; omega) (a_nil ⟨_, rfl, Nat.le_of_ble_eq_true rfl, ?_⟩))
  exact Res.dat (und p5) (z2 o5 _ _ (((w, cur, y) : Step3) :: ss) p5 (.want hw hu) ⟨okAll, by rw [List.length_cons]; omega, t1, t2, t3, t4⟩)
section
variable {K : PySem.W.Frag} {l : List O} {ρ : List (Option D)} {R : D → List O → Prop} {te : TE}
theorem e_frzE (h : EvS K te ρ l fun d l1 => (∃ n ds, d = .own n ∧ l1[n]? = some (.lst ds) ∧ R (.f (.list ds)) (l1.set n .gone)) ∨ ∃ x, d = .f x ∧ R (.f x) l1) : EvS K te ρ l R := fun m B H σ S e Q q => by
  refine h m B H σ S e _ fun v m1 B1 H1 d l1 s1 S1 r1 hz => ?_
  rcases hz with ⟨n, ds, ed, hn, z⟩ | ⟨x, ed, z⟩
  · subst ed
    obtain ⟨a, rfl, ha⟩ := r1
    obtain ⟨⟨xs, e1, r⟩, _⟩ := S1.obj n a _ ha hn
    obtain ⟨S2, s2, r2⟩ := S1.frz ha hn e1 r
    exact q (.ref a) m1 _ H1 (.f (.list ds)) _ (s1.trans s2) S2 r2 z
  · subst ed
    exact q v m1 B1 H1 _ l1 s1 S1 r1 z
end
def S__law_names_turned : Spec3 := fun ds g R => ∃ (o : O) (M : List Str), ds = [.own 0, .f (.list (sPy M))] ∧ g = [o] ∧ IsPen o ∧ M.length ≤ 60 ∧ ∀ o' b M', IsPen o' → M'.Perm M → R (.f (mPy b M')) [o']
abbrev s__law_names_turned : Stmt := top 36
theorem sc__law_names_turned : FnScope ["_law_pen_here", "_law_some", "_law_found", "_law_one"] ["_law_pen_here", "_law_some"] (defScope s__law_names_turned) := ⟨rfl, rfl, rfl, by decide +kernel, rfl, by decide +kernel, by decide +kernel⟩
set_option maxHeartbeats 4000000 in
theorem ok__law_names_turned (T : Bi K mg) (Df : DefAt K mg "_law_names_turned" s__law_names_turned ["_law_pen_here", "_law_some"]) (C__law_draw : Cal P w K mg base 1 "_law_draw" ["_law_pen_here", "_law_most"] S__law_draw) : Cal P w K mg base 2 "_law_names_turned" ["_law_pen_here", "_law_some"] S__law_names_turned := by
  refine ok4 Df sc__law_names_turned (fun ds g R h0 => by obtain ⟨_, _, h, _⟩ := h0; rw [h]; rfl) (fun cdv A outer s H E f hr => ?_)
  have hu1 := hu_of hr.r
  have hu64 := hr.units
  have hu65 : (A.deeper (PyProof.Rows.envOfC "_law_names_turned" (defScope s__law_names_turned) s.heap.objs.size f cdv)).units + 65 < cLine := by have := hr.un; omega
  refine ⟨_, (pss_cons (ps_set (i := 2) sc__law_names_turned.nd rfl (by first | exact Or.inl rfl | exact Or.inr rfl) (pe_lst pa_nil))
    (pss_cons (ps_for PassesOwn.never rfl (u_seq (K := K) rfl (pv 1)) (pg_name (i := 3) sc__law_names_turned.nd rfl (by first | exact Or.inl rfl | exact Or.inr rfl))
    (pss_one (ps_expr (u_bm (K := K) rfl PySem.F.plainAttrs_list PySem.F.slot_list_insert PySem.F.type_list_insert u_insert (pv 2) (pa_cons (pe_cal (K := K) rfl C__law_draw (hr.mono (by decide)) (by rfl) (pa_cons (pv 0) (pa_cons (pe_op (u_add (K := K) rfl) (pe_callB (u_len (K := K) rfl) (by rfl) T.b_len (by decide +kernel) (pa_cons (pv 2) pa_nil)) pe_int) pa_nil))) (pa_cons (pv 3) pa_nil))))))
    (pss_one (ps_ret (pe_ix (u_ix (K := K) rfl hu1) (pe_lst (pa_cons (pv 2) (pa_cons (pe_callTy (u_tuple (K := K) rfl) (by rfl) T.b_tuple (by decide +kernel) (pa_cons (pv 2) pa_nil)) pa_nil))) (pe_cal (K := K) rfl C__law_draw (hr.mono (by decide)) (by rfl) (pa_cons (pv 0) (pa_cons pe_int pa_nil))) (fun _ _ => rfl)))))), fun ds g R hS => ?_⟩
  obtain ⟨o, M, rfl, rfl, hp, hMl, z⟩ := hS
  show ExS K _ [some _, some _, none, none] _ _
  refine xs_set (e_lst (a_nil ⟨[], rfl, by decide, ?_⟩))
  show ExS K _ [some (.own 0), some (.f (.list (sPy M))), some (.own 1), none] [o, .lst (sPy [])] _
  refine xs_forQ (e_var rfl ⟨sPy M, isq_list, fun i ρ' l' => ∃ o' ln a, ρ' = [some (.own 0), some (.f (.list (sPy M))), some (.own 1), a] ∧ l' = [o', .lst (sPy ln)] ∧ IsPen o' ∧ ln.Perm (M.take i), ⟨o, [], none, rfl, rfl, hp, .refl _⟩, fun _ _ _ _ _ => isq_list, ?_, ?_⟩)
  · rintro i d ρ' l' hd ⟨o', ln, a, rfl, rfl, hp', hpm⟩
    obtain ⟨x, hx, rfl⟩ := sPy_get hd
    have hll : ln.length ≤ M.length := by rw [hpm.length_eq, List.length_take]; exact Nat.min_le_right ..
    refine g_name (x_drop (e_bmL (e_var rfl ⟨⟨_, isl_own (n := 1) rfl⟩, a_cons (e_draw 0 (a_cons (e_var rfl (a_cons (e_op (e_cb (a_cons (e_var rfl (a_nil (c_lenQ (isq_own (n := 1) rfl) (e_int (o_addI (a_nil ⟨_, o', rfl, rfl, hp', by rw [sPy_len]; omega, by rw [sPy_len]; omega, fun r o2 a2 b2 p2 => a_cons (e_var rfl (a_nil (m_insert (n := 1) rfl (by rw [sPy_len]; omega) a2 (by rw [sPy_len] at b2; omega) ?_)))⟩)))))))))))))⟩)))
    refine ⟨o2, insAt ln r.toNat x, _, rfl, ?_, p2, ?_⟩
    · unfold sPy
      rw [insAt_map]
      rfl
    · rw [L3.take_next hx]
      exact (insAt_perm ..).trans ((hpm.cons x).trans (List.perm_append_singleton x _).symm)
  rintro ρ' l' ⟨o2, ln, a, rfl, rfl, p2, hpm⟩
  rw [sPy_len, List.take_length] at hpm
  refine x_ret (e_frzE (e_op (e_rfs (a_cons (e_var rfl (a_cons (e_cb (a_cons (e_var rfl (a_nil (c_tuple (isq_own (n := 1) rfl) (a_nil ⟨Nat.le_of_ble_eq_true rfl, ?_⟩))))))))))))
  refine e_draw 0 (a_cons (e_var rfl (a_cons (e_int (a_nil ⟨_, o2, rfl, rfl, p2, by decide, by decide, fun r o3 a3 b3 p3 => ?_⟩)))))
  have : r = 0 ∨ r = 1 := by omega
  have und : ∀ {o : O} {t : List O}, IsPen o → ∀ x ∈ (o :: t).take 1, x.under 1 := fun h x hx => by
    cases hx with
    | head => exact h.under
    | tail _ q => cases q
  rcases this with rfl | rfl
  · exact o_ixR rfl rfl (.inl ⟨1, _, rfl, rfl, Res.dat (und p3) (z o3 true ln p3 hpm)⟩)
  · exact o_ixR rfl rfl (.inr ⟨_, rfl, Res.dat (und p3) (z o3 false ln p3 hpm)⟩)
def notIn (M : List Str) : PyData → Option PyData
  | .tuple [a, .str b] => if b ∈ M then none else some (.tuple [a, .str b])
  | _ => none
theorem notIn_eq (M : List Str) (ws : Ties) : (pPy ws).filterMap (notIn M) = pPy (bareW ws M) := by
  induction ws with
  | nil => rfl
  | cons e ws ih =>
    have e1 : notIn M (.tuple [.str e.1, .str e.2]) = if e.2 ∈ M then none else some (.tuple [.str e.1, .str e.2]) := rfl
    show (PyData.tuple [.str e.1, .str e.2] :: pPy ws).filterMap _ = _
    rw [List.filterMap_cons, ih, e1]
    unfold bareW
    rw [List.filter_cons]
    by_cases c : e.2 ∈ M
    · rw [if_pos c, if_neg (by simp [c])]
    · rw [if_neg c, if_pos (by simp [c])]
      rfl
def S__law_group : Spec3 := fun ds g R => ∃ (o : O) (ks : Knots) (us : List Str) (ts wt ws : Ties), ds = [.own 0, .f (houseD ks ts wt ws), .f (.list (sPy us))] ∧ g = [o] ∧ IsPen o ∧ HouseOk ks us ts wt ws ∧ (∀ u ∈ us, PyData.strOk u = true) ∧ us ≠ [] ∧ us.length ≤ 60 ∧
  (∀ o', IsPen o' → R (.f .none) [o']) ∧ ∀ o' asked look ring, IsPen o' → Asked ks us ts ws 2 asked look → Ring44 us look ring → R (.f (.tuple [asked, .list (s3Py ring)])) [o']
abbrev s__law_group : Stmt := top 35
theorem sc__law_group : FnScope ["_law_pen_here", "_law_house_here", "_law_units", "_law_knot", "_law_kids", "_law_members", "_law_wants_here", "_law_bare", "_law_edges_here", "_law_here", "_law_there", "_law_begin", "_law_row", "_law_kid", "_law_want_here"] ["_law_pen_here", "_law_house_here", "_law_units"] (defScope s__law_group) := ⟨rfl, rfl, rfl, by decide +kernel, rfl, by decide +kernel, by decide +kernel⟩
set_option maxHeartbeats 4000000 in
theorem ok__law_group (T : Bi K mg) (Df : DefAt K mg "_law_group" s__law_group ["_law_pen_here", "_law_house_here", "_law_units"]) (C__law_along : Cal P w K mg base 4 "_law_along" ["_law_pen_here", "_law_house_here", "_law_knot", "_law_row"] S__law_along) (C__law_names_turned : Cal P w K mg base 2 "_law_names_turned" ["_law_pen_here", "_law_some"] S__law_names_turned) (C__law_walk : Cal P w K mg base 2 "_law_walk" ["_law_pen_here", "_law_edges_here", "_law_here", "_law_goals"] S__law_walk) (C__law_draw : Cal P w K mg base 1 "_law_draw" ["_law_pen_here", "_law_most"] S__law_draw) (C__law_edges : Cal P w K mg base 3 "_law_edges" ["_law_house_here", "_law_knot"] S__law_edges) (C__law_around : Cal P w K mg base 1 "_law_around" ["_law_knots"] S__law_around) : Cal P w K mg base 5 "_law_group" ["_law_pen_here", "_law_house_here", "_law_units"] S__law_group := by
  refine ok4 Df sc__law_group (fun ds g R h0 => by obtain ⟨_, _, _, _, _, _, h, _⟩ := h0; rw [h]; rfl) (fun cdv A outer s H E f hr => ?_)
  have hu1 := hu_of hr.r
  have hu64 := hr.units
  have hu65 : (A.deeper (PyProof.Rows.envOfC "_law_group" (defScope s__law_group) s.heap.objs.size f cdv)).units + 65 < cLine := by have := hr.un; omega
  refine ⟨_, (pss_cons (ps_set (i := 3) sc__law_group.nd rfl (by first | exact Or.inl rfl | exact Or.inr rfl) (pe_ix (u_ix (K := K) rfl hu1) (pe_cal (K := K) rfl C__law_around (hr.mono (by decide)) (by rfl) (pa_cons (pe_ix (u_ix (K := K) rfl hu1) (pv 1) pe_int (fun _ _ => rfl)) pa_nil)) (pe_ix (u_ix (K := K) rfl hu1) (pv 2) (pe_cal (K := K) rfl C__law_draw (hr.mono (by decide)) (by rfl) (pa_cons (pv 0) (pa_cons (pe_callB (u_len (K := K) rfl) (by rfl) T.b_len (by decide +kernel) (pa_cons (pv 2) pa_nil)) pa_nil))) (fun _ _ => rfl)) (fun _ _ => rfl)))
    (pss_cons (ps_set (i := 4) sc__law_group.nd rfl (by first | exact Or.inl rfl | exact Or.inr rfl) (pe_ix (u_ix (K := K) rfl hu1) (pe_callTy (u_dictP (K := K) rfl rfl) (by rfl) T.b_dict (by decide +kernel) (pa_cons (pe_ix (u_ix (K := K) rfl hu1) (pv 1) pe_int (fun _ _ => rfl)) pa_nil)) (pv 3) (fun _ _ => rfl)))
    (pss_cons (ps_set (i := 5) sc__law_group.nd rfl (by first | exact Or.inl rfl | exact Or.inr rfl) (pe_lc (own := [("_law_kid", 13)]) (by rfl) sc__law_group.nd (u_seq (K := K) rfl (pv 4)) (blkOk_by (own := [("_law_kid", 13)]) (N := ["_law_pen_here", "_law_house_here", "_law_units", "_law_knot", "_law_kids", "_law_members", "_law_wants_here", "_law_bare", "_law_edges_here", "_law_here", "_law_there", "_law_begin", "_law_row", "_law_kid", "_law_want_here"]) (sc := defScope s__law_group) (by decide +kernel)) (fun _ _ _ _ _ => (pg_name (i := 13) sc__law_group.nd rfl (by first | exact Or.inl rfl | exact Or.inr rfl))) (fun _ _ _ _ _ => (pts_one (pt_cmpR (u_eq (K := K) rfl hu64) (pe_cal (K := K) rfl C__law_draw (hr.mono (by decide)) (by rfl) (pa_cons (pv 0) (pa_cons pe_int pa_nil))) pe_int (nomark _)))) (fun _ _ _ _ _ => (pv 13))))
    (pss_cons (ps_if (pt_cmpR (u_eq0 (K := K) rfl hu64) (pv 5) (pe_lst pa_nil) (nomark _))
    (pss_one (ps_ret pe_non))
    pss_nil)
    (pss_cons (ps_set (i := 6) sc__law_group.nd rfl (by first | exact Or.inl rfl | exact Or.inr rfl) (pe_callTy (u_tuple (K := K) rfl) (by rfl) T.b_tuple (by decide +kernel) (pa_cons (pe_lc (own := [("_law_want_here", 14)]) (by rfl) sc__law_group.nd (u_seq (K := K) rfl (pe_ix (u_ix (K := K) rfl hu1) (pv 1) pe_int (fun _ _ => rfl))) (blkOk_by (own := [("_law_want_here", 14)]) (N := ["_law_pen_here", "_law_house_here", "_law_units", "_law_knot", "_law_kids", "_law_members", "_law_wants_here", "_law_bare", "_law_edges_here", "_law_here", "_law_there", "_law_begin", "_law_row", "_law_kid", "_law_want_here"]) (sc := defScope s__law_group) (by decide +kernel)) (fun _ _ _ _ _ => (pg_name (i := 14) sc__law_group.nd rfl (by first | exact Or.inl rfl | exact Or.inr rfl))) (fun _ _ _ _ _ => (pts_one (pt_cmpR (u_notIn (K := K) rfl hu65) (pe_ix (u_ix (K := K) rfl hu1) (pv 14) pe_int (fun _ _ => rfl)) (pv 5) (by rfl)))) (fun _ _ _ _ _ => (pv 14))) pa_nil)))
    (pss_cons (ps_set (i := 7) sc__law_group.nd rfl (by first | exact Or.inl rfl | exact Or.inr rfl) (pe_op (u_add (K := K) rfl) (pe_slice (u_sl (K := K) rfl) (pv 1) po_none (po_some pe_int)) (pe_tup (pa_cons (pv 6) pa_nil))))
    (pss_cons (ps_set (i := 8) sc__law_group.nd rfl (by first | exact Or.inl rfl | exact Or.inr rfl) (pe_lst pa_nil))
    (pss_cons (ps_for PassesOwn.never rfl (u_seq (K := K) rfl (pe_cal (K := K) rfl C__law_edges (hr.mono (by decide)) (by rfl) (pa_cons (pv 7) (pa_cons (pv 3) pa_nil)))) (u_tup (K := K) (n := 2) rfl (by rfl) (pgs_cons (pg_name (i := 9) sc__law_group.nd rfl (by first | exact Or.inl rfl | exact Or.inr rfl)) (pgs_cons (pg_name (i := 10) sc__law_group.nd rfl (by first | exact Or.inl rfl | exact Or.inr rfl)) pgs_nil)))
    (pss_one (ps_if (PW.pt (pw_or (pt_cmpR (u_notIn (K := K) rfl hu65) (pv 9) (pv 5) (by rfl)) (pw_or1 (pt_cmpR (u_notIn (K := K) rfl hu65) (pv 10) (pv 5) (by rfl)))))
    (pss_one (ps_expr (u_bm (K := K) rfl PySem.F.plainAttrs_list PySem.F.slot_list_append PySem.F.type_list_append mt_append (pv 8) (pa_cons (pe_tup (pa_cons (pv 9) (pa_cons (pv 10) pa_nil))) pa_nil))))
    pss_nil)))
    (pss_cons (ps_set (i := 11) sc__law_group.nd rfl (by first | exact Or.inl rfl | exact Or.inr rfl) (pe_ix (u_ix (K := K) rfl hu1) (pv 5) (pe_cal (K := K) rfl C__law_draw (hr.mono (by decide)) (by rfl) (pa_cons (pv 0) (pa_cons (pe_callB (u_len (K := K) rfl) (by rfl) T.b_len (by decide +kernel) (pa_cons (pv 5) pa_nil)) pa_nil))) (fun _ _ => rfl)))
    (pss_cons (ps_set (i := 12) sc__law_group.nd rfl (by first | exact Or.inl rfl | exact Or.inr rfl) (pe_cal (K := K) rfl C__law_walk (hr.mono (by decide)) (by rfl) (pa_cons (pv 0) (pa_cons (pv 8) (pa_cons (pv 11) (pa_cons (pv 5) pa_nil))))))
    (pss_cons (ps_if (pt_cmpR op_isN1 (pv 12) pe_non (nomark _))
    (pss_one (ps_ret pe_non))
    pss_nil)
    (pss_one (ps_ret (pe_tup (pa_cons (pe_cal (K := K) rfl C__law_names_turned (hr.mono (by decide)) (by rfl) (pa_cons (pv 0) (pa_cons (pv 5) pa_nil))) (pa_cons (pe_cal (K := K) rfl C__law_along (hr.mono (by decide)) (by rfl) (pa_cons (pv 0) (pa_cons (pv 7) (pa_cons (pv 3) (pa_cons (pv 12) pa_nil))))) pa_nil)))))))))))))))), fun ds g R hS => ?_⟩
  obtain ⟨o, ks, us, ts, wt, ws, rfl, rfl, hp, hO, hso, hun, hul, z1, z2⟩ := hS
  have hB := hO.tree
  have hP := hO.ties.pa
  have hH := hs44 hO hso
  have htl := hO.tl
  have hwl := hH.wl
  have hup : 0 < us.length := List.length_pos_iff.mpr hun
  have und : ∀ {o : O} {t : List O}, IsPen o → ∀ x ∈ (o :: t).take 1, x.under 1 := fun h x hx => by
    cases hx with
    | head => exact h.under
    | tail _ q => cases q
  have gu : ∀ {xs : List Str} {r : Int}, 0 ≤ r → r < (sPy xs).length → ∃ x, x ∈ xs ∧ atI (sPy xs) r = some (.str x) := fun {xs r} h0 h1 => by
    rw [sPy_len] at h1
    obtain ⟨j, rfl⟩ := Int.eq_ofNat_of_zero_le h0
    have hj : j < xs.length := by omega
    exact ⟨xs[j], List.getElem_mem hj, atI_nat (sPy_get_of (List.getElem?_eq_getElem hj))⟩
  have st : ∀ {u}, u ∈ us → ∃ k, Stands ks u k := fun {u} hu => by
    obtain ⟨_, _, T, _⟩ := id hB
    exact (T.all u).mp hu
  show ExS K _ [some _, some _, some _, none, none, none, none, none, none, none, none, none, none, none, none] _ _
  refine xs_set (e_op (e_call0 (a_cons (e_op (e_var rfl (e_int (o_ixQ isq_tup rfl (a_nil ⟨trivial, ks, us, rfl, rfl, hB, fun A hA => ?_⟩))))))))
  refine e_op (e_var rfl (e_draw 0 (a_cons (e_var rfl (a_cons (e_cb (a_cons (e_var rfl (a_nil (c_lenQ isq_list (a_nil ⟨_, o, rfl, rfl, hp, by rw [sPy_len]; omega, by rw [sPy_len]; omega, fun r1 o1 a1 b1 p1 => ?_⟩)))))))))))
  obtain ⟨u, hu, g1⟩ := gu a1 b1
  obtain ⟨k, hst⟩ := st hu
  have hk : k ∈ ks.map (·.1) := hst.knot
  have hko := (hH.nm).knot hB hk
  have hkl := hB.kidsLen k
  have fw := edges_fw hO (k := k)
  refine o_ixQ isq_list g1 (o_ixDk (n := 1) (k := .inr u) rfl (hA _ _ hst) ?_)
  refine xs_set (e_dictKnots hB.names (e_op (e_var rfl (e_int (o_ixQ isq_tup rfl ⟨rfl, e_var rfl ⟨k, rfl, hk, rfl, ?_⟩⟩)))))
  show ExS K _ [some (.own 0), some (.f (houseD ks ts wt ws)), some (.f (.list (sPy us))), some (.f (.str k)), some (.f (plD (sPy (kids ks k)))), none, none, none, none, none, none, none, none, none, none] [o1, .dct A, .dct (mergeD [] (ksPrs ks))] _
  generalize mergeD [] (ksPrs ks) = D0
  have und3 : ∀ {o : O}, IsPen o → ∀ x ∈ ([o, .dct A, .dct D0] : List O), x.under 3 := fun h => UndO.all ⟨h.under, trivial, trivial, trivial⟩
  refine xs_set (e_frzL (e_lcP (gg_name (by decide)) (e_var rfl ⟨sPy (kids ks k), rfl, fun i acc l' => ∃ o' ys, l' = [o', .dct A, .dct D0] ∧ IsPen o' ∧ acc = sPy ys ∧ ys.Sublist ((kids ks k).take i), ⟨o1, [], rfl, p1, rfl, List.nil_sublist _⟩, ?_, ?_, ?_⟩)))
  · rintro i acc l' hi ⟨o', ys, rfl, hp', rfl, hsub⟩
    have := (hsub.trans (List.take_sublist _ _)).length_le
    rw [sPy_len]; omega
  · rintro i d acc l' hd ⟨o', ys, rfl, hp', rfl, hsub⟩
    obtain ⟨x, hx, rfl⟩ := sPy_get hd
    refine g_name (t_test (e_op (e_draw 0 (a_cons (e_var rfl (a_cons (e_int (a_nil ⟨_, o', rfl, rfl, hp', by decide, by decide, fun r o5 a5 b5 p5 => e_int (o_eqI ⟨_, rfl, ?_⟩)⟩))))))))
    have tn := L3.take_next hx
    refine d_both (fun c => e_var rfl ⟨_, rfl, o5, ys ++ [x], rfl, p5, by rw [sPy_app]; rfl, by rw [tn]; exact hsub.append (List.Sublist.refl _)⟩) (fun c => ⟨o5, ys, rfl, p5, rfl, by rw [tn]; exact hsub.trans (List.sublist_append_left _ _)⟩)
  rintro acc l' ⟨o2, M, rfl, p2, rfl, hsub⟩
  have hMs : M.Sublist (kids ks k) := hsub.trans (List.take_sublist _ _)
  have hMl := hMs.length_le
  refine ⟨3, _, rfl, Nat.le_refl _, rfl, und3 p2, ?_⟩
  show ExS K _ [some (.own 0), some (.f (houseD ks ts wt ws)), some (.f (.list (sPy us))), some (.f (.str k)), some (.f (plD (sPy (kids ks k)))), some (.f (.list (sPy M))), none, none, none, none, none, none, none, none, none] [o2, .dct A, .dct D0] _
  refine xs_gateC (M ≠ []) (t_test (e_op (e_var rfl (e_lstF (a_nil ⟨[], rfl, Nat.le_of_ble_eq_true rfl, o_nil isl_list ⟨_, rfl, ?_⟩⟩))))) fun hne => ?_
  · rw [if_neg Bool.false_ne_true]
    cases M with
    | nil => exact x_ret (e_non (Res.dat (und p2) (z1 o2 p2)))
    | cons x xs => exact ⟨rfl, by simp⟩
  have hMk : ∀ m ∈ M, m ∈ kids ks k := fun m hm => hMs.subset hm
  have hpos : 0 < M.length := List.length_pos_iff.mpr hne
  have hbl : (bareW ws M).length ≤ ws.length := List.length_filter_le _ _
  refine xs_set (e_cb (a_cons (e_frzL (e_lcF (notIn M) (gg_name (by decide)) (e_op (e_var rfl (e_int (o_ixQ isq_tup rfl ⟨pPy ws, isq_tup, by rw [pPy_len]; omega, fun d hd => ?_, 3, _, rfl, Nat.le_refl _, rfl, und3 p2, ?_⟩))))))))
  · obtain ⟨e, he, rfl⟩ := List.mem_map.mp hd
    have g1 : atI [PyData.str e.1, .str e.2] 1 = some (.str e.2) := rfl
    have e1 : notIn M (.tuple [.str e.1, .str e.2]) = if e.2 ∈ M then none else some (.tuple [.str e.1, .str e.2]) := rfl
    refine g_name (t_test (e_op (e_op (e_var rfl (e_int (o_ixQ isq_tup g1 (e_var rfl (o_ninS isq_list ⟨_, rfl, ?_⟩))))))))
    exact nd_both (fun c => e_var rfl ⟨_, rfl, e1.trans (if_neg c), rfl⟩) (fun c => ⟨e1.trans (if_pos c), rfl⟩)
  rw [notIn_eq]
  refine a_nil (c_tuple isq_list ?_)
  refine xs_set (e_op (e_sl (e_var rfl (o_none (o_some (e_int ⟨3, rfl, s_tup (fun h => by have h1 : (3 : Nat) = 4 := h.2; cases h1) (e_tup (a_cons (e_var rfl (a_nil ⟨[.tuple (pPy (bareW ws M))], rfl, Nat.le_of_ble_eq_true rfl, o_addTA (by show 3 + 1 ≤ _; decide) ?_⟩))))⟩))))))
  refine xs_set (e_lst (a_nil ⟨[], rfl, by decide, ?_⟩))
  show ExS K _ [some (.own 0), some (.f (houseD ks ts wt ws)), some (.f (.list (sPy us))), some (.f (.str k)), some (.f (plD (sPy (kids ks k)))), some (.f (.list (sPy M))), some (.f (.tuple (pPy (bareW ws M)))), some (.f (houseD ks ts wt (bareW ws M))), some (.own 3), none, none, none, none, none, none] [o2, .dct A, .dct D0, .lst (pPy [])] _
  have hel := edges_len (ts := ts) (ws := bareW ws M) hB (k := k)
  have und4 : ∀ {o : O} {ds : List PyData}, IsPen o → ∀ x ∈ ([o, .dct A, .dct D0, .lst ds] : List O), x.under 4 := fun h => UndO.all ⟨h.under, trivial, trivial, trivial, trivial⟩
  refine xs_forQ (e_frzL (e_call0 (a_cons (e_var rfl (a_cons (e_var rfl (a_nil ⟨trivial, ks, us, ts, wt, bareW ws M, k, rfl, rfl, hB, hP, hH.tl, by omega, hk, hso, 4, _, rfl, Nat.le_refl _, rfl, und4 p2, pPy (edgesF ks ts (bareW ws M) k), isq_list, fun i ρ' l' => ∃ a b, ρ' = [some (.own 0), some (.f (houseD ks ts wt ws)), some (.f (.list (sPy us))), some (.f (.str k)), some (.f (plD (sPy (kids ks k)))), some (.f (.list (sPy M))), some (.f (.tuple (pPy (bareW ws M)))), some (.f (houseD ks ts wt (bareW ws M))), some (.own 3), a, b, none, none, none, none] ∧ l' = [o2, .dct A, .dct D0, .lst (pPy (((edgesF ks ts (bareW ws M) k).take i).filter fun e => !decide (e.1 ∈ M ∧ e.2 ∈ M)))], ⟨none, none, rfl, rfl⟩, fun _ _ _ _ _ => isq_list, ?_, ?_⟩)))))))
  · rintro i d ρ' l' hd ⟨a, b, rfl, rfl⟩
    obtain ⟨e, he, rfl⟩ := pPy_get hd
    have hil := (List.getElem?_eq_some_iff.mp he).1
    have tn := L3.take_next he
    have hfl : (((edgesF ks ts (bareW ws M) k).take i).filter fun e => !decide (e.1 ∈ M ∧ e.2 ∈ M)).length ≤ 19000 := by
      have h1 := List.length_filter_le (fun e : Str × Str => !decide (e.1 ∈ M ∧ e.2 ∈ M)) ((edgesF ks ts (bareW ws M) k).take i)
      rw [List.length_take] at h1
      omega
    refine g_tup rfl (g_cons (g_name (g_cons (g_name (g_nil ?_)))))
    refine x_if (EvT.imp (R := fun b l1 => l1 = [o2, .dct A, .dct D0, .lst (pPy (((edgesF ks ts (bareW ws M) k).take i).filter fun e => !decide (e.1 ∈ M ∧ e.2 ∈ M)))] ∧ b = !decide (e.1 ∈ M ∧ e.2 ∈ M)) (t_or (t_test (e_op (e_var rfl (e_var rfl (o_ninS isq_list ⟨_, rfl, ?_⟩)))))) ?_)
    · refine nd_both (fun c => ⟨rfl, by simp [c]⟩) (fun c => ?_)
      refine t_test (e_op (e_var rfl (e_var rfl (o_ninS isq_list ⟨_, rfl, ?_⟩))))
      exact ⟨rfl, by simp [c]⟩
    rintro b' l1 ⟨rfl, hb⟩
    cases b' with
    | true =>
      refine x_drop (e_bmL (e_var rfl ⟨⟨_, isl_own (n := 3) rfl⟩, a_cons (e_tup (a_cons (e_var rfl (a_cons (e_var rfl (a_nil ⟨_, rfl, Nat.le_of_ble_eq_true rfl, a_nil (m_append (n := 3) rfl (by rw [pPy_len]; omega) ?_)⟩))))))⟩))
      refine ⟨_, _, rfl, ?_⟩
      rw [tn, List.filter_append, pPy_app, List.filter_cons, ← hb]
      rfl
    | false =>
      refine x_next ⟨_, _, rfl, ?_⟩
      rw [tn, List.filter_append, List.filter_cons, ← hb, if_neg Bool.false_ne_true, List.filter_nil, List.append_nil]
  rintro ρ' l' ⟨a, b, rfl, rfl⟩
  rw [pPy_len, List.take_length]
  have hE : ∀ e ∈ (edgesF ks ts (bareW ws M) k).filter fun e => !decide (e.1 ∈ M ∧ e.2 ∈ M), e ∈ edgesF ks ts (bareW ws M) k ∧ ¬ (e.1 ∈ M ∧ e.2 ∈ M) := fun e he => ⟨(List.mem_filter.mp he).1, fun q => by have := (List.mem_filter.mp he).2; simp [q.1, q.2] at this⟩
  have hEl := List.length_filter_le (fun e : Str × Str => !decide (e.1 ∈ M ∧ e.2 ∈ M)) (edgesF ks ts (bareW ws M) k)
  generalize ((edgesF ks ts (bareW ws M) k).filter fun e => !decide (e.1 ∈ M ∧ e.2 ∈ M)) = E at hE hEl
  have fwb : ∀ e ∈ edgesF ks ts (bareW ws M) k, (kids ks k).idxOf e.1 < (kids ks k).idxOf e.2 := fun e he => fw e (edges_sub bare_sub e he)
  have ekb : ∀ e ∈ edgesF ks ts (bareW ws M) k, e.1 ∈ kids ks k ∧ e.2 ∈ kids ks k := fun e he => ⟨(edges_kids hB hP e he).1, (edges_kids hB hP e he).2.1⟩
  refine xs_set (e_op (e_var rfl (e_draw 0 (a_cons (e_var rfl (a_cons (e_cb (a_cons (e_var rfl (a_nil (c_lenQ isq_list (a_nil ⟨_, o2, rfl, rfl, p2, by rw [sPy_len]; omega, by rw [sPy_len]; omega, fun r3 o3 a3 b3 p3 => ?_⟩))))))))))))
  obtain ⟨y, hy, g3⟩ := gu a3 b3
  refine o_ixQ isq_list g3 ?_
  refine xs_set (e_call1 0 (a_cons (e_var rfl (a_cons (e_frz (e_var rfl ⟨3, _, rfl, rfl, ?_⟩))))))
  refine a_cons (e_var rfl (a_cons (e_var rfl (a_nil ⟨_, _, rfl, p3.free, rfl, o3, E, y, M, kids ks k, fun v => (kids ks k).idxOf v, rfl, rfl, p3, by omega, by omega, hkl, fun e he => ekb e (hE e he).1, hMk, fun e he => ⟨fwb e (hE e he).1, by show (kids ks k).idxOf e.2 ≤ 100; have := List.idxOf_le_length (l := kids ks k) (a := e.2); omega⟩, fun _ o4 p4 => ⟨_, _, rfl, ?_⟩, fun o4 q cur p4 W => ⟨_, _, rfl, ?_⟩⟩))))
  · rw [p4.shift1]
    refine xs_gateC False (t_test (e_op (e_var rfl (e_non (o_isN ⟨true, rfl, iteT ?_⟩))))) fun h => h.elim
    exact x_ret (e_non (Res.dat (und p4) (z1 o4 p4)))
  rw [p4.shift1]
  refine xs_gate (t_test (e_op (e_var rfl (e_non (o_isN ⟨false, rfl, iteF rfl⟩))))) ?_
  have on : OnW (edgesF ks ts (bareW ws M) k) (q ++ [cur]) := fun e he => (hE e (W.on e he)).1
  have nd := rise_nodup (onW_rise (f := fun v => (kids ks k).idxOf v) fwb on)
  have hpl : (q ++ [cur]).length ≤ 60 := Nat.le_trans (nodup_le nd (onW_in ekb on (hMk _ W.last))) hkl
  have hq2 : 2 ≤ q.length := by
    match q, W with
    | [], W => exact absurd rfl W.ne
    | [c], W =>
      have hc : c = y := Option.some.inj W.hd
      subst hc
      exact absurd ⟨hy, W.last⟩ (hE (c, cur) (W.on _ (by simp))).2
    | _ :: _ :: _, _ => simp
  have hHb : Hs ks us ts (bareW ws M) := ⟨hB, hP, hH.tl, by omega, ⟨hso, fun q hq => hH.nm.ws q (bare_sub q hq)⟩⟩
  refine x_ret (e_tup (a_cons (e_call1 0 (a_cons (e_var rfl (a_cons (e_var rfl (a_nil ⟨_, _, rfl, p4.free, rfl, o4, M, rfl, rfl, p4, by omega, fun o5 b M' p5 hM' => ⟨_, _, rfl, ?_⟩⟩))))))))
  rw [p5.shift1]
  refine a_cons (e_frzL (e_call1 0 (a_cons (e_var rfl (a_cons (e_var rfl (a_cons (e_var rfl (a_cons (e_frz (e_var rfl ⟨4, _, rfl, rfl, ?_⟩)))))))))))
  refine a_nil ⟨_, _, rfl, p5.free, rfl, o5, ks, us, ts, wt, bareW ws M, k, q ++ [cur], _, rfl, rfl, p5, .inl rfl, by simp, by omega, hHb, hko, on, fun o6 ss p6 hA5 => ⟨_, _, rfl, ?_⟩⟩
  rw [p6.shift1]
  refine ⟨5, _, rfl, Nat.le_refl _, rfl, UndO.all ⟨p6.under, trivial, trivial, trivial, trivial, trivial⟩, a_nil ⟨_, rfl, Nat.le_of_ble_eq_true rfl, ?_⟩⟩
  obtain ⟨t1, t2, t3, t4⟩ := group44 hB hP fwb W.hd on hq2 hy W.last W.mid hA5
  have hsl := hA5.len
  have em : ∀ v, v ∈ M' ↔ v ∈ M := fun v => hM'.mem_iff
  have hss : ss ≠ [] := fun h => by rw [h] at hsl; rw [List.length_append] at hsl; have h1 : ([cur] : List Str).length = 1 := rfl; have h2 : ([] : List Step3).length = 0 := rfl; omega
  have lk : ∀ {r : List Step3} {b : Bool}, groupEndsB k M (r.map (endsF ks ts (bareW ws M))) = b → (fun ss : List Step3 => groupEndsB k M' (ss.map (endsF ks ts (bareW ws M')))) r = b := fun {r b} h => by
    show groupEndsB k M' (r.map (endsF ks ts (bareW ws M'))) = b
    rw [bare_perm em, group_perm em]
    exact h
  refine Res.dat (und p6) (z2 o6 (mPy b M') (fun ss => groupEndsB k M' (ss.map (endsF ks ts (bareW ws M')))) ss p6 (.grp (fun h => by subst h; exact hne (List.nil_perm.mp hM')) (fun m hm => hMk m ((em m).mp hm)) (by rw [hM'.length_eq]; omega)) ⟨hA5.inn hB hP on, by omega, lk t1, lk t2, lk t3, lk ?_⟩)
  cases ss with
  | nil => exact absurd rfl hss
  | cons t r => exact t4 t r rfl
def S__law_within : Spec3 := fun ds g R => ∃ (ks : Knots) (us : List Str) (ts wt ws : Ties) (u c : Str), ds = [.f (houseD ks ts wt ws), .f (.str u), .f (.str c)] ∧ g = [] ∧ TreeB ks us ∧ u ∈ us ∧ R (.f (.bool (decide (c ∈ pathOf ks u)))) []
abbrev s__law_within : Stmt := top 38
theorem sc__law_within : FnScope ["_law_house_here", "_law_unit", "_law_child"] ["_law_house_here", "_law_unit", "_law_child"] (defScope s__law_within) := ⟨rfl, rfl, rfl, by decide +kernel, rfl, by decide +kernel, by decide +kernel⟩
set_option maxHeartbeats 4000000 in
theorem ok__law_within (T : Bi K mg) (Df : DefAt K mg "_law_within" s__law_within ["_law_house_here", "_law_unit", "_law_child"]) (C__law_path : Cal P w K mg base 1 "_law_path" ["_law_around_here", "_law_unit"] S__law_path) (C__law_around : Cal P w K mg base 1 "_law_around" ["_law_knots"] S__law_around) : Cal P w K mg base 2 "_law_within" ["_law_house_here", "_law_unit", "_law_child"] S__law_within := by
  refine ok4 Df sc__law_within (fun ds g R h0 => by obtain ⟨_, _, _, _, _, _, _, h, _⟩ := h0; rw [h]; rfl) (fun cdv A outer s H E f hr => ?_)
  have hu1 := hu_of hr.r
  have hu64 := hr.units
  have hu65 : (A.deeper (PyProof.Rows.envOfC "_law_within" (defScope s__law_within) s.heap.objs.size f cdv)).units + 65 < cLine := by have := hr.un; omega
  refine ⟨_, (pss_one (ps_ret (pe_cmpR (u_in (K := K) rfl hu65) (pv 2) (pe_cal (K := K) rfl C__law_path (hr.mono (by decide)) (by rfl) (pa_cons (pe_cal (K := K) rfl C__law_around (hr.mono (by decide)) (by rfl) (pa_cons (pe_ix (u_ix (K := K) rfl hu1) (pv 0) pe_int (fun _ _ => rfl)) pa_nil)) (pa_cons (pv 1) pa_nil))) (by rfl)))), fun ds g R hS => ?_⟩
  obtain ⟨ks, us, ts, wt, ws, u, c, rfl, rfl, hB, hu, z⟩ := hS
  show ExS K _ [some _, some _, some _] _ _
  refine x_ret (e_op (e_var rfl (e_call1 0 (a_cons (e_call0 (a_cons (e_op (e_var rfl (e_int (o_ixQ isq_tup rfl (a_nil ⟨trivial, ks, us, rfl, rfl, hB, fun A hA => a_cons (e_var rfl (a_nil ⟨_, _, rfl, trivial, rfl, ks, us, A, u, rfl, rfl, hB, hA, hu, fun p hU => ⟨_, _, rfl, ?_⟩⟩))⟩)))))))))))
  have ep := TreeB.eq hB hU (.inl hu)
  refine o_inQS (isq_own (n := 1) rfl) ?_
  rw [if_neg Bool.false_ne_true, ep]
  exact Res.dat (fun _ h => by cases h) z
def S__law_look : Spec3 := fun ds g R => ∃ (ks : Knots) (us : List Str) (ts wt ws : Ties) (sort : Int) (asked : PyData) (look : List Step3 → Bool) (ss : List Step3), ds = [.f (houseD ks ts wt ws), .f (.int sort), .f asked, .f (.list (s3Py ss))] ∧ g = [] ∧ HouseOk ks us ts wt ws ∧ (∀ u ∈ us, PyData.strOk u = true) ∧ Asked ks us ts ws sort asked look ∧ StepsIn us ss ∧ ss.length ≤ 900 ∧ R (.f (.bool (look ss))) []
abbrev s__law_look : Stmt := top 41
theorem sc__law_look : FnScope ["_law_house_here", "_law_sort", "_law_asked", "_law_ring"] ["_law_house_here", "_law_sort", "_law_asked", "_law_ring"] (defScope s__law_look) := ⟨rfl, rfl, rfl, by decide +kernel, rfl, by decide +kernel, by decide +kernel⟩
set_option maxHeartbeats 4000000 in
theorem ok__law_look (T : Bi K mg) (Df : DefAt K mg "_law_look" s__law_look ["_law_house_here", "_law_sort", "_law_asked", "_law_ring"]) (C_is_group_ring : Cal P w K mg base 5 "is_group_ring" ["house", "members", "ring"] S_is_group_ring) (C_is_want_ring : Cal P w K mg base 5 "is_want_ring" ["house", "word", "one", "ring"] S_is_want_ring) (C_is_tie_ring : Cal P w K mg base 5 "is_tie_ring" ["house", "one", "other", "ring"] S_is_tie_ring) : Cal P w K mg base 6 "_law_look" ["_law_house_here", "_law_sort", "_law_asked", "_law_ring"] S__law_look := by
  refine ok4 Df sc__law_look (fun ds g R h0 => by obtain ⟨_, _, _, _, _, _, _, _, _, h, _⟩ := h0; rw [h]; rfl) (fun cdv A outer s H E f hr => ?_)
  have hu1 := hu_of hr.r
  have hu64 := hr.units
  have hu65 : (A.deeper (PyProof.Rows.envOfC "_law_look" (defScope s__law_look) s.heap.objs.size f cdv)).units + 65 < cLine := by have := hr.un; omega
  refine ⟨_, (pss_cons (ps_if (pt_cmpR (u_eq (K := K) rfl hu64) (pv 1) pe_int (nomark _))
    (pss_one (ps_ret (pe_cal (K := K) rfl C_is_tie_ring (hr.mono (by decide)) (by rfl) (pa_cons (pv 0) (pa_cons (pe_ix (u_ix (K := K) rfl hu1) (pv 2) pe_int (fun _ _ => rfl)) (pa_cons (pe_ix (u_ix (K := K) rfl hu1) (pv 2) pe_int (fun _ _ => rfl)) (pa_cons (pv 3) pa_nil)))))))
    pss_nil)
    (pss_cons (ps_if (pt_cmpR (u_eq (K := K) rfl hu64) (pv 1) pe_int (nomark _))
    (pss_one (ps_ret (pe_cal (K := K) rfl C_is_want_ring (hr.mono (by decide)) (by rfl) (pa_cons (pv 0) (pa_cons (pe_ix (u_ix (K := K) rfl hu1) (pv 2) pe_int (fun _ _ => rfl)) (pa_cons (pe_ix (u_ix (K := K) rfl hu1) (pv 2) pe_int (fun _ _ => rfl)) (pa_cons (pv 3) pa_nil)))))))
    pss_nil)
    (pss_one (ps_ret (pe_cal (K := K) rfl C_is_group_ring (hr.mono (by decide)) (by rfl) (pa_cons (pv 0) (pa_cons (pv 2) (pa_cons (pv 3) pa_nil)))))))), fun ds g R hS => ?_⟩
  obtain ⟨ks, us, ts, wt, ws, sort, asked, look, ss, rfl, rfl, hO, hso, hA, hS, hsl, z⟩ := hS
  have hH := hs44 hO hso
  have hwl := hH.wl
  have hB := hO.tree
  have hP := hO.ties.pa
  show ExS K _ [some _, some _, some _, some _] _ _
  cases hA with
  | @tie a b ha hb =>
    refine xs_gateC False (t_test (e_op (e_var rfl (e_int (o_eqI ⟨_, rfl, ?_⟩))))) fun h => h.elim
    refine iteT ?_
    exact x_ret (e_call0 (a_cons (e_var rfl (a_cons (e_op (e_var rfl (e_int (o_ixQ isq_tup (atI_zero _ _) (a_cons (e_op (e_var rfl (e_int (o_ixQ isq_tup (show atI [PyData.str a, .str b] 1 = some (.str b) from rfl) (a_cons (e_var rfl (a_nil ⟨trivial, ks, us, ts, wt, ws, a, b, ss, rfl, rfl, hB, hP, hH.nm, ha, hb, hS, hsl, Res.dat (fun _ h => by cases h) z⟩))))))))))))))))
  | @want w u hw hu =>
    refine xs_gate (t_test (e_op (e_var rfl (e_int (o_eqI ⟨_, rfl, iteF rfl⟩))))) ?_
    refine xs_gateC False (t_test (e_op (e_var rfl (e_int (o_eqI ⟨_, rfl, ?_⟩))))) fun h => h.elim
    refine iteT ?_
    exact x_ret (e_call0 (a_cons (e_var rfl (a_cons (e_op (e_var rfl (e_int (o_ixQ isq_tup (atI_zero _ _) (a_cons (e_op (e_var rfl (e_int (o_ixQ isq_tup (show atI [PyData.str w, .str u] 1 = some (.str u) from rfl) (a_cons (e_var rfl (a_nil ⟨trivial, ks, us, ts, wt, ws, w, u, ss, rfl, rfl, hB, hP, hH.nm, hw, hu, hS, hsl, by omega, Res.dat (fun _ h => by cases h) z⟩))))))))))))))))
  | @grp b M k hM hk hl =>
    refine xs_gate (t_test (e_op (e_var rfl (e_int (o_eqI ⟨_, rfl, iteF rfl⟩))))) ?_
    refine xs_gate (t_test (e_op (e_var rfl (e_int (o_eqI ⟨_, rfl, iteF rfl⟩))))) ?_
    exact x_ret (e_call0 (a_cons (e_var rfl (a_cons (e_var rfl (a_cons (e_var rfl (a_nil ⟨trivial, ks, us, ts, wt, ws, b, M, k, ss, rfl, rfl, hB, hP, ⟨hso, fun q hq => hH.nm.ws q (bare_sub q hq)⟩, by omega, hM, hk, hS, hsl, Res.dat (fun _ h => by cases h) z⟩))))))))
theorem cut_last (M0 : List Str) (m : Str) : cutD (sPy (M0 ++ [m])) (some (-1)) none = sPy [m] := by
  have l0 : (sPy (M0 ++ [m])).length = M0.length + 1 := by rw [sPy_len, List.length_append]; rfl
  have e1 : HT.sIx (M0.length + 1) 0 (some (-1)) = M0.length := by
    show (if (-1 : Int) < 0 then ((-1 : Int) + ((M0.length + 1 : Nat) : Int)).toNat else min (-1 : Int).toNat (M0.length + 1)) = _
    rw [if_pos (by decide)]
    omega
  unfold cutD
  rw [l0, e1, HT.sIx_none, sPy_app, List.drop_left' (sPy_len _), List.take_of_length_le]
  rw [sPy_len]
  show 1 ≤ M0.length + 1 - M0.length
  omega
theorem cut_mid (q : List Str) (cur : Str) (h : q ≠ []) : cutD (sPy (q ++ [cur])) (some 1) (some (-1)) = sPy q.tail := by
  obtain ⟨c, r, rfl⟩ : ∃ c r, q = c :: r := by
    cases q with
    | nil => exact absurd rfl h
    | cons c r => exact ⟨c, r, rfl⟩
  have l0 : (sPy (c :: r ++ [cur])).length = r.length + 2 := by rw [sPy_len, List.length_append]; rfl
  have e1 : HT.sIx (r.length + 2) 0 (some 1) = 1 := by
    show min 1 (r.length + 2) = 1
    omega
  have e2 : HT.sIx (r.length + 2) (r.length + 2) (some (-1)) = r.length + 1 := by
    show (if (-1 : Int) < 0 then ((-1 : Int) + ((r.length + 2 : Nat) : Int)).toNat else min (-1 : Int).toNat (r.length + 2)) = _
    rw [if_pos (by decide)]
    omega
  unfold cutD
  rw [l0, e1, e2]
  show ((sPy (r ++ [cur]))).take (r.length + 1 - 1) = sPy r
  rw [sPy_app, Nat.add_sub_cancel]
  exact List.take_left' (sPy_len r)
theorem group_mid {k : Str} {M q : List Str} {cur v : Str} (hv : v ∈ q.tail) (hM : v ∈ M) : groupEndsB k M ((alongE k (q ++ [cur])).map some) = false := by
  obtain ⟨c, d, r, rfl⟩ : ∃ c d r, q = c :: d :: r := by
    match q, hv with
    | c :: d :: r, _ => exact ⟨c, d, r, rfl⟩
  have e3 : alongE k (c :: d :: r ++ [cur]) = (k, c, d) :: alongE k (d :: r ++ [cur]) := rfl
  have hb : v ∈ (alongE k (d :: r ++ [cur])).map (·.2.1) := by
    rw [alongE_begun, List.dropLast_concat]
    exact hv
  obtain ⟨e, he, rfl⟩ := List.mem_map.mp hb
  have ha : (((alongE k (d :: r ++ [cur])).map some).filterMap id).all (fun e => !decide (e.2.1 ∈ M)) = false := by
    rw [List.all_eq_false]
    exact ⟨e, List.mem_filterMap.mpr ⟨some e, List.mem_map.mpr ⟨e, he, rfl⟩, rfl⟩, by simp [hM]⟩
  unfold groupEndsB
  rw [e3, List.map_cons, List.head?_cons, List.tail_cons, ha]
  cases (some (k, c, d) :: (alongE k (d :: r ++ [cur])).map some).getLast? with
  | none => simp
  | some o =>
    cases o with
    | none => simp
    | some l => simp
def S__law_long : Spec3 := fun ds g R => ∃ (o : O) (ks : Knots) (us : List Str) (ts wt ws : Ties), ds = [.own 0, .f (houseD ks ts wt ws), .f (.list (sPy us))] ∧ g = [o] ∧ IsPen o ∧ HouseOk ks us ts wt ws ∧ (∀ u ∈ us, PyData.strOk u = true) ∧ us ≠ [] ∧ us.length ≤ 60 ∧
  (∀ o', IsPen o' → R (.f .none) [o']) ∧ ∀ o' asked look ring, IsPen o' → Asked ks us ts ws 2 asked look → StepsIn us ring → ring.length ≤ 200 → look ring = false → R (.f (.tuple [asked, .list (s3Py ring)])) [o']
abbrev s__law_long : Stmt := top 39
theorem sc__law_long : FnScope ["_law_pen_here", "_law_house_here", "_law_units", "_law_knot", "_law_kids", "_law_members", "_law_wants_here", "_law_bare", "_law_edges_here", "_law_row", "_law_kid", "_law_want_here"] ["_law_pen_here", "_law_house_here", "_law_units"] (defScope s__law_long) := ⟨rfl, rfl, rfl, by decide +kernel, rfl, by decide +kernel, by decide +kernel⟩
set_option maxHeartbeats 4000000 in
theorem ok__law_long (T : Bi K mg) (Df : DefAt K mg "_law_long" s__law_long ["_law_pen_here", "_law_house_here", "_law_units"]) (C__law_along : Cal P w K mg base 4 "_law_along" ["_law_pen_here", "_law_house_here", "_law_knot", "_law_row"] S__law_along) (C__law_walk : Cal P w K mg base 2 "_law_walk" ["_law_pen_here", "_law_edges_here", "_law_here", "_law_goals"] S__law_walk) (C__law_edges : Cal P w K mg base 3 "_law_edges" ["_law_house_here", "_law_knot"] S__law_edges) (C__law_draw : Cal P w K mg base 1 "_law_draw" ["_law_pen_here", "_law_most"] S__law_draw) (C__law_around : Cal P w K mg base 1 "_law_around" ["_law_knots"] S__law_around) : Cal P w K mg base 5 "_law_long" ["_law_pen_here", "_law_house_here", "_law_units"] S__law_long := by
  refine ok4 Df sc__law_long (fun ds g R h0 => by obtain ⟨_, _, _, _, _, _, h, _⟩ := h0; rw [h]; rfl) (fun cdv A outer s H E f hr => ?_)
  have hu1 := hu_of hr.r
  have hu64 := hr.units
  have hu65 : (A.deeper (PyProof.Rows.envOfC "_law_long" (defScope s__law_long) s.heap.objs.size f cdv)).units + 65 < cLine := by have := hr.un; omega
  refine ⟨_, (pss_cons (ps_set (i := 3) sc__law_long.nd rfl (by first | exact Or.inl rfl | exact Or.inr rfl) (pe_ix (u_ix (K := K) rfl hu1) (pe_cal (K := K) rfl C__law_around (hr.mono (by decide)) (by rfl) (pa_cons (pe_ix (u_ix (K := K) rfl hu1) (pv 1) pe_int (fun _ _ => rfl)) pa_nil)) (pe_ix (u_ix (K := K) rfl hu1) (pv 2) (pe_cal (K := K) rfl C__law_draw (hr.mono (by decide)) (by rfl) (pa_cons (pv 0) (pa_cons (pe_callB (u_len (K := K) rfl) (by rfl) T.b_len (by decide +kernel) (pa_cons (pv 2) pa_nil)) pa_nil))) (fun _ _ => rfl)) (fun _ _ => rfl)))
    (pss_cons (ps_set (i := 4) sc__law_long.nd rfl (by first | exact Or.inl rfl | exact Or.inr rfl) (pe_ix (u_ix (K := K) rfl hu1) (pe_callTy (u_dictP (K := K) rfl rfl) (by rfl) T.b_dict (by decide +kernel) (pa_cons (pe_ix (u_ix (K := K) rfl hu1) (pv 1) pe_int (fun _ _ => rfl)) pa_nil)) (pv 3) (fun _ _ => rfl)))
    (pss_cons (ps_set (i := 5) sc__law_long.nd rfl (by first | exact Or.inl rfl | exact Or.inr rfl) (pe_lc (own := [("_law_kid", 10)]) (by rfl) sc__law_long.nd (u_seq (K := K) rfl (pv 4)) (blkOk_by (own := [("_law_kid", 10)]) (N := ["_law_pen_here", "_law_house_here", "_law_units", "_law_knot", "_law_kids", "_law_members", "_law_wants_here", "_law_bare", "_law_edges_here", "_law_row", "_law_kid", "_law_want_here"]) (sc := defScope s__law_long) (by decide +kernel)) (fun _ _ _ _ _ => (pg_name (i := 10) sc__law_long.nd rfl (by first | exact Or.inl rfl | exact Or.inr rfl))) (fun _ _ _ _ _ => (pts_one (pt_cmpR (u_eq (K := K) rfl hu64) (pe_cal (K := K) rfl C__law_draw (hr.mono (by decide)) (by rfl) (pa_cons (pv 0) (pa_cons pe_int pa_nil))) pe_int (nomark _)))) (fun _ _ _ _ _ => (pv 10))))
    (pss_cons (ps_set (i := 6) sc__law_long.nd rfl (by first | exact Or.inl rfl | exact Or.inr rfl) (pe_callTy (u_tuple (K := K) rfl) (by rfl) T.b_tuple (by decide +kernel) (pa_cons (pe_lc (own := [("_law_want_here", 11)]) (by rfl) sc__law_long.nd (u_seq (K := K) rfl (pe_ix (u_ix (K := K) rfl hu1) (pv 1) pe_int (fun _ _ => rfl))) (blkOk_by (own := [("_law_want_here", 11)]) (N := ["_law_pen_here", "_law_house_here", "_law_units", "_law_knot", "_law_kids", "_law_members", "_law_wants_here", "_law_bare", "_law_edges_here", "_law_row", "_law_kid", "_law_want_here"]) (sc := defScope s__law_long) (by decide +kernel)) (fun _ _ _ _ _ => (pg_name (i := 11) sc__law_long.nd rfl (by first | exact Or.inl rfl | exact Or.inr rfl))) (fun _ _ _ _ _ => (pts_one (pt_cmpR (u_notIn (K := K) rfl hu65) (pe_ix (u_ix (K := K) rfl hu1) (pv 11) pe_int (fun _ _ => rfl)) (pv 5) (by rfl)))) (fun _ _ _ _ _ => (pv 11))) pa_nil)))
    (pss_cons (ps_set (i := 7) sc__law_long.nd rfl (by first | exact Or.inl rfl | exact Or.inr rfl) (pe_op (u_add (K := K) rfl) (pe_slice (u_sl (K := K) rfl) (pv 1) po_none (po_some pe_int)) (pe_tup (pa_cons (pv 6) pa_nil))))
    (pss_cons (ps_set (i := 8) sc__law_long.nd rfl (by first | exact Or.inl rfl | exact Or.inr rfl) (pe_cal (K := K) rfl C__law_edges (hr.mono (by decide)) (by rfl) (pa_cons (pv 7) (pa_cons (pv 3) pa_nil))))
    (pss_cons (ps_if (pt_cmpR op_lt (pe_callB (u_len (K := K) rfl) (by rfl) T.b_len (by decide +kernel) (pa_cons (pv 5) pa_nil)) pe_int (nomark _))
    (pss_one (ps_ret pe_non))
    pss_nil)
    (pss_cons (ps_set (i := 9) sc__law_long.nd rfl (by first | exact Or.inl rfl | exact Or.inr rfl) (pe_cal (K := K) rfl C__law_walk (hr.mono (by decide)) (by rfl) (pa_cons (pv 0) (pa_cons (pv 8) (pa_cons (pe_ix (u_ix (K := K) rfl hu1) (pv 5) pe_int (fun _ _ => rfl)) (pa_cons (pe_slice (u_sl (K := K) rfl) (pv 5) (po_some (pe_un un_neg pe_int)) po_none) pa_nil))))))
    (pss_cons (ps_if (PW.pt (pw_or (pt_cmpR op_isN1 (pv 9) pe_non (nomark _)) (pw_or1 (pt_cmpR (u_eq0 (K := K) rfl hu64) (pe_lc (own := [("_law_kid", 10)]) (by rfl) sc__law_long.nd (u_seq (K := K) rfl (pe_slice (u_sl (K := K) rfl) (pv 9) (po_some pe_int) (po_some (pe_un un_neg pe_int)))) (blkOk_by (own := [("_law_kid", 10)]) (N := ["_law_pen_here", "_law_house_here", "_law_units", "_law_knot", "_law_kids", "_law_members", "_law_wants_here", "_law_bare", "_law_edges_here", "_law_row", "_law_kid", "_law_want_here"]) (sc := defScope s__law_long) (by decide +kernel)) (fun _ _ _ _ _ => (pg_name (i := 10) sc__law_long.nd rfl (by first | exact Or.inl rfl | exact Or.inr rfl))) (fun _ _ _ _ _ => (pts_one (pt_cmpR (u_in (K := K) rfl hu65) (pv 10) (pv 5) (by rfl)))) (fun _ _ _ _ _ => (pv 10))) (pe_lst pa_nil) (nomark _)))))
    (pss_one (ps_ret pe_non))
    pss_nil)
    (pss_one (ps_ret (pe_tup (pa_cons (pv 5) (pa_cons (pe_cal (K := K) rfl C__law_along (hr.mono (by decide)) (by rfl) (pa_cons (pv 0) (pa_cons (pv 7) (pa_cons (pv 3) (pa_cons (pv 9) pa_nil))))) pa_nil)))))))))))))), fun ds g R hS => ?_⟩
  obtain ⟨o, ks, us, ts, wt, ws, rfl, rfl, hp, hO, hso, hun, hul, z1, z2⟩ := hS
  have hB := hO.tree
  have hP := hO.ties.pa
  have hH := hs44 hO hso
  have htl := hO.tl
  have hwl := hH.wl
  have hup : 0 < us.length := List.length_pos_iff.mpr hun
  have und : ∀ {o : O} {t : List O}, IsPen o → ∀ x ∈ (o :: t).take 1, x.under 1 := fun h x hx => by
    cases hx with
    | head => exact h.under
    | tail _ q => cases q
  have gu : ∀ {xs : List Str} {r : Int}, 0 ≤ r → r < (sPy xs).length → ∃ x, x ∈ xs ∧ atI (sPy xs) r = some (.str x) := fun {xs r} h0 h1 => by
    rw [sPy_len] at h1
    obtain ⟨j, rfl⟩ := Int.eq_ofNat_of_zero_le h0
    have hj : j < xs.length := by omega
    exact ⟨xs[j], List.getElem_mem hj, atI_nat (sPy_get_of (List.getElem?_eq_getElem hj))⟩
  have st : ∀ {u}, u ∈ us → ∃ k, Stands ks u k := fun {u} hu => by
    obtain ⟨_, _, T, _⟩ := id hB
    exact (T.all u).mp hu
  show ExS K _ [some _, some _, some _, none, none, none, none, none, none, none, none, none] _ _
  refine xs_set (e_op (e_call0 (a_cons (e_op (e_var rfl (e_int (o_ixQ isq_tup rfl (a_nil ⟨trivial, ks, us, rfl, rfl, hB, fun A hA => ?_⟩))))))))
  refine e_op (e_var rfl (e_draw 0 (a_cons (e_var rfl (a_cons (e_cb (a_cons (e_var rfl (a_nil (c_lenQ isq_list (a_nil ⟨_, o, rfl, rfl, hp, by rw [sPy_len]; omega, by rw [sPy_len]; omega, fun r1 o1 a1 b1 p1 => ?_⟩)))))))))))
  obtain ⟨u, hu, g1⟩ := gu a1 b1
  obtain ⟨k, hst⟩ := st hu
  have hk : k ∈ ks.map (·.1) := hst.knot
  have hko := (hH.nm).knot hB hk
  have hkl := hB.kidsLen k
  have fw := edges_fw hO (k := k)
  refine o_ixQ isq_list g1 (o_ixDk (n := 1) (k := .inr u) rfl (hA _ _ hst) ?_)
  refine xs_set (e_dictKnots hB.names (e_op (e_var rfl (e_int (o_ixQ isq_tup rfl ⟨rfl, e_var rfl ⟨k, rfl, hk, rfl, ?_⟩⟩)))))
  show ExS K _ [some (.own 0), some (.f (houseD ks ts wt ws)), some (.f (.list (sPy us))), some (.f (.str k)), some (.f (plD (sPy (kids ks k)))), none, none, none, none, none, none, none] [o1, .dct A, .dct (mergeD [] (ksPrs ks))] _
  generalize mergeD [] (ksPrs ks) = D0
  have und3 : ∀ {o : O}, IsPen o → ∀ x ∈ ([o, .dct A, .dct D0] : List O), x.under 3 := fun h => UndO.all ⟨h.under, trivial, trivial, trivial⟩
  refine xs_set (e_frzL (e_lcP (gg_name (by decide)) (e_var rfl ⟨sPy (kids ks k), rfl, fun i acc l' => ∃ o' ys, l' = [o', .dct A, .dct D0] ∧ IsPen o' ∧ acc = sPy ys ∧ ys.Sublist ((kids ks k).take i), ⟨o1, [], rfl, p1, rfl, List.nil_sublist _⟩, ?_, ?_, ?_⟩)))
  · rintro i acc l' hi ⟨o', ys, rfl, hp', rfl, hsub⟩
    have := (hsub.trans (List.take_sublist _ _)).length_le
    rw [sPy_len]; omega
  · rintro i d acc l' hd ⟨o', ys, rfl, hp', rfl, hsub⟩
    obtain ⟨x, hx, rfl⟩ := sPy_get hd
    refine g_name (t_test (e_op (e_draw 0 (a_cons (e_var rfl (a_cons (e_int (a_nil ⟨_, o', rfl, rfl, hp', by decide, by decide, fun r o5 a5 b5 p5 => e_int (o_eqI ⟨_, rfl, ?_⟩)⟩))))))))
    have tn := L3.take_next hx
    refine d_both (fun c => e_var rfl ⟨_, rfl, o5, ys ++ [x], rfl, p5, by rw [sPy_app]; rfl, by rw [tn]; exact hsub.append (List.Sublist.refl _)⟩) (fun c => ⟨o5, ys, rfl, p5, rfl, by rw [tn]; exact hsub.trans (List.sublist_append_left _ _)⟩)
  rintro acc l' ⟨o2, M, rfl, p2, rfl, hsub⟩
  have hMs : M.Sublist (kids ks k) := hsub.trans (List.take_sublist _ _)
  have hMl := hMs.length_le
  refine ⟨3, _, rfl, Nat.le_refl _, rfl, und3 p2, ?_⟩
  show ExS K _ [some (.own 0), some (.f (houseD ks ts wt ws)), some (.f (.list (sPy us))), some (.f (.str k)), some (.f (plD (sPy (kids ks k)))), some (.f (.list (sPy M))), none, none, none, none, none, none] [o2, .dct A, .dct D0] _
  have hbl : (bareW ws M).length ≤ ws.length := List.length_filter_le _ _
  refine xs_set (e_cb (a_cons (e_frzL (e_lcF (notIn M) (gg_name (by decide)) (e_op (e_var rfl (e_int (o_ixQ isq_tup rfl ⟨pPy ws, isq_tup, by rw [pPy_len]; omega, fun d hd => ?_, 3, _, rfl, Nat.le_refl _, rfl, und3 p2, ?_⟩))))))))
  · obtain ⟨e, he, rfl⟩ := List.mem_map.mp hd
    have g1 : atI [PyData.str e.1, .str e.2] 1 = some (.str e.2) := rfl
    have e1 : notIn M (.tuple [.str e.1, .str e.2]) = if e.2 ∈ M then none else some (.tuple [.str e.1, .str e.2]) := rfl
    refine g_name (t_test (e_op (e_op (e_var rfl (e_int (o_ixQ isq_tup g1 (e_var rfl (o_ninS isq_list ⟨_, rfl, ?_⟩))))))))
    exact nd_both (fun c => e_var rfl ⟨_, rfl, e1.trans (if_neg c), rfl⟩) (fun c => ⟨e1.trans (if_pos c), rfl⟩)
  rw [notIn_eq]
  refine a_nil (c_tuple isq_list ?_)
  refine xs_set (e_op (e_sl (e_var rfl (o_none (o_some (e_int ⟨3, rfl, s_tup (fun h => by have h1 : (3 : Nat) = 4 := h.2; cases h1) (e_tup (a_cons (e_var rfl (a_nil ⟨[.tuple (pPy (bareW ws M))], rfl, Nat.le_of_ble_eq_true rfl, o_addTA (by show 3 + 1 ≤ _; decide) ?_⟩))))⟩))))))
  show ExS K _ [some (.own 0), some (.f (houseD ks ts wt ws)), some (.f (.list (sPy us))), some (.f (.str k)), some (.f (plD (sPy (kids ks k)))), some (.f (.list (sPy M))), some (.f (.tuple (pPy (bareW ws M)))), some (.f (houseD ks ts wt (bareW ws M))), none, none, none, none] [o2, .dct A, .dct D0] _
  have hel := edges_len (ts := ts) (ws := bareW ws M) hB (k := k)
  refine xs_set (e_frzL (e_call0 (a_cons (e_var rfl (a_cons (e_var rfl (a_nil ⟨trivial, ks, us, ts, wt, bareW ws M, k, rfl, rfl, hB, hP, hH.tl, by omega, hk, hso, 3, _, rfl, Nat.le_refl _, rfl, und3 p2, ?_⟩)))))))
  refine xs_gateC (3 ≤ M.length) (t_test (e_op (e_cb (a_cons (e_var rfl (a_nil (c_lenQ isq_list (e_int (o_I0b ⟨_, rfl, ?_⟩))))))))) fun h3 => ?_
  · rw [sPy_len]
    refine d_both (fun c => x_ret (e_non (Res.dat (und p2) (z1 o2 p2)))) (fun c => ⟨rfl, by omega⟩)
  have hMk : ∀ m ∈ M, m ∈ kids ks k := fun m hm => hMs.subset hm
  have hMne : M ≠ [] := fun h => by rw [h] at h3; exact absurd h3 (by decide)
  obtain ⟨M0, m, eM⟩ : ∃ M0 m, M = M0 ++ [m] := by
    rcases List.eq_nil_or_concat M with h | ⟨q0, y, h⟩
    · exact absurd h hMne
    · exact ⟨q0, y, by rw [h, List.concat_eq_append]⟩
  obtain ⟨y, hy⟩ : ∃ y, M[0]? = some y := ⟨_, List.getElem?_eq_getElem (by omega)⟩
  have fwb : ∀ e ∈ edgesF ks ts (bareW ws M) k, (kids ks k).idxOf e.1 < (kids ks k).idxOf e.2 := fun e he => fw e (edges_sub bare_sub e he)
  have ekb : ∀ e ∈ edgesF ks ts (bareW ws M) k, e.1 ∈ kids ks k ∧ e.2 ∈ kids ks k := fun e he => ⟨(edges_kids hB hP e he).1, (edges_kids hB hP e he).2.1⟩
  have hmM : m ∈ M := by rw [eM]; simp
  have g0 : atI (sPy M) 0 = some (.str y) := atI_nat (j := 0) (sPy_get_of hy)
  refine xs_set (e_call1 0 (a_cons (e_var rfl (a_cons (e_var rfl (a_cons (e_op (e_var rfl (e_int (o_ixQ isq_list g0 (a_cons (e_sl (e_var rfl (o_some (e_un (e_int (o_neg ⟨-1, rfl, o_none (s_listF isl_list ?_)⟩)))))))))))))))))
  rw [show cutD (sPy M) (some (-1)) none = sPy [m] by rw [eM]; exact cut_last M0 m]
  refine a_nil ⟨_, _, rfl, p2.free, rfl, o2, edgesF ks ts (bareW ws M) k, y, [m], kids ks k, fun v => (kids ks k).idxOf v, rfl, rfl, p2, by omega, by show 1 ≤ 60; decide, hkl, ekb, fun g hg => by rw [List.mem_singleton.mp hg]; exact hMk m hmM, fun e he => ⟨fwb e he, by show (kids ks k).idxOf e.2 ≤ 100; have := List.idxOf_le_length (l := kids ks k) (a := e.2); omega⟩, fun _ o4 p4 => ⟨_, _, rfl, ?_⟩, fun o4 q cur p4 W => ⟨_, _, rfl, ?_⟩⟩
  · rw [p4.shift1]
    refine xs_gateC False (t_or (t_test (e_op (e_var rfl (e_non (o_isN ⟨true, rfl, iteT ?_⟩)))))) fun h => h.elim
    exact x_ret (e_non (Res.dat (und p4) (z1 o4 p4)))
  rw [p4.shift1]
  have nd := rise_nodup (onW_rise (f := fun v => (kids ks k).idxOf v) fwb W.on)
  have hcm := List.mem_singleton.mp W.last
  have hpl : (q ++ [cur]).length ≤ 60 := Nat.le_trans (nodup_le nd (onW_in ekb W.on (by rw [hcm]; exact hMk m hmM))) hkl
  have hql : q.length ≤ 60 := by rw [List.length_append] at hpl; omega
  have hHb : Hs ks us ts (bareW ws M) := ⟨hB, hP, hH.tl, by omega, ⟨hso, fun q hq => hH.nm.ws q (bare_sub q hq)⟩⟩
  refine xs_gateC (∃ v ∈ q.tail, v ∈ M) (t_cut 4 (Nat.le_refl _) (t_or (t_test (e_op (e_var rfl (e_non (o_isN ⟨false, rfl, iteF ?_⟩))))))) fun hmid => ?_
  · refine t_test (e_op (e_lcF (strF fun x => decide (x ∈ M)) (gg_name (by decide)) (e_sl (e_var rfl (o_some (e_int ⟨1, rfl, o_some (e_un (e_int (o_neg ⟨-1, rfl, s_listF (isl_own (n := 3) rfl) ?_⟩)))⟩))))))
    rw [cut_mid q cur W.ne]
    refine ⟨sPy q.tail, isq_list, by rw [sPy_len, List.length_tail]; omega, fun d hd => ?_, ?_⟩
    · obtain ⟨x, hx, rfl⟩ := sPy_mem hd
      refine g_name (t_test (e_op (e_var rfl (e_var rfl (o_inQS isq_list ⟨_, rfl, ?_⟩)))))
      rw [if_neg Bool.false_ne_true]
      refine d_both (fun c => e_var rfl ⟨_, rfl, ?_, rfl⟩) (fun c => ⟨?_, rfl⟩)
      · exact if_pos (decide_eq_true c)
      · exact if_neg (by simp [c])
    rw [sPy_filter]
    refine e_lstF (a_nil ⟨[], rfl, Nat.le_of_ble_eq_true rfl, o_nil (isl_own (n := 4) rfl) ⟨_, rfl, ?_⟩⟩)
    rw [if_neg Bool.false_ne_true]
    refine ⟨UndO.all ⟨p4.under, trivial, trivial, trivial, trivial⟩, ?_⟩
    cases hf : q.tail.filter fun x => decide (x ∈ M) with
    | nil => exact x_ret (e_non (Res.dat (und p4) (z1 o4 p4)))
    | cons v r =>
      refine ⟨rfl, v, ?_⟩
      have hm : v ∈ q.tail.filter fun x => decide (x ∈ M) := by rw [hf]; exact List.mem_cons_self
      exact ⟨(List.mem_filter.mp hm).1, of_decide_eq_true (List.mem_filter.mp hm).2⟩
  obtain ⟨v, hv1, hv2⟩ := hmid
  refine x_ret (e_tup (a_cons (e_var rfl (a_cons (e_frzL (e_call1 0 (a_cons (e_var rfl (a_cons (e_var rfl (a_cons (e_var rfl (a_cons (e_frz (e_var rfl ⟨3, _, rfl, rfl, ?_⟩)))))))))))))))
  refine a_nil ⟨_, _, rfl, p4.free, rfl, o4, ks, us, ts, wt, bareW ws M, k, q ++ [cur], _, rfl, rfl, p4, .inl rfl, by simp, by omega, hHb, hko, W.on, fun o6 ss p6 hA5 => ⟨_, _, rfl, ?_⟩⟩
  rw [p6.shift1]
  refine ⟨4, _, rfl, Nat.le_refl _, rfl, UndO.all ⟨p6.under, trivial, trivial, trivial, trivial⟩, a_nil ⟨_, rfl, Nat.le_of_ble_eq_true rfl, ?_⟩⟩
  have hsl := hA5.len
  refine Res.dat (und p6) (z2 o6 (mPy true M) (fun ss => groupEndsB k M (ss.map (endsF ks ts (bareW ws M)))) ss p6 (.grp hMne hMk (by omega)) (hA5.inn hB hP W.on) (by omega) ?_)
  show groupEndsB k M (ss.map (endsF ks ts (bareW ws M))) = false
  rw [hA5.ends hB hP W.on]
  exact group_mid hv1 hv2
def notOf (u : Str) : PyData → Option PyData
  | .tuple [.str a, .str b] => if u ∈ [a, b] then none else some (.tuple [.str a, .str b])
  | _ => none
theorem notOf_eq (u : Str) (es : Ties) : (pPy es).filterMap (notOf u) = pPy (es.filter fun e => !decide (u ∈ [e.1, e.2])) := by
  induction es with
  | nil => rfl
  | cons e es ih =>
    have e1 : notOf u (.tuple [.str e.1, .str e.2]) = if u ∈ [e.1, e.2] then none else some (.tuple [.str e.1, .str e.2]) := rfl
    show (PyData.tuple [.str e.1, .str e.2] :: pPy es).filterMap _ = _
    rw [List.filterMap_cons, ih, e1, List.filter_cons]
    by_cases c : u ∈ [e.1, e.2]
    · rw [if_pos c, if_neg (by rw [decide_eq_true c]; decide)]
    · rw [if_neg c, if_pos (by rw [decide_eq_false c]; rfl)]
      rfl
theorem ends_bare {ks : Knots} {ts ws : Ties} {M : List Str} {t : Step3} (hw : t.1 ≠ "tie") (hm : (wantKey t).2 ∈ M) : endsF ks ts (bareW ws M) t = none := by
  unfold endsF
  rw [if_neg hw]
  cases hk : knotOf ks t.2.1 with
  | none => rfl
  | some k =>
    show (if _ then none else if wantKey t ∈ bareW ws M then _ else none) = none
    split
    · rfl
    · refine if_neg fun h => ?_
      have := (List.mem_filter.mp h).2
      simp [hm] at this
def S__law_own : Spec3 := fun ds g R => ∃ (o : O) (ks : Knots) (us : List Str) (ts wt ws : Ties), ds = [.own 0, .f (houseD ks ts wt ws), .f (.list (sPy us))] ∧ g = [o] ∧ IsPen o ∧ HouseOk ks us ts wt ws ∧ (∀ u ∈ us, PyData.strOk u = true) ∧ us ≠ [] ∧ us.length ≤ 60 ∧
  (∀ o', IsPen o' → R (.f .none) [o']) ∧ ∀ o' asked look ring, IsPen o' → Asked ks us ts ws 2 asked look → StepsIn us ring → ring.length ≤ 200 → look ring = false → R (.f (.tuple [asked, .list (s3Py ring)])) [o']
abbrev s__law_own : Stmt := top 40
theorem sc__law_own : FnScope ["_law_pen_here", "_law_house_here", "_law_units", "_law_word", "_law_unit", "_law_knot", "_law_pair", "_law_edges_here", "_law_steps_here"] ["_law_pen_here", "_law_house_here", "_law_units"] (defScope s__law_own) := ⟨rfl, rfl, rfl, by decide +kernel, rfl, by decide +kernel, by decide +kernel⟩
set_option maxHeartbeats 4000000 in
theorem ok__law_own (T : Bi K mg) (Df : DefAt K mg "_law_own" s__law_own ["_law_pen_here", "_law_house_here", "_law_units"]) (C__law_along : Cal P w K mg base 4 "_law_along" ["_law_pen_here", "_law_house_here", "_law_knot", "_law_row"] S__law_along) (C__law_draw : Cal P w K mg base 1 "_law_draw" ["_law_pen_here", "_law_most"] S__law_draw) (C__law_edges : Cal P w K mg base 3 "_law_edges" ["_law_house_here", "_law_knot"] S__law_edges) (C__law_around : Cal P w K mg base 1 "_law_around" ["_law_knots"] S__law_around) : Cal P w K mg base 5 "_law_own" ["_law_pen_here", "_law_house_here", "_law_units"] S__law_own := by
  refine ok4 Df sc__law_own (fun ds g R h0 => by obtain ⟨_, _, _, _, _, _, h, _⟩ := h0; rw [h]; rfl) (fun cdv A outer s H E f hr => ?_)
  have hu1 := hu_of hr.r
  have hu64 := hr.units
  have hu65 : (A.deeper (PyProof.Rows.envOfC "_law_own" (defScope s__law_own) s.heap.objs.size f cdv)).units + 65 < cLine := by have := hr.un; omega
  refine ⟨_, (pss_cons (ps_if (pt_cmpR (u_eq (K := K) rfl hu64) (pe_ix (u_ix (K := K) rfl hu1) (pv 1) pe_int (fun _ _ => rfl)) (pe_tup pa_nil) (nomark _))
    (pss_one (ps_ret pe_non))
    pss_nil)
    (pss_cons (ps_asg (pe_ix (u_ix (K := K) rfl hu1) (pe_ix (u_ix (K := K) rfl hu1) (pv 1) pe_int (fun _ _ => rfl)) (pe_cal (K := K) rfl C__law_draw (hr.mono (by decide)) (by rfl) (pa_cons (pv 0) (pa_cons (pe_callB (u_len (K := K) rfl) (by rfl) T.b_len (by decide +kernel) (pa_cons (pe_ix (u_ix (K := K) rfl hu1) (pv 1) pe_int (fun _ _ => rfl)) pa_nil)) pa_nil))) (fun _ _ => rfl)) (u_tup (K := K) (n := 2) rfl (by rfl) (pgs_cons (pg_name (i := 3) sc__law_own.nd rfl (by first | exact Or.inl rfl | exact Or.inr rfl)) (pgs_cons (pg_name (i := 4) sc__law_own.nd rfl (by first | exact Or.inl rfl | exact Or.inr rfl)) pgs_nil))))
    (pss_cons (ps_set (i := 5) sc__law_own.nd rfl (by first | exact Or.inl rfl | exact Or.inr rfl) (pe_ix (u_ix (K := K) rfl hu1) (pe_cal (K := K) rfl C__law_around (hr.mono (by decide)) (by rfl) (pa_cons (pe_ix (u_ix (K := K) rfl hu1) (pv 1) pe_int (fun _ _ => rfl)) pa_nil)) (pv 4) (fun _ _ => rfl)))
    (pss_cons (ps_setLc (i := 7) (own := [("_law_pair", 6)]) (by rfl) sc__law_own.nd rfl rfl (sw_true rfl rfl rfl (by decide +kernel)) (u_seq (K := K) rfl (pe_cal (K := K) rfl C__law_edges (hr.mono (by decide)) (by rfl) (pa_cons (pv 1) (pa_cons (pv 5) pa_nil)))) (blkOk_by (own := [("_law_pair", 6)]) (N := ["_law_pen_here", "_law_house_here", "_law_units", "_law_word", "_law_unit", "_law_knot", "_law_pair", "_law_edges_here", "_law_steps_here"]) (sc := defScope s__law_own) (by decide +kernel)) (fun _ _ _ _ _ => (pg_name (i := 6) sc__law_own.nd rfl (by first | exact Or.inl rfl | exact Or.inr rfl))) (fun _ _ _ _ _ => (pts_one (pt_cmpR (u_notIn (K := K) rfl hu65) (pv 4) (pv 6) (by rfl)))) (fun _ _ _ _ _ => (pv 6)))
    (pss_cons (ps_if (pt_cmpR (u_eq0 (K := K) rfl hu64) (pv 7) (pe_lst pa_nil) (nomark _))
    (pss_one (ps_ret pe_non))
    pss_nil)
    (pss_cons (ps_set (i := 6) sc__law_own.nd rfl (by first | exact Or.inl rfl | exact Or.inr rfl) (pe_ix (u_ix (K := K) rfl hu1) (pv 7) (pe_cal (K := K) rfl C__law_draw (hr.mono (by decide)) (by rfl) (pa_cons (pv 0) (pa_cons (pe_callB (u_len (K := K) rfl) (by rfl) T.b_len (by decide +kernel) (pa_cons (pv 7) pa_nil)) pa_nil))) (fun _ _ => rfl)))
    (pss_cons (ps_set (i := 8) sc__law_own.nd rfl (by first | exact Or.inl rfl | exact Or.inr rfl) (pe_cal (K := K) rfl C__law_along (hr.mono (by decide)) (by rfl) (pa_cons (pv 0) (pa_cons (pv 1) (pa_cons (pv 5) (pa_cons (pv 6) pa_nil))))))
    (pss_cons (ps_if (pt_cmpR (u_eq (K := K) rfl hu64) (pv 3) pe_str (nomark _))
    (pss_one (ps_ret (pe_tup (pa_cons (pe_lst (pa_cons (pv 4) (pa_cons (pe_ix (u_ix (K := K) rfl hu1) (pv 6) pe_int (fun _ _ => rfl)) pa_nil))) (pa_cons (pe_op (u_add (K := K) rfl) (pe_lst (pa_cons (pe_tup (pa_cons pe_str (pa_cons (pv 4) (pa_cons (pe_ix (u_ix (K := K) rfl hu1) (pv 6) pe_int (fun _ _ => rfl)) pa_nil)))) pa_nil)) (pv 8)) pa_nil)))))
    pss_nil)
    (pss_one (ps_ret (pe_tup (pa_cons (pe_lst (pa_cons (pe_ix (u_ix (K := K) rfl hu1) (pv 6) pe_int (fun _ _ => rfl)) (pa_cons (pv 4) pa_nil))) (pa_cons (pe_op (u_add (K := K) rfl) (pv 8) (pe_lst (pa_cons (pe_tup (pa_cons pe_str (pa_cons (pe_ix (u_ix (K := K) rfl hu1) (pv 6) pe_int (fun _ _ => rfl)) (pa_cons (pv 4) pa_nil)))) pa_nil))) pa_nil))))))))))))), fun ds g R hS => ?_⟩
  obtain ⟨o, ks, us, ts, wt, ws, rfl, rfl, hp, hO, hso, hun, hul, z1, z2⟩ := hS
  have hB := hO.tree
  have hP := hO.ties.pa
  have hH := hs44 hO hso
  have htl := hO.tl
  have hwl := hH.wl
  have hup : 0 < us.length := List.length_pos_iff.mpr hun
  have und : ∀ {o : O} {t : List O}, IsPen o → ∀ x ∈ (o :: t).take 1, x.under 1 := fun h x hx => by
    cases hx with
    | head => exact h.under
    | tail _ q => cases q
  have gu : ∀ {xs : List Str} {r : Int}, 0 ≤ r → r < (sPy xs).length → ∃ x, x ∈ xs ∧ atI (sPy xs) r = some (.str x) := fun {xs r} h0 h1 => by
    rw [sPy_len] at h1
    obtain ⟨j, rfl⟩ := Int.eq_ofNat_of_zero_le h0
    have hj : j < xs.length := by omega
    exact ⟨xs[j], List.getElem_mem hj, atI_nat (sPy_get_of (List.getElem?_eq_getElem hj))⟩
  have st : ∀ {u}, u ∈ us → ∃ k, Stands ks u k := fun {u} hu => by
    obtain ⟨_, _, T, _⟩ := id hB
    exact (T.all u).mp hu
  show ExS K _ [some _, some _, some _, none, none, none, none, none, none] _ _
  have okW : ∀ e ∈ ws, PyData.strOk e.1 = true ∧ PyData.strOk e.2 = true := hH.nm.ws
  refine xs_gateC (ws ≠ []) (t_test (e_op (e_op (e_var rfl (e_int (o_ixQ isq_tup rfl (e_tup (a_nil ⟨[], rfl, Nat.le_of_ble_eq_true rfl, o_eqPP (.inl asd_f) (.inl asd_f) (shape_pairsT okW) shape_unit ⟨_, rfl, ?_⟩⟩)))))))) fun hne => ?_
  · rw [eqv_unit]
    cases hws : ws with
    | nil => exact iteT (x_ret (e_non (Res.dat (und hp) (z1 o hp))))
    | cons e es => exact iteF ⟨rfl, by simp⟩
  have hwp : 0 < ws.length := List.length_pos_iff.mpr hne
  refine xs_asg (e_op (e_op (e_var rfl (e_int (o_ixQ isq_tup rfl (e_draw 0 (a_cons (e_var rfl (a_cons (e_cb (a_cons (e_op (e_var rfl (e_int (o_ixQ isq_tup rfl (a_nil (c_lenQ isq_tup (a_nil ⟨_, o, rfl, rfl, hp, by rw [pPy_len]; omega, by rw [pPy_len]; omega, fun r1 o1 a1 b1 p1 => ?_⟩))))))))))))))))))
  rw [pPy_len] at b1
  obtain ⟨j, rfl⟩ := Int.eq_ofNat_of_zero_le a1
  have hj : j < ws.length := by omega
  have ge : ws[j]? = some ws[j] := List.getElem?_eq_getElem hj
  generalize ws[j] = q at ge
  have ge2 : atI (pPy ws) (j : Nat) = some (.tuple [.str q.1, .str q.2]) := atI_nat (by unfold pPy; rw [List.getElem?_map, ge]; rfl)
  have hqm := List.mem_of_getElem? ge
  have hqu := (hO.wants.ok q hqm).unit hB
  have hqw : q.1 = "first" ∨ q.1 = "last" := (hO.wants.ok q hqm).elim (fun h => .inl h.1) fun h => .inr h.1
  refine o_ixQ isq_tup ge2 (g_tup rfl (g_cons (g_name (g_cons (g_name (g_nil ?_))))))
  obtain ⟨w, u⟩ := q
  obtain ⟨k, hst⟩ := st hqu
  have hk : k ∈ ks.map (·.1) := hst.knot
  have ku : u ∈ kids ks k := (mem_kids hB.names).mpr hst
  have hko := (hH.nm).knot hB hk
  have hkl := hB.kidsLen k
  have hel := edges_len (ts := ts) (ws := ws) hB (k := k)
  refine xs_set (e_op (e_call0 (a_cons (e_op (e_var rfl (e_int (o_ixQ isq_tup rfl (a_nil ⟨trivial, ks, us, rfl, rfl, hB, fun A hA => e_var rfl (o_ixDk (n := 1) (k := .inr u) rfl (hA _ _ hst) ?_)⟩))))))))
  show ExS K _ [some (.own 0), some (.f (houseD ks ts wt ws)), some (.f (.list (sPy us))), some (.f (.str w)), some (.f (.str u)), some (.f (.str k)), none, none, none] [o1, .dct A] _
  refine xs_set (e_frzL (e_lcF (notOf u) (gg_name (by decide)) (e_call0 (a_cons (e_var rfl (a_cons (e_var rfl (a_nil ⟨trivial, ks, us, ts, wt, ws, k, rfl, rfl, hB, hP, hH.tl, hwl, hk, hso, pPy (edgesF ks ts ws k), isq_own (n := 2) rfl, by rw [pPy_len]; omega, fun d hd => ?_, 3, _, rfl, Nat.le_of_ble_eq_true rfl, rfl, UndO.all ⟨p1.under, trivial, trivial⟩, ?_⟩))))))))
  · obtain ⟨e, he, rfl⟩ := List.mem_map.mp hd
    have e1 : notOf u (.tuple [.str e.1, .str e.2]) = if u ∈ [e.1, e.2] then none else some (.tuple [.str e.1, .str e.2]) := rfl
    refine g_name (t_test (e_op (e_var rfl (e_var rfl (o_ninS (xs := [e.1, e.2]) isq_tup ⟨_, rfl, ?_⟩)))))
    exact nd_both (fun c => e_var rfl ⟨_, rfl, e1.trans (if_neg c), rfl⟩) (fun c => ⟨e1.trans (if_pos c), rfl⟩)
  rw [notOf_eq]
  have hE : ∀ e ∈ (edgesF ks ts ws k).filter fun e => !decide (u ∈ [e.1, e.2]), e ∈ edgesF ks ts ws k := fun e he => (List.mem_filter.mp he).1
  have hEl := List.length_filter_le (fun e : Str × Str => !decide (u ∈ [e.1, e.2])) (edgesF ks ts ws k)
  generalize ((edgesF ks ts ws k).filter fun e => !decide (u ∈ [e.1, e.2])) = E at hE hEl
  refine xs_gateC (E ≠ []) (t_test (e_op (e_var rfl (e_lstF (a_nil ⟨[], rfl, Nat.le_of_ble_eq_true rfl, o_nil isl_list ⟨_, rfl, ?_⟩⟩))))) fun hEn => ?_
  · rw [if_neg Bool.false_ne_true]
    cases E with
    | nil => exact x_ret (e_non (Res.dat (und p1) (z1 o1 p1)))
    | cons x xs => exact ⟨rfl, by simp⟩
  have hEp : 0 < E.length := List.length_pos_iff.mpr hEn
  refine xs_set (e_op (e_var rfl (e_draw 0 (a_cons (e_var rfl (a_cons (e_cb (a_cons (e_var rfl (a_nil (c_lenQ isq_list (a_nil ⟨_, o1, rfl, rfl, p1, by rw [pPy_len]; omega, by rw [pPy_len]; omega, fun r2 o2 a2 b2 p2 => ?_⟩))))))))))))
  rw [pPy_len] at b2
  obtain ⟨i, rfl⟩ := Int.eq_ofNat_of_zero_le a2
  have hi : i < E.length := by omega
  have gi : E[i]? = some E[i] := List.getElem?_eq_getElem hi
  generalize E[i] = e at gi
  have gi2 : atI (pPy E) (i : Nat) = some (.tuple [.str e.1, .str e.2]) := atI_nat (by unfold pPy; rw [List.getElem?_map, gi]; rfl)
  have heE := hE e (List.mem_of_getElem? gi)
  obtain ⟨k1, k2, hne2⟩ := edges_kids hB hP e heE
  obtain ⟨x, y⟩ := e
  refine o_ixQ isq_list gi2 ?_
  have on : OnW (edgesF ks ts ws k) [x, y] := fun e he => by
    have : e = (x, y) := by simpa using he
    rw [this]; exact heE
  refine xs_set (e_frzL (e_call1 0 (a_cons (e_var rfl (a_cons (e_var rfl (a_cons (e_var rfl (a_cons (e_var rfl (a_nil ⟨_, _, rfl, p2.free, rfl, o2, ks, us, ts, wt, ws, k, [x, y], _, rfl, rfl, p2, .inr rfl, by simp, by show 2 ≤ 200; decide, hH, hko, on, fun o3 ss p3 hA3 => ⟨_, _, rfl, ?_⟩⟩)))))))))))
  rw [p3.shift1]
  refine ⟨2, _, rfl, Nat.le_refl _, rfl, UndO.all ⟨p3.under, trivial, trivial⟩, ?_⟩
  have hsl : ss.length = 1 := hA3.len
  have inn := hA3.inn hB hP on
  have gy : atI [PyData.str x, .str y] 1 = some (.str y) := rfl
  show ExS K _ [some (.own 0), some (.f (houseD ks ts wt ws)), some (.f (.list (sPy us))), some (.f (.str w)), some (.f (.str u)), some (.f (.str k)), some (.f (.tuple [.str x, .str y])), some (.f (.list (pPy E))), some (.f (.list (s3Py ss)))] [o3, .dct A] _
  rcases hqw with hw | hw
  · have hw : w = "first" := hw
    subst hw
    refine xs_gateC False (t_test (e_op (e_var rfl (e_str (o_eqS ⟨_, rfl, ?_⟩))))) fun h => h.elim
    rw [decide_eq_true rfl]
    refine iteT (x_ret (e_tup (a_cons (e_lstF (a_cons (e_var rfl (a_cons (e_op (e_var rfl (e_int (o_ixQ isq_tup gy (a_nil ⟨[.str u, .str y], rfl, Nat.le_of_ble_eq_true rfl, ?_⟩))))))))))))
    refine a_cons (e_op (e_lstF (a_cons (e_tup (a_cons (e_str (a_cons (e_var rfl (a_cons (e_op (e_var rfl (e_int (o_ixQ isq_tup (atI_zero _ _) (a_nil ⟨_, rfl, Nat.le_of_ble_eq_true rfl, a_nil ⟨[.tuple [.str "first", .str u, .str x]], rfl, Nat.le_of_ble_eq_true rfl, ?_⟩⟩))))))))))))))
    refine e_var rfl (o_addLF isl_list isl_list (by rw [s3Py_len, hsl]; exact Nat.le_of_ble_eq_true rfl) (a_nil ⟨_, rfl, Nat.le_of_ble_eq_true rfl, ?_⟩))
    refine Res.dat (und p3) (z2 o3 (mPy true [u, y]) (fun ss => groupEndsB k [u, y] (ss.map (endsF ks ts (bareW ws [u, y])))) ((("first", u, x) : Step3) :: ss) p3 (.grp (by simp) (fun m hm => ?_) (by show 2 ≤ 60; decide)) (fun t ht => ?_) (by rw [List.length_cons, hsl]; decide) ?_)
    · rcases List.mem_cons.mp hm with rfl | hm
      · exact ku
      · rw [List.mem_singleton.mp hm]; exact k2
    · rcases List.mem_cons.mp ht with rfl | ht
      · exact ⟨.inr (.inl rfl), hqu, hB.kid k1⟩
      · exact inn t ht
    · show groupEndsB k [u, y] ((((("first", u, x) : Step3) :: ss).map (endsF ks ts (bareW ws [u, y])))) = false
      rw [List.map_cons, ends_bare ne_first (show u ∈ [u, y] by simp)]
      unfold groupEndsB
      rw [go_none (by simp)]
      rfl
  · have hw : w = "last" := hw
    subst hw
    refine xs_gate (t_test (e_op (e_var rfl (e_str (o_eqS ⟨_, rfl, ?_⟩))))) ?_
    · rw [decide_eq_false (show ¬ ("last" : Str) = "first" from wne1.symm)]
      exact iteF rfl
    refine x_ret (e_tup (a_cons (e_lstF (a_cons (e_op (e_var rfl (e_int (o_ixQ isq_tup (atI_zero _ _) (a_cons (e_var rfl (a_nil ⟨[.str x, .str u], rfl, Nat.le_of_ble_eq_true rfl, ?_⟩)))))))))))
    refine a_cons (e_op (e_var rfl (e_lstF (a_cons (e_tup (a_cons (e_str (a_cons (e_op (e_var rfl (e_int (o_ixQ isq_tup gy (a_cons (e_var rfl (a_nil ⟨_, rfl, Nat.le_of_ble_eq_true rfl, a_nil ⟨[.tuple [.str "last", .str y, .str u]], rfl, Nat.le_of_ble_eq_true rfl, ?_⟩⟩)))))))))))))))
    refine o_addLF isl_list isl_list (by rw [s3Py_len, hsl]; exact Nat.le_of_ble_eq_true rfl) (a_nil ⟨_, rfl, Nat.le_of_ble_eq_true rfl, ?_⟩)
    have ea : s3Py ss ++ [PyData.tuple [.str "last", .str y, .str u]] = s3Py (ss ++ [(("last", y, u) : Step3)]) := (s3Py_app ss [(("last", y, u) : Step3)]).symm
    rw [ea]
    refine Res.dat (und p3) (z2 o3 (mPy true [x, u]) (fun ss => groupEndsB k [x, u] (ss.map (endsF ks ts (bareW ws [x, u])))) (ss ++ [(("last", y, u) : Step3)]) p3 (.grp (by simp) (fun m hm => ?_) (by show 2 ≤ 60; decide)) (fun t ht => ?_) (by rw [List.length_append, hsl]; exact Nat.le_of_ble_eq_true rfl) ?_)
    · rcases List.mem_cons.mp hm with rfl | hm
      · exact k1
      · rw [List.mem_singleton.mp hm]; exact ku
    · rcases List.mem_append.mp ht with ht | ht
      · exact inn t ht
      · rw [List.mem_singleton.mp ht]; exact ⟨.inr (.inr rfl), hB.kid k2, hqu⟩
    · show groupEndsB k [x, u] (((ss ++ [(("last", y, u) : Step3)]).map (endsF ks ts (bareW ws [x, u])))) = false
      rw [List.map_append, List.map_cons, ends_bare (t := ("last", y, u)) ne_last (show u ∈ [x, u] by simp)]
      unfold groupEndsB
      rw [go_none (by simp)]
      rfl
theorem goesS_le {E : Ties} {f : Str → Nat} (hf : ∀ e ∈ E, f e.1 < f e.2) {a b : Str} (h : GoesS E a b) : f a ≤ f b := by
  induction h with
  | refl => exact Nat.le_refl _
  | tail _ h2 ih =>
    exact Nat.le_trans ih (Nat.le_of_lt (hf _ h2))
def inP (ks : Knots) (c u : Str) : Bool := decide (u = c ∨ c ∈ pathOf ks u)
def S__law_loose : Spec3 := fun ds g R => ∃ (o : O) (ks : Knots) (us : List Str) (ts wt ws : Ties), ds = [.own 0, .f (houseD ks ts wt ws), .f (.list (sPy us))] ∧ g = [o] ∧ IsPen o ∧ HouseOk ks us ts wt ws ∧ (∀ u ∈ us, PyData.strOk u = true) ∧ us ≠ [] ∧ us.length ≤ 60 ∧
  (∀ o', IsPen o' → R (.f .none) [o']) ∧ ∀ o' asked look ring, IsPen o' → Asked ks us ts ws 0 asked look → StepsIn us ring → ring.length ≤ 200 → look ring = false → R (.f (.tuple [asked, .list (s3Py ring)])) [o']
abbrev s__law_loose : Stmt := top 37
theorem sc__law_loose : FnScope ["_law_pen_here", "_law_house_here", "_law_units", "_law_loose_here", "_law_here", "_law_there", "_law_knot", "_law_child", "_law_goal", "_law_edges_here", "_law_some", "_law_row", "_law_kid", "_law_units_in", "_law_one", "_law_tie_here", "_law_unit"] ["_law_pen_here", "_law_house_here", "_law_units"] (defScope s__law_loose) := ⟨rfl, rfl, rfl, by decide +kernel, rfl, by decide +kernel, by decide +kernel⟩
set_option maxHeartbeats 4000000 in
theorem ok__law_loose (T : Bi K mg) (Df : DefAt K mg "_law_loose" s__law_loose ["_law_pen_here", "_law_house_here", "_law_units"]) (C__law_along : Cal P w K mg base 4 "_law_along" ["_law_pen_here", "_law_house_here", "_law_knot", "_law_row"] S__law_along) (C__law_draw : Cal P w K mg base 1 "_law_draw" ["_law_pen_here", "_law_most"] S__law_draw) (C__law_within : Cal P w K mg base 2 "_law_within" ["_law_house_here", "_law_unit", "_law_child"] S__law_within) (C__law_walk : Cal P w K mg base 2 "_law_walk" ["_law_pen_here", "_law_edges_here", "_law_here", "_law_goals"] S__law_walk) (C__law_reached : Cal P w K mg base 1 "_law_reached" ["_law_edges_here", "_law_one"] S__law_reached) (C__law_edges : Cal P w K mg base 3 "_law_edges" ["_law_house_here", "_law_knot"] S__law_edges) (C__law_parting : Cal P w K mg base 2 "_law_parting" ["_law_around_here", "_law_one", "_law_other"] S__law_parting) (C__law_around : Cal P w K mg base 1 "_law_around" ["_law_knots"] S__law_around) : Cal P w K mg base 5 "_law_loose" ["_law_pen_here", "_law_house_here", "_law_units"] S__law_loose := by
  refine ok4 Df sc__law_loose (fun ds g R h0 => by obtain ⟨_, _, _, _, _, _, h, _⟩ := h0; rw [h]; rfl) (fun cdv A outer s H E f hr => ?_)
  have hu1 := hu_of hr.r
  have hu64 := hr.units
  have hu65 : (A.deeper (PyProof.Rows.envOfC "_law_loose" (defScope s__law_loose) s.heap.objs.size f cdv)).units + 65 < cLine := by have := hr.un; omega
  refine ⟨_, (pss_cons (ps_set (i := 3) sc__law_loose.nd rfl (by first | exact Or.inl rfl | exact Or.inr rfl) (pe_tup (pa_cons (pe_ix (u_ix (K := K) rfl hu1) (pv 1) pe_int (fun _ _ => rfl)) (pa_cons (pe_op (u_add (K := K) rfl) (pe_ix (u_ix (K := K) rfl hu1) (pv 1) pe_int (fun _ _ => rfl)) (pe_ix (u_ix (K := K) rfl hu1) (pv 1) pe_int (fun _ _ => rfl))) (pa_cons (pe_tup pa_nil) (pa_cons (pe_ix (u_ix (K := K) rfl hu1) (pv 1) pe_int (fun _ _ => rfl)) pa_nil))))))
    (pss_cons (ps_if (pt_cmpR (u_eq (K := K) rfl hu64) (pe_ix (u_ix (K := K) rfl hu1) (pv 1) pe_int (fun _ _ => rfl)) (pe_tup pa_nil) (nomark _))
    (pss_one (ps_ret pe_non))
    pss_nil)
    (pss_cons (ps_asg (pe_ix (u_ix (K := K) rfl hu1) (pe_ix (u_ix (K := K) rfl hu1) (pv 1) pe_int (fun _ _ => rfl)) (pe_cal (K := K) rfl C__law_draw (hr.mono (by decide)) (by rfl) (pa_cons (pv 0) (pa_cons (pe_callB (u_len (K := K) rfl) (by rfl) T.b_len (by decide +kernel) (pa_cons (pe_ix (u_ix (K := K) rfl hu1) (pv 1) pe_int (fun _ _ => rfl)) pa_nil)) pa_nil))) (fun _ _ => rfl)) (u_tup (K := K) (n := 2) rfl (by rfl) (pgs_cons (pg_name (i := 4) sc__law_loose.nd rfl (by first | exact Or.inl rfl | exact Or.inr rfl)) (pgs_cons (pg_name (i := 5) sc__law_loose.nd rfl (by first | exact Or.inl rfl | exact Or.inr rfl)) pgs_nil))))
    (pss_cons (ps_asg (pe_cal (K := K) rfl C__law_parting (hr.mono (by decide)) (by rfl) (pa_cons (pe_cal (K := K) rfl C__law_around (hr.mono (by decide)) (by rfl) (pa_cons (pe_ix (u_ix (K := K) rfl hu1) (pv 1) pe_int (fun _ _ => rfl)) pa_nil)) (pa_cons (pv 4) (pa_cons (pv 5) pa_nil)))) (u_tup (K := K) (n := 3) rfl (by rfl) (pgs_cons (pg_name (i := 6) sc__law_loose.nd rfl (by first | exact Or.inl rfl | exact Or.inr rfl)) (pgs_cons (pg_name (i := 7) sc__law_loose.nd rfl (by first | exact Or.inl rfl | exact Or.inr rfl)) (pgs_cons (pg_name (i := 8) sc__law_loose.nd rfl (by first | exact Or.inl rfl | exact Or.inr rfl)) pgs_nil)))))
    (pss_cons (ps_set (i := 9) sc__law_loose.nd rfl (by first | exact Or.inl rfl | exact Or.inr rfl) (pe_cal (K := K) rfl C__law_edges (hr.mono (by decide)) (by rfl) (pa_cons (pv 1) (pa_cons (pv 6) pa_nil))))
    (pss_cons (ps_set (i := 10) sc__law_loose.nd rfl (by first | exact Or.inl rfl | exact Or.inr rfl) (pe_cal (K := K) rfl C__law_reached (hr.mono (by decide)) (by rfl) (pa_cons (pv 9) (pa_cons (pv 8) pa_nil))))
    (pss_cons (ps_set (i := 11) sc__law_loose.nd rfl (by first | exact Or.inl rfl | exact Or.inr rfl) (pe_lst (pa_cons (pv 8) pa_nil)))
    (pss_cons (ps_set (i := 12) sc__law_loose.nd rfl (by first | exact Or.inl rfl | exact Or.inr rfl) (pe_ix (u_ix (K := K) rfl hu1) (pv 10) (pe_cal (K := K) rfl C__law_draw (hr.mono (by decide)) (by rfl) (pa_cons (pv 0) (pa_cons (pe_callB (u_len (K := K) rfl) (by rfl) T.b_len (by decide +kernel) (pa_cons (pv 10) pa_nil)) pa_nil))) (fun _ _ => rfl)))
    (pss_cons (ps_if (pt_cmpR (u_ne (K := K) rfl hu64) (pv 12) (pv 8) (nomark _))
    (pss_one (ps_set (i := 11) sc__law_loose.nd rfl (by first | exact Or.inl rfl | exact Or.inr rfl) (pe_cal (K := K) rfl C__law_walk (hr.mono (by decide)) (by rfl) (pa_cons (pv 0) (pa_cons (pv 9) (pa_cons (pv 8) (pa_cons (pe_lst (pa_cons (pv 12) pa_nil)) pa_nil)))))))
    pss_nil)
    (pss_cons (ps_setLc (i := 13) (own := [("_law_unit", 16)]) (by rfl) sc__law_loose.nd rfl rfl (sw_true rfl rfl rfl (by decide +kernel)) (u_seq (K := K) rfl (pv 2)) (blkOk_by (own := [("_law_unit", 16)]) (N := ["_law_pen_here", "_law_house_here", "_law_units", "_law_loose_here", "_law_here", "_law_there", "_law_knot", "_law_child", "_law_goal", "_law_edges_here", "_law_some", "_law_row", "_law_kid", "_law_units_in", "_law_one", "_law_tie_here", "_law_unit"]) (sc := defScope s__law_loose) (by decide +kernel)) (fun _ _ _ _ _ => (pg_name (i := 16) sc__law_loose.nd rfl (by first | exact Or.inl rfl | exact Or.inr rfl))) (fun _ _ _ _ _ => (pts_one (PW.pt (pw_or (pt_cmpR (u_eq (K := K) rfl hu64) (pv 16) (pv 7) (nomark _)) (pw_or1 (pt_val (pe_cal (K := K) rfl C__law_within (hr.mono (by decide)) (by rfl) (pa_cons (pv 1) (pa_cons (pv 16) (pa_cons (pv 7) pa_nil)))))))))) (fun _ _ _ _ _ => (pv 16)))
    (pss_cons (ps_setLc (i := 14) (own := [("_law_unit", 16)]) (by rfl) sc__law_loose.nd rfl rfl (sw_true rfl rfl rfl (by decide +kernel)) (u_seq (K := K) rfl (pv 2)) (blkOk_by (own := [("_law_unit", 16)]) (N := ["_law_pen_here", "_law_house_here", "_law_units", "_law_loose_here", "_law_here", "_law_there", "_law_knot", "_law_child", "_law_goal", "_law_edges_here", "_law_some", "_law_row", "_law_kid", "_law_units_in", "_law_one", "_law_tie_here", "_law_unit"]) (sc := defScope s__law_loose) (by decide +kernel)) (fun _ _ _ _ _ => (pg_name (i := 16) sc__law_loose.nd rfl (by first | exact Or.inl rfl | exact Or.inr rfl))) (fun _ _ _ _ _ => (pts_one (PW.pt (pw_or (pt_cmpR (u_eq (K := K) rfl hu64) (pv 16) (pe_ix (u_ix (K := K) rfl hu1) (pv 11) (pe_un un_neg pe_int) (fun _ _ => rfl)) (nomark _)) (pw_or1 (pt_val (pe_cal (K := K) rfl C__law_within (hr.mono (by decide)) (by rfl) (pa_cons (pv 1) (pa_cons (pv 16) (pa_cons (pe_ix (u_ix (K := K) rfl hu1) (pv 11) (pe_un un_neg pe_int) (fun _ _ => rfl)) pa_nil)))))))))) (fun _ _ _ _ _ => (pv 16)))
    (pss_cons (ps_set (i := 15) sc__law_loose.nd rfl (by first | exact Or.inl rfl | exact Or.inr rfl) (pe_tup (pa_cons (pe_ix (u_ix (K := K) rfl hu1) (pv 14) (pe_cal (K := K) rfl C__law_draw (hr.mono (by decide)) (by rfl) (pa_cons (pv 0) (pa_cons (pe_callB (u_len (K := K) rfl) (by rfl) T.b_len (by decide +kernel) (pa_cons (pv 14) pa_nil)) pa_nil))) (fun _ _ => rfl)) (pa_cons (pe_ix (u_ix (K := K) rfl hu1) (pv 13) (pe_cal (K := K) rfl C__law_draw (hr.mono (by decide)) (by rfl) (pa_cons (pv 0) (pa_cons (pe_callB (u_len (K := K) rfl) (by rfl) T.b_len (by decide +kernel) (pa_cons (pv 13) pa_nil)) pa_nil))) (fun _ _ => rfl)) pa_nil))))
    (pss_cons (ps_if (PW.pt (pw_or (pt_cmpR (u_in (K := K) rfl hu65) (pe_ix (u_ix (K := K) rfl hu1) (pv 15) pe_int (fun _ _ => rfl)) (pv 13) (by rfl)) (pw_or1 (pt_cmpR (u_in (K := K) rfl hu65) (pv 15) (pe_ix (u_ix (K := K) rfl hu1) (pv 3) pe_int (fun _ _ => rfl)) (by rfl)))))
    (pss_one (ps_ret pe_non))
    pss_nil)
    (pss_one (ps_ret (pe_tup (pa_cons (pv 15) (pa_cons (pe_op (u_add (K := K) rfl) (pe_lst (pa_cons (pe_op (u_add (K := K) rfl) (pe_tup (pa_cons pe_str pa_nil)) (pv 15)) (pa_cons (pe_tup (pa_cons pe_str (pa_cons (pv 4) (pa_cons (pv 5) pa_nil)))) pa_nil))) (pe_cal (K := K) rfl C__law_along (hr.mono (by decide)) (by rfl) (pa_cons (pv 0) (pa_cons (pv 1) (pa_cons (pv 6) (pa_cons (pv 11) pa_nil)))))) pa_nil)))))))))))))))))), fun ds g R hS => ?_⟩
  obtain ⟨o, ks, us, ts, wt, ws, rfl, rfl, hp, hO, hso, hun, hul, z1, z2⟩ := hS
  have hB := hO.tree
  have hP := hO.ties.pa
  have hH := hs44 hO hso
  have htl := hO.tl
  have hwl := hH.wl
  have hup : 0 < us.length := List.length_pos_iff.mpr hun
  have und : ∀ {o : O} {t : List O}, IsPen o → ∀ x ∈ (o :: t).take 1, x.under 1 := fun h x hx => by
    cases hx with
    | head => exact h.under
    | tail _ q => cases q
  have gu : ∀ {xs : List Str} {r : Int}, 0 ≤ r → r < (sPy xs).length → ∃ x, x ∈ xs ∧ atI (sPy xs) r = some (.str x) := fun {xs r} h0 h1 => by
    rw [sPy_len] at h1
    obtain ⟨j, rfl⟩ := Int.eq_ofNat_of_zero_le h0
    have hj : j < xs.length := by omega
    exact ⟨xs[j], List.getElem_mem hj, atI_nat (sPy_get_of (List.getElem?_eq_getElem hj))⟩
  have st : ∀ {u}, u ∈ us → ∃ k, Stands ks u k := fun {u} hu => by
    obtain ⟨_, _, T, _⟩ := id hB
    exact (T.all u).mp hu
  have hPw := hO.waits.pa
  have okT : ∀ e ∈ ts, PyData.strOk e.1 = true ∧ PyData.strOk e.2 = true := fun e he => ⟨hso _ (hP e he).1, hso _ (hP e he).2.1⟩
  have okWt : ∀ e ∈ wt, PyData.strOk e.1 = true ∧ PyData.strOk e.2 = true := fun e he => ⟨hso _ (hPw e he).1, hso _ (hPw e he).2.1⟩
  have wtl := hO.wl
  show ExS K _ [some _, some _, some _, none, none, none, none, none, none, none, none, none, none, none, none, none, none] _ _
  refine xs_set (e_tup (a_cons (e_op (e_var rfl (e_int (o_ixQ isq_tup rfl (a_cons (e_op (e_op (e_var rfl (e_int (o_ixQ isq_tup rfl (e_op (e_var rfl (e_int (o_ixQ isq_tup rfl (o_addTA (by rw [pPy_len, pPy_len]; omega) ?_)))))))))))))))))
  rw [← pPy_app]
  refine a_cons (e_tup (a_nil ⟨[], rfl, Nat.le_of_ble_eq_true rfl, a_cons (e_op (e_var rfl (e_int (o_ixQ isq_tup rfl (a_nil ⟨_, rfl, Nat.le_of_ble_eq_true rfl, ?_⟩)))))⟩))
  have gL : atI [plD (ksPy ks), .tuple (pPy (ts ++ wt)), .tuple [], .tuple (pPy ws)] 1 = some (.tuple (pPy (ts ++ wt))) := rfl
  generalize hL : PyData.tuple [plD (ksPy ks), .tuple (pPy (ts ++ wt)), .tuple [], .tuple (pPy ws)] = L
  refine xs_gateC (wt ≠ []) (t_test (e_op (e_op (e_var rfl (e_int (o_ixQ isq_tup rfl (e_tup (a_nil ⟨[], rfl, Nat.le_of_ble_eq_true rfl, o_eqPP (.inl asd_f) (.inl asd_f) (shape_pairsT okWt) shape_unit ⟨_, rfl, ?_⟩⟩)))))))) fun hne => ?_
  · rw [eqv_unit]
    cases hwt : wt with
    | nil => exact iteT (x_ret (e_non (Res.dat (und hp) (z1 o hp))))
    | cons e es => exact iteF ⟨rfl, by simp⟩
  have hwp : 0 < wt.length := List.length_pos_iff.mpr hne
  refine xs_asg (e_op (e_op (e_var rfl (e_int (o_ixQ isq_tup rfl (e_draw 0 (a_cons (e_var rfl (a_cons (e_cb (a_cons (e_op (e_var rfl (e_int (o_ixQ isq_tup rfl (a_nil (c_lenQ isq_tup (a_nil ⟨_, o, rfl, rfl, hp, by rw [pPy_len]; omega, by rw [pPy_len]; omega, fun r1 o1 a1 b1 p1 => ?_⟩))))))))))))))))))
  rw [pPy_len] at b1
  obtain ⟨j, rfl⟩ := Int.eq_ofNat_of_zero_le a1
  have hj : j < wt.length := by omega
  have ge : wt[j]? = some wt[j] := List.getElem?_eq_getElem hj
  generalize wt[j] = q at ge
  have ge2 : atI (pPy wt) (j : Nat) = some (.tuple [.str q.1, .str q.2]) := atI_nat (by unfold pPy; rw [List.getElem?_map, ge]; rfl)
  have hqm := List.mem_of_getElem? ge
  obtain ⟨n1, n2, k, x, y, hpt⟩ := hPw q hqm
  have hcl := hO.waits.cl q hqm k x y hpt
  refine o_ixQ isq_tup ge2 (g_tup rfl (g_cons (g_name (g_cons (g_name (g_nil ?_))))))
  obtain ⟨here, there⟩ := q
  obtain ⟨s1, s2, hxy⟩ := hB.part n1 n2 hpt
  have hk : k ∈ ks.map (·.1) := s1.knot
  have kx : x ∈ kids ks k := (mem_kids hB.names).mpr s1
  have ky : y ∈ kids ks k := (mem_kids hB.names).mpr s2
  have hko := (hH.nm).knot hB hk
  have hkl := hB.kidsLen k
  have fw := edges_fw hO (k := k)
  have hel := edges_len (ts := ts) (ws := ws) hB (k := k)
  have ekE : ∀ e ∈ edgesF ks ts ws k, e.1 ∈ kids ks k ∧ e.2 ∈ kids ks k := fun e he => ⟨(edges_kids hB hP e he).1, (edges_kids hB hP e he).2.1⟩
  have hnt : (here, there) ∉ ts := fun hm => by
    have h1 : (x, y) ∈ edgesF ks ts ws k := mem_edges.mpr (.inl (mem_tieE.mpr ⟨_, hm, hpt⟩))
    have h2 : (kids ks k).idxOf x < (kids ks k).idxOf y := fw _ h1
    have h3 : (kids ks k).idxOf y ≤ (kids ks k).idxOf x := goesS_le (f := fun v => (kids ks k).idxOf v) fw hcl
    omega
  refine xs_asg (e_call1 1 (a_cons (e_call0 (a_cons (e_op (e_var rfl (e_int (o_ixQ isq_tup rfl (a_nil ⟨trivial, ks, us, rfl, rfl, hB, fun A hA => a_cons (e_var rfl (a_cons (e_var rfl (a_nil ⟨_, _, rfl, trivial, rfl, ks, us, A, here, there, rfl, rfl, hB, hA, n1, n2, _, _, rfl, ?_⟩))))⟩)))))))))
  rw [show partF ks here there = some (k, x, y) from hpt]
  refine g_tup rfl (g_cons (g_name (g_cons (g_name (g_cons (g_name (g_nil ?_)))))))
  refine xs_set (e_frzL (e_call0 (a_cons (e_var rfl (a_cons (e_var rfl (a_nil ⟨trivial, ks, us, ts, wt, ws, k, rfl, rfl, hB, hP, hH.tl, hwl, hk, hso, 2, _, rfl, Nat.le_refl _, rfl, UndO.all ⟨p1.under, trivial, trivial⟩, ?_⟩)))))))
  refine xs_set (e_frzL (e_call0 (a_cons (e_var rfl (a_cons (e_var rfl (a_nil ⟨trivial, edgesF ks ts ws k, y, rfl, rfl, by omega, fun rs hR => ⟨2, _, rfl, Nat.le_refl _, rfl, UndO.all ⟨p1.under, trivial, trivial⟩, ?_⟩⟩)))))))
  have rsk : ∀ v ∈ rs, v ∈ kids ks k := fun v hv => by
    have key : ∀ {a b : Str}, GoesS (edgesF ks ts ws k) a b → a ∈ kids ks k → b ∈ kids ks k := fun h ha => by
      induction h with
      | refl => exact ha
      | tail _ h2 ih => exact (ekE _ h2).2
    exact key ((hR.all v).mp hv) ky
  have rsl : rs.length ≤ 60 := Nat.le_trans (nodup_le hR.nd rsk) hkl
  have rsp : 0 < rs.length := by
    cases rs with
    | nil => have := hR.hd; cases this
    | cons a b => exact Nat.succ_pos _
  refine xs_set (e_lstF (a_cons (e_var rfl (a_nil ⟨[.str y], rfl, Nat.le_of_ble_eq_true rfl, ?_⟩))))
  refine xs_set (e_op (e_var rfl (e_draw 0 (a_cons (e_var rfl (a_cons (e_cb (a_cons (e_var rfl (a_nil (c_lenQ isq_list (a_nil ⟨_, o1, rfl, rfl, p1, by rw [sPy_len]; omega, by rw [sPy_len]; omega, fun r2 o2 a2 b2 p2 => ?_⟩))))))))))))
  obtain ⟨kd, hkd, g2⟩ := gu a2 b2
  refine o_ixQ isq_list g2 ?_
  show ExS K _ [some (.own 0), some (.f (houseD ks ts wt ws)), some (.f (.list (sPy us))), some (.f L), some (.f (.str here)), some (.f (.str there)), some (.f (.str k)), some (.f (.str x)), some (.f (.str y)), some (.f (.list (pPy (edgesF ks ts ws k)))), some (.f (.list (sPy rs))), some (.f (.list (sPy [y]))), some (.f (.str kd)), none, none, none, none] [o2, .dct A] _
  refine xs_mid (fun ρ' l' => ∃ o' q cur, ρ' = [some (.own 0), some (.f (houseD ks ts wt ws)), some (.f (.list (sPy us))), some (.f L), some (.f (.str here)), some (.f (.str there)), some (.f (.str k)), some (.f (.str x)), some (.f (.str y)), some (.f (.list (pPy (edgesF ks ts ws k)))), some (.f (.list (sPy rs))), some (.f (.list (sPy (q ++ [cur])))), some (.f (.str kd)), none, none, none, none] ∧ l' = [o', .dct A] ∧ IsPen o' ∧ OnW (edgesF ks ts ws k) (q ++ [cur]) ∧ cur ∈ kids ks k) ?_ ?_
  · refine x_if (t_test (e_op (e_var rfl (e_var rfl (o_neS ⟨_, rfl, ?_⟩)))))
    refine nd_both (fun c => ?_) (fun c => x_next ⟨o2, [], y, rfl, rfl, p2, fun e he => by simp at he, ky⟩)
    have c : kd ≠ y := c
    refine x_set (e_frzL (e_call1 0 (a_cons (e_var rfl (a_cons (e_var rfl (a_cons (e_var rfl (a_cons (e_lstF (a_cons (e_var rfl (a_nil ⟨[.str kd], rfl, Nat.le_of_ble_eq_true rfl, a_nil ⟨_, _, rfl, p2.free, rfl, o2, edgesF ks ts ws k, y, [kd], kids ks k, fun v => (kids ks k).idxOf v, rfl, rfl, p2, by omega, by show 1 ≤ 60; decide, hkl, ekE, fun g hg => by rw [List.mem_singleton.mp hg]; exact rsk kd hkd, fun e he => ⟨fw e he, by show (kids ks k).idxOf e.2 ≤ 100; have := List.idxOf_le_length (l := kids ks k) (a := e.2); omega⟩, fun h => absurd ⟨by simpa using Ne.symm c, kd, List.mem_singleton.mpr rfl, (hR.all kd).mp hkd⟩ h, fun o4 q cur p4 W => ⟨_, _, rfl, ?_⟩⟩⟩)))))))))))))
    rw [p4.shift1]
    refine ⟨2, _, rfl, Nat.le_refl _, rfl, UndO.all ⟨p4.under, trivial, trivial⟩, ?_⟩
    exact ⟨o4, q, cur, rfl, rfl, p4, W.on, by rw [List.mem_singleton.mp W.last]; exact rsk kd hkd⟩
  rintro ρ' l' ⟨o3, q, cur, rfl, rfl, p3, on, kcur⟩
  have gl : atI (sPy (q ++ [cur])) (-1) = some (.str cur) := atI_m1 (by rw [sPy_app]; show (sPy q ++ [PyData.str cur]).getLast? = _; simp)
  refine xs_set (e_frzL (e_lcF (strF (inP ks x)) (gg_name (by decide)) (e_var rfl ⟨sPy us, isq_list, by rw [sPy_len]; omega, fun d hd => ?_, 2, _, rfl, Nat.le_refl _, rfl, UndO.all ⟨p3.under, trivial, trivial⟩, ?_⟩)))
  · obtain ⟨u, hu, rfl⟩ := sPy_mem hd
    have e1 : strF (inP ks x) (.str u) = if inP ks x u = true then some (.str u) else none := rfl
    refine g_name (t_or (t_test (e_op (e_var rfl (e_var rfl (o_eqS ⟨_, rfl, ?_⟩))))))
    refine d_both (fun c => e_var rfl ⟨_, rfl, e1.trans (if_pos (decide_eq_true (.inl c))), rfl⟩) (fun c => ?_)
    refine t_B (e_call0 (a_cons (e_var rfl (a_cons (e_var rfl (a_cons (e_var rfl (a_nil ⟨trivial, ks, us, ts, wt, ws, u, x, rfl, rfl, hB, hu, _, rfl, ?_⟩))))))))
    refine d_both (fun c2 => e_var rfl ⟨_, rfl, e1.trans (if_pos (decide_eq_true (.inr c2))), rfl⟩) (fun c2 => ⟨e1.trans (if_neg (by unfold inP; simp [c, c2])), rfl⟩)
  rw [sPy_filter]
  refine xs_set (e_frzL (e_lcF (strF (inP ks cur)) (gg_name (by decide)) (e_var rfl ⟨sPy us, isq_list, by rw [sPy_len]; omega, fun d hd => ?_, 2, _, rfl, Nat.le_refl _, rfl, UndO.all ⟨p3.under, trivial, trivial⟩, ?_⟩)))
  · obtain ⟨u, hu, rfl⟩ := sPy_mem hd
    have e1 : strF (inP ks cur) (.str u) = if inP ks cur u = true then some (.str u) else none := rfl
    refine g_name (t_or (t_test (e_op (e_var rfl (e_op (e_var rfl (e_un (e_int (o_neg (o_ixQ isq_list gl (o_eqS ⟨_, rfl, ?_⟩)))))))))))
    refine d_both (fun c => e_var rfl ⟨_, rfl, e1.trans (if_pos (decide_eq_true (.inl c))), rfl⟩) (fun c => ?_)
    refine t_B (e_call0 (a_cons (e_var rfl (a_cons (e_var rfl (a_cons (e_op (e_var rfl (e_un (e_int (o_neg (o_ixQ isq_list gl (a_nil ⟨trivial, ks, us, ts, wt, ws, u, cur, rfl, rfl, hB, hu, _, rfl, ?_⟩)))))))))))))
    refine d_both (fun c2 => e_var rfl ⟨_, rfl, e1.trans (if_pos (decide_eq_true (.inr c2))), rfl⟩) (fun c2 => ⟨e1.trans (if_neg (by unfold inP; simp [c, c2])), rfl⟩)
  rw [sPy_filter]
  have inU : ∀ {c v : Str}, v ∈ us.filter (inP ks c) → v ∈ us := fun h => (List.mem_filter.mp h).1
  have ul : ∀ c : Str, (us.filter (inP ks c)).length ≤ 60 := fun c => Nat.le_trans (List.length_filter_le _ _) hul
  have up : ∀ {c : Str}, c ∈ us → 0 < (us.filter (inP ks c)).length := fun {c} hc => List.length_pos_iff.mpr (List.ne_nil_of_mem (List.mem_filter.mpr ⟨hc, decide_eq_true (.inl rfl)⟩))
  have hX := up (hB.kid kx)
  have hC := up (hB.kid kcur)
  have lX := ul x
  have lC := ul cur
  refine xs_set (e_tup (a_cons (e_op (e_var rfl (e_draw 0 (a_cons (e_var rfl (a_cons (e_cb (a_cons (e_var rfl (a_nil (c_lenQ isq_list (a_nil ⟨_, o3, rfl, rfl, p3, by rw [sPy_len]; omega, by rw [sPy_len]; omega, fun r3 o4 a3 b3 p4 => ?_⟩))))))))))))))
  obtain ⟨ta, hta, g3⟩ := gu a3 b3
  refine o_ixQ isq_list g3 (a_cons (e_op (e_var rfl (e_draw 0 (a_cons (e_var rfl (a_cons (e_cb (a_cons (e_var rfl (a_nil (c_lenQ isq_list (a_nil ⟨_, o4, rfl, rfl, p4, by rw [sPy_len]; omega, by rw [sPy_len]; omega, fun r4 o5 a4 b4 p5 => ?_⟩)))))))))))))
  obtain ⟨tb, htb, g4⟩ := gu a4 b4
  refine o_ixQ isq_list g4 (a_nil ⟨_, rfl, Nat.le_of_ble_eq_true rfl, ?_⟩)
  have mta := inU hta
  have mtb := inU htb
  subst hL
  have okL : ∀ e ∈ ts ++ wt, PyData.strOk e.1 = true ∧ PyData.strOk e.2 = true := fun e he => (List.mem_append.mp he).elim (okT e) (okWt e)
  refine xs_gate (t_or (t_test (e_op (e_op (e_var rfl (e_int (o_ixQ isq_tup (atI_zero _ _) (e_var rfl (o_inQS isq_list ⟨_, rfl, ?_⟩))))))))) ?_
  · rw [if_neg Bool.false_ne_true]
    refine d_both (fun c => x_ret (e_non (Res.dat (und p5) (z1 o5 p5)))) (fun c => ?_)
    refine t_test (e_op (e_var rfl (e_op (e_var rfl (e_int (o_ixQ isq_tup gL (o_inE isq_tup (hso _ mta) (hso _ mtb) okL ⟨_, rfl, ?_⟩)))))))
    exact d_both (fun c => x_ret (e_non (Res.dat (und p5) (z1 o5 p5)))) (fun c => rfl)
  have hpl : (q ++ [cur]).length ≤ 60 := Nat.le_trans (nodup_le (rise_nodup (onW_rise (f := fun v => (kids ks k).idxOf v) fw on)) (onW_in ekE on kcur)) hkl
  refine x_ret (e_tup (a_cons (e_var rfl (a_cons (e_op (e_lstF (a_cons (e_op (e_tup (a_cons (e_str (a_nil ⟨[.str "tie"], rfl, Nat.le_of_ble_eq_true rfl, e_var rfl (o_addTA (by show 1 + 2 ≤ _; decide) ?_)⟩))))))))))))
  refine a_cons (e_tup (a_cons (e_str (a_cons (e_var rfl (a_cons (e_var rfl (a_nil ⟨_, rfl, Nat.le_of_ble_eq_true rfl, a_nil ⟨[.tuple [.str "tie", .str ta, .str tb], .tuple [.str "tie", .str here, .str there]], rfl, Nat.le_of_ble_eq_true rfl, ?_⟩⟩))))))))
  refine e_frzL (e_call1 0 (a_cons (e_var rfl (a_cons (e_var rfl (a_cons (e_var rfl (a_cons (e_var rfl (a_nil ⟨_, _, rfl, p5.free, rfl, o5, ks, us, ts, wt, ws, k, q ++ [cur], _, rfl, rfl, p5, .inl rfl, by simp, by omega, hH, hko, on, fun o6 ss p6 hA6 => ⟨_, _, rfl, ?_⟩⟩))))))))))
  rw [p6.shift1]
  have hsl := hA6.len
  refine ⟨2, _, rfl, Nat.le_refl _, rfl, UndO.all ⟨p6.under, trivial, trivial⟩, o_addLF isl_list isl_list (by rw [s3Py_len]; show 2 + _ ≤ _; omega) (a_nil ⟨_, rfl, Nat.le_of_ble_eq_true rfl, ?_⟩)⟩
  refine Res.dat (und p6) (z2 o6 _ _ ((("tie", ta, tb) : Step3) :: (("tie", here, there) : Step3) :: ss) p6 (.tie mta mtb) (fun t ht => ?_) (by rw [List.length_cons, List.length_cons]; omega) ?_)
  · rcases List.mem_cons.mp ht with rfl | ht
    · exact ⟨.inl rfl, mta, mtb⟩
    rcases List.mem_cons.mp ht with rfl | ht
    · exact ⟨.inl rfl, n1, n2⟩
    · exact hA6.inn hB hP on t ht
  · unfold tieRingB
    rw [List.tail_cons, List.map_cons]
    have : endsF ks ts ws (("tie", here, there) : Step3) = none := by
      unfold endsF
      rw [if_pos rfl]
      exact if_neg hnt
    rw [this, round_no (go_none (by simp)), Bool.and_false]
theorem unpl_s : ∀ M : List Str, unplAll (sPy M) = sPy M
  | [] => rfl
  | x :: M => by
    show PyData.str x :: unplAll (sPy M) = _
    rw [unpl_s M]
    rfl
theorem unpl_s3 : ∀ r : List Step3, unplAll (s3Py r) = s3Py r
  | [] => rfl
  | t :: r => by
    show PyData.tuple [.str t.1, .str t.2.1, .str t.2.2] :: unplAll (s3Py r) = _
    rw [unpl_s3 r]
    rfl
theorem isWord_len {w : Str} (h : IsWord w) : w.length ≤ 5 := by
  rcases h with rfl | rfl | rfl <;> decide
theorem ring_show {us : List Str} (hs : ∀ u ∈ us, PyData.strOk u = true ∧ u.length ≤ 30) : ∀ {r : List Step3}, StepsIn us r → briefAll (s3Py r) = true ∧ L3.wtAll (s3Py r) ≤ 670 * r.length ∧ PyData.depthAll (s3Py r) ≤ 1
  | [], _ => ⟨rfl, Nat.zero_le _, Nat.zero_le _⟩
  | t :: r, h => by
    obtain ⟨i1, i2, i3⟩ := ring_show hs (r := r) fun x hx => h x (List.mem_cons_of_mem _ hx)
    obtain ⟨h1, h2, h3⟩ := h t List.mem_cons_self
    have e : s3Py (t :: r) = .tuple [.str t.1, .str t.2.1, .str t.2.2] :: s3Py r := rfl
    have w1 := isWord_len h1
    have w2 := (hs _ h2).2
    have w3 := (hs _ h3).2
    rw [e]
    refine ⟨?_, ?_, ?_⟩
    · simp [brief, briefAll, i1, isWord_ok h1, (hs _ h2).1, (hs _ h3).1]
    · simp only [L3.wtAll, L3.wt, List.length_cons]; omega
    · simp only [PyData.depthAll, PyData.depth]; omega
theorem asked_show {ks : Knots} {us : List Str} {ts ws : Ties} (hB : TreeB ks us) (hs : ∀ u ∈ us, PyData.strOk u = true ∧ u.length ≤ 30) {sort : Int} {asked : PyData} {look : List Step3 → Bool} (h : Asked ks us ts ws sort asked look) : unpl asked = asked ∧ brief asked = true ∧ L3.wt asked ≤ 19000 ∧ PyData.depth asked ≤ 2 := by
  cases h with
  | @tie a b ha hb =>
    have w1 := (hs _ ha).2
    have w2 := (hs _ hb).2
    refine ⟨rfl, by simp [brief, briefAll, (hs _ ha).1, (hs _ hb).1], by simp only [L3.wt, L3.wtAll]; omega, by simp [PyData.depth, PyData.depthAll]⟩
  | @want w u hw hu =>
    have w1 := isWord_len (.inr hw)
    have w2 := (hs _ hu).2
    refine ⟨rfl, by simp [brief, briefAll, isWord_ok (.inr hw), (hs _ hu).1], by simp only [L3.wt, L3.wtAll]; omega, by simp [PyData.depth, PyData.depthAll]⟩
  | @grp b M k hM hk hl =>
    have hm : ∀ x ∈ M, PyData.strOk x = true ∧ x.length ≤ 30 := fun x hx => hs x (hB.kid (hk x hx))
    have w := wt_sPy fun x hx => (hm x hx).2
    have w2 : (10 * 30 + 4) * M.length ≤ (10 * 30 + 4) * 60 := Nat.mul_le_mul_left _ hl
    have b1 := brief_sPy fun x hx => (hm x hx).1
    have d1 := dep_sPy M
    cases b with
    | true => exact ⟨by show PyData.list (unplAll (sPy M)) = _; rw [unpl_s]; rfl, by show briefAll (sPy M) = true; exact b1, by show 3 + L3.wtAll (sPy M) ≤ _; omega, by show PyData.depthAll (sPy M) + 1 ≤ 2; omega⟩
    | false => exact ⟨by show PyData.tuple (unplAll (sPy M)) = _; rw [unpl_s]; rfl, by show briefAll (sPy M) = true; exact b1, by show 3 + L3.wtAll (sPy M) ≤ _; omega, by show PyData.depthAll (sPy M) + 1 ≤ 2; omega⟩
theorem unpl_p : ∀ es : Ties, unplAll (pPy es) = pPy es
  | [] => rfl
  | e :: es => by
    show PyData.tuple [.str e.1, .str e.2] :: unplAll (pPy es) = _
    rw [unpl_p es]
    rfl
theorem knots_depth : ∀ ks : Knots, PyData.depthAll (unplAll (ksPy ks)) ≤ 2
  | [] => Nat.zero_le _
  | k :: ks => by
    have ih := knots_depth ks
    have e : unplAll (ksPy (k :: ks)) = .tuple [.str k.1, .tuple (unplAll (sPy k.2))] :: unplAll (ksPy ks) := rfl
    have d := dep_sPy k.2
    rw [e, unpl_s]
    simp only [PyData.depthAll, PyData.depth]
    omega
theorem house_depth (ks : Knots) (ts wt ws : Ties) : (unpl (houseD ks ts wt ws)).depth ≤ 10 := by
  have e : unpl (houseD ks ts wt ws) = .tuple [.tuple (unplAll (ksPy ks)), .tuple (unplAll (pPy ts)), .tuple (unplAll (pPy wt)), .tuple (unplAll (pPy ws))] := rfl
  have d0 := knots_depth ks
  have d1 := dep_pPy ts
  have d2 := dep_pPy wt
  have d3 := dep_pPy ws
  rw [e, unpl_p, unpl_p, unpl_p]
  simp only [PyData.depthAll, PyData.depth]
  omega
theorem cut_takeN (xs : List PyData) (k : Nat) : cutD xs none (some (k : Int)) = xs.take k := by
  by_cases c : k ≤ xs.length
  · exact cut_take xs c
  · have e1 : HT.sIx xs.length xs.length (some (k : Int)) = min k xs.length := by
      show (if ((k : Int)) < 0 then ((k : Int) + (xs.length : Int)).toNat else min (k : Int).toNat xs.length) = _
      rw [if_neg (by omega)]
      rfl
    unfold cutD
    rw [e1, HT.sIx_none, List.drop_zero, Nat.sub_zero, Nat.min_eq_right (by omega), List.take_of_length_le (Nat.le_refl _), List.take_of_length_le (by omega)]
def S_law : Spec3 := fun ds g R => ∃ ns, ds = [.sq ns] ∧ g = [] ∧ ns.length ≤ 63 ∧ ∀ l', R (.f (.bool true)) l'
theorem law_in (ns : List Int) (h : ns.length ≤ 63) : S_law [.sq ns] [] (fun d _ => d = .f (.bool true)) := ⟨ns, rfl, rfl, h, fun _ => rfl⟩
abbrev s_law : Stmt := top 42
theorem sc_law : FnScope ["_law_script", "_law_pen_here", "_law_many", "_law_units", "_law_house_here", "_law_turn", "_law_sort", "_law_found", "_law_asked", "_law_ring", "_law_told", "_law_some", "_law_looks"] ["_law_script"] (defScope s_law) := ⟨rfl, rfl, rfl, by decide +kernel, rfl, by decide +kernel, by decide +kernel⟩
set_option maxHeartbeats 4000000 in
theorem ok_law (T : Bi K mg) {f : Addr} {fd : FuncData} (F : Fun K "law" "law" s_law f fd) (C__law_draw : Cal P w K mg base 1 "_law_draw" ["_law_pen_here", "_law_most"] S__law_draw) (C__law_look : Cal P w K mg base 6 "_law_look" ["_law_house_here", "_law_sort", "_law_asked", "_law_ring"] S__law_look) (C__law_loose : Cal P w K mg base 5 "_law_loose" ["_law_pen_here", "_law_house_here", "_law_units"] S__law_loose) (C__law_own : Cal P w K mg base 5 "_law_own" ["_law_pen_here", "_law_house_here", "_law_units"] S__law_own) (C__law_long : Cal P w K mg base 5 "_law_long" ["_law_pen_here", "_law_house_here", "_law_units"] S__law_long) (C__law_tie : Cal P w K mg base 5 "_law_tie" ["_law_pen_here", "_law_house_here", "_law_units"] S__law_tie) (C__law_want : Cal P w K mg base 5 "_law_want" ["_law_pen_here", "_law_house_here", "_law_units"] S__law_want) (C__law_group : Cal P w K mg base 5 "_law_group" ["_law_pen_here", "_law_house_here", "_law_units"] S__law_group) (C__law_house : Cal P w K mg base 5 "_law_house" ["_law_pen_here", "_law_units", "_law_deep"] S__law_house) (C__law_names : Cal P w K mg base 2 "_law_names" ["_law_pen_here", "_law_many"] S__law_names) (C__law_pen : Cal P w K mg base 1 "_law_pen" ["_law_script"] S__law_pen) : FnG P w K mg base CX0 7 f fd ["_law_script"] (P3 K S_law) := by
  refine ok4F F sc_law (fun ds g R h0 => by obtain ⟨_, h, _⟩ := h0; rw [h]; rfl) (fun cdv A outer s H E hr => ?_)
  have hu1 := hu_of hr.r
  have hu64 := hr.units
  have hu65 : (A.deeper (PyProof.Rows.envOfC "law" (defScope s_law) s.heap.objs.size f cdv)).units + 65 < cLine := by have := hr.un; omega
  refine ⟨_, (pss_cons (ps_set (i := 1) sc_law.nd rfl (by first | exact Or.inl rfl | exact Or.inr rfl) (pe_cal (K := K) rfl C__law_pen (hr.mono (by decide)) (by rfl) (pa_cons (pv 0) pa_nil)))
    (pss_cons (ps_set (i := 2) sc_law.nd rfl (by first | exact Or.inl rfl | exact Or.inr rfl) (pe_ix (u_ix (K := K) rfl hu1) (pe_lst (pa_cons (pe_op (u_add (K := K) rfl) pe_int (pe_cal (K := K) rfl C__law_draw (hr.mono (by decide)) (by rfl) (pa_cons (pv 1) (pa_cons pe_int pa_nil)))) (pa_cons (pe_op (u_add (K := K) rfl) pe_int (pe_cal (K := K) rfl C__law_draw (hr.mono (by decide)) (by rfl) (pa_cons (pv 1) (pa_cons pe_int pa_nil)))) pa_nil))) (pe_callTy u_int (by rfl) T.b_int (by decide +kernel) (pa_cons (pe_cmpR (u_eq (K := K) rfl hu64) (pe_cal (K := K) rfl C__law_draw (hr.mono (by decide)) (by rfl) (pa_cons (pv 1) (pa_cons pe_int pa_nil))) pe_int (nomark _)) pa_nil)) (fun _ _ => rfl)))
    (pss_cons (ps_set (i := 3) sc_law.nd rfl (by first | exact Or.inl rfl | exact Or.inr rfl) (pe_cal (K := K) rfl C__law_names (hr.mono (by decide)) (by rfl) (pa_cons (pv 1) (pa_cons (pv 2) pa_nil))))
    (pss_cons (ps_set (i := 4) sc_law.nd rfl (by first | exact Or.inl rfl | exact Or.inr rfl) (pe_cal (K := K) rfl C__law_house (hr.mono (by decide)) (by rfl) (pa_cons (pv 1) (pa_cons (pv 3) (pa_cons (pe_cal (K := K) rfl C__law_draw (hr.mono (by decide)) (by rfl) (pa_cons (pv 1) (pa_cons pe_int pa_nil))) pa_nil)))))
    (pss_cons (ps_for PassesOwn.never rfl (pi_range1 (by rfl) T.b_range (pa_cons (pe_op (u_add (K := K) rfl) pe_int (pe_cal (K := K) rfl C__law_draw (hr.mono (by decide)) (by rfl) (pa_cons (pv 1) (pa_cons pe_int pa_nil)))) pa_nil)) (pg_name (i := 5) sc_law.nd rfl (by first | exact Or.inl rfl | exact Or.inr rfl))
    (pss_cons (ps_set (i := 6) sc_law.nd rfl (by first | exact Or.inl rfl | exact Or.inr rfl) (pe_cal (K := K) rfl C__law_draw (hr.mono (by decide)) (by rfl) (pa_cons (pv 1) (pa_cons pe_int pa_nil))))
    (pss_cons (ps_set (i := 7) sc_law.nd rfl (by first | exact Or.inl rfl | exact Or.inr rfl) (pe_pick (K := K) rfl hu1 C__law_tie C__law_want C__law_group (hr.mono (by decide)) (hr.mono (by decide)) (hr.mono (by decide)) (by rfl) (by rfl) (by rfl) (pv 6) (fun _ _ => rfl) (pa_cons (pv 1) (pa_cons (pv 4) (pa_cons (pv 3) pa_nil)))))
    (pss_cons (ps_if (pt_cmpR op_notN1 (pv 7) pe_non (nomark _))
    (pss_cons (ps_asg (pv 7) (u_tup (K := K) (n := 2) rfl (by rfl) (pgs_cons (pg_name (i := 8) sc_law.nd rfl (by first | exact Or.inl rfl | exact Or.inr rfl)) (pgs_cons (pg_name (i := 9) sc_law.nd rfl (by first | exact Or.inl rfl | exact Or.inr rfl)) pgs_nil))))
    (pss_cons (ps_set (i := 10) sc_law.nd rfl (by first | exact Or.inl rfl | exact Or.inr rfl) (pe_callB (u_repr (K := K) rfl hr.g hu64) (by rfl) T.b_repr (by decide +kernel) (pa_cons (pe_tup (pa_cons (pv 4) (pa_cons (pv 8) (pa_cons (pv 9) pa_nil)))) pa_nil)))
    (pss_cons (ps_setLc (i := 12) (own := [("_law_some", 11)]) (by rfl) sc_law.nd rfl rfl (sw_true rfl rfl rfl (by decide +kernel)) (u_seq (K := K) rfl (pe_lst (pa_cons (pv 9) (pa_cons (pv 9) pa_nil)))) (blkOk_by (own := [("_law_some", 11)]) (N := ["_law_script", "_law_pen_here", "_law_many", "_law_units", "_law_house_here", "_law_turn", "_law_sort", "_law_found", "_law_asked", "_law_ring", "_law_told", "_law_some", "_law_looks"]) (sc := defScope s_law) (by decide +kernel)) (fun _ _ _ _ _ => (pg_name (i := 11) sc_law.nd rfl (by first | exact Or.inl rfl | exact Or.inr rfl))) (fun _ _ _ _ _ => pts_nil) (fun _ _ _ _ _ => (pe_cal (K := K) rfl C__law_look (hr.mono (by decide)) (by rfl) (pa_cons (pv 4) (pa_cons (pv 6) (pa_cons (pv 8) (pa_cons (pv 11) pa_nil)))))))
    (pss_cons (ps_for PassesOwn.never rfl (u_seq (K := K) rfl (pe_lst (pa_cons (pe_revU (K := K) rfl (pv 9)) (pa_cons (pe_slice (u_sl (K := K) rfl) (pv 9) (po_some pe_int) po_none) (pa_cons (pe_op (u_add (K := K) rfl) (pe_slice (u_sl (K := K) rfl) (pv 9) po_none (po_some pe_int)) (pv 9)) pa_nil))))) (pg_name (i := 11) sc_law.nd rfl (by first | exact Or.inl rfl | exact Or.inr rfl))
    (pss_one (ps_expr (u_bm (K := K) rfl PySem.F.plainAttrs_list PySem.F.slot_list_append PySem.F.type_list_append mt_append (pv 12) (pa_cons (pe_cal (K := K) rfl C__law_look (hr.mono (by decide)) (by rfl) (pa_cons (pv 4) (pa_cons (pv 6) (pa_cons (pv 8) (pa_cons (pv 11) pa_nil))))) pa_nil)))))
    (pss_one (ps_if (PW.pt (pw_or (pt_cmpR (u_ne (K := K) rfl hu64) (pe_callB (u_repr (K := K) rfl hr.g hu64) (by rfl) T.b_repr (by decide +kernel) (pa_cons (pv 12) pa_nil)) pe_str (nomark _)) (pw_or1 (pt_cmpR (u_ne (K := K) rfl hu64) (pe_callB (u_repr (K := K) rfl hr.g hu64) (by rfl) T.b_repr (by decide +kernel) (pa_cons (pe_tup (pa_cons (pv 4) (pa_cons (pv 8) (pa_cons (pv 9) pa_nil)))) pa_nil)) (pv 10) (nomark _)))))
    (pss_one (ps_ret pe_bl))
    pss_nil))))))
    pss_nil)
    (pss_cons (ps_set (i := 6) sc_law.nd rfl (by first | exact Or.inl rfl | exact Or.inr rfl) (pe_cal (K := K) rfl C__law_draw (hr.mono (by decide)) (by rfl) (pa_cons (pv 1) (pa_cons pe_int pa_nil))))
    (pss_cons (ps_set (i := 7) sc_law.nd rfl (by first | exact Or.inl rfl | exact Or.inr rfl) (pe_pick (K := K) rfl hu1 C__law_loose C__law_own C__law_long (hr.mono (by decide)) (hr.mono (by decide)) (hr.mono (by decide)) (by rfl) (by rfl) (by rfl) (pv 6) (fun _ _ => rfl) (pa_cons (pv 1) (pa_cons (pv 4) (pa_cons (pv 3) pa_nil)))))
    (pss_one (ps_if (PW.pt (pw_and (pt_cmpR op_notN1 (pv 7) pe_non (nomark _)) (pw_and1 (pt_cmpR (u_ne (K := K) rfl hu64) (pe_callB (u_repr (K := K) rfl hr.g hu64) (by rfl) T.b_repr (by decide +kernel) (pa_cons (pe_cal (K := K) rfl C__law_look (hr.mono (by decide)) (by rfl) (pa_cons (pv 4) (pa_cons (pe_callB (u_min2 rfl) (by rfl) T.b_min (by decide +kernel) (pa_cons pe_int (pa_cons (pe_op u_mul pe_int (pv 6)) pa_nil))) (pa_cons (pe_ix (u_ix (K := K) rfl hu1) (pv 7) pe_int (fun _ _ => rfl)) (pa_cons (pe_ix (u_ix (K := K) rfl hu1) (pv 7) pe_int (fun _ _ => rfl)) pa_nil))))) pa_nil)) pe_str (nomark _)))))
    (pss_one (ps_ret pe_bl))
    pss_nil))))))))
    (pss_one (ps_ret pe_bl))))))), fun ds g R hS => ?_⟩
  obtain ⟨ns, rfl, rfl, hn, z⟩ := hS
  show ExS K _ [some _, none, none, none, none, none, none, none, none, none, none, none, none] _ _
  refine xs_set (e_call0 (a_cons (e_var rfl (a_nil ⟨trivial, ns, rfl, rfl, hn, fun o hp => ?_⟩))))
  show ExS K _ [some (.sq ns), some (.own 0), none, none, none, none, none, none, none, none, none, none, none] [o.shift 0] _
  rw [hp.shift]
  have und : ∀ {o : O} {t : List O}, IsPen o → ∀ x ∈ (o :: t).take 1, x.under 1 := fun h x hx => by
    cases hx with
    | head => exact h.under
    | tail _ q => cases q
  refine xs_set (e_op (e_lstF (a_cons (e_op (e_int (e_draw 0 (a_cons (e_var rfl (a_cons (e_int (a_nil ⟨_, o, rfl, rfl, hp, by decide, by decide, fun r1 o1 r10 r11 p1 => o_addI ?_⟩)))))))))))
  refine a_cons (e_op (e_int (e_draw 0 (a_cons (e_var rfl (a_cons (e_int (a_nil ⟨_, o1, rfl, rfl, p1, by decide, by decide, fun r2 o2 r20 r21 p2 => o_addI (a_nil ⟨[.int (1 + r1), .int (1 + r2)], rfl, Nat.le_of_ble_eq_true rfl, ?_⟩)⟩))))))))
  refine e_cb (a_cons (e_op (e_draw 0 (a_cons (e_var rfl (a_cons (e_int (a_nil ⟨_, o2, rfl, rfl, p2, by decide, by decide, fun r3 o3 r30 r31 p3 => e_int (o_eqI (a_nil (c_intB ?_)))⟩))))))))
  obtain ⟨many, hm1, hm30, em⟩ : ∃ many : Int, 1 ≤ many ∧ many ≤ 30 ∧ atI [PyData.int (1 + r1), .int (1 + r2)] (if (decide (r3 = 0)) = true then 1 else 0) = some (.int many) := by
    cases decide (r3 = 0)
    · exact ⟨1 + r1, by omega, by omega, rfl⟩
    · exact ⟨1 + r2, by omega, by omega, rfl⟩
  refine o_ixQ isq_list em ?_
  refine xs_set (e_frzL (e_call1 0 (a_cons (e_var rfl (a_cons (e_var rfl (a_nil ⟨_, _, rfl, p3.free, rfl, o3, many, rfl, rfl, p3, by omega, by omega, fun o4 us p4 hN => ⟨_, _, rfl, ?_⟩⟩)))))))
  rw [p4.shift1]
  refine ⟨1, _, rfl, Nat.le_refl _, rfl, und p4, ?_⟩
  obtain ⟨hlen, hnd, hlow⟩ := hN
  have hso : ∀ u ∈ us, PyData.strOk u = true := fun u hu => (hlow u hu).1.ok
  have hs30 : ∀ u ∈ us, PyData.strOk u = true ∧ u.length ≤ 30 := fun u hu => ⟨hso u hu, (hlow u hu).2.2⟩
  refine xs_set (e_call1 0 (a_cons (e_var rfl (a_cons (e_var rfl (a_cons (e_draw 0 (a_cons (e_var rfl (a_cons (e_int (a_nil ⟨_, o4, rfl, rfl, p4, by decide, by decide, fun deep o5 d0 d1 p5 => ?_⟩))))))))))))
  refine a_nil ⟨_, _, rfl, p5.free, rfl, o5, us, deep, rfl, rfl, p5, by omega, hnd, fun u hu => ⟨(hlow u hu).2.1, hso u hu⟩, d0, by omega, fun o6 ks ts wt ws p6 hO hTr => ⟨_, _, rfl, ?_⟩⟩
  rw [p6.shift1]
  have hB := hO.tree
  have hul : us.length ≤ 60 := by omega
  have hun : us ≠ [] := fun e => by rw [e] at hlen; simp at hlen; omega
  obtain ⟨sb, sw, sd⟩ := hO.shows9 hs30
  show ExS K _ [some (.sq ns), some (.own 0), some (.f (.int many)), some (.f (.list (sPy us))), some (.f (houseD ks ts wt ws)), none, none, none, none, none, none, none, none] [o6] _
  refine xs_forR (a_cons (e_op (e_int (e_draw 0 (a_cons (e_var rfl (a_cons (e_int (a_nil ⟨_, o6, rfl, rfl, p6, by decide, by decide, fun r7 o7 r70 r71 p7 => o_addI (a_nil ⟨_, rfl, by omega, by omega, ?_⟩)⟩)))))))))
  refine ⟨fun i ρ' l' => ∃ o' a b c d e f g h, ρ' = [some (.sq ns), some (.own 0), some (.f (.int many)), some (.f (.list (sPy us))), some (.f (houseD ks ts wt ws)), a, b, c, d, e, f, g, h] ∧ l' = [o'] ∧ IsPen o' ∧ UndS 1 [a], ⟨o7, _, _, _, _, _, _, _, _, rfl, rfl, p7, trivial⟩, ?_, ?_⟩
  case refine_2 =>
    rintro ρ' l' ⟨o', a, b, c, d, e, f, g, h, rfl, rfl, p', _⟩
    exact x_ret (e_bl (Res.dat (fun _ h => by cases h) (z _)))
  rintro i ρ' l' hi ⟨o8, a, b, c, d, e, f, g, h, rfl, rfl, p8, _⟩
  refine g_name (x_tidy 1 [6, 7, 8, 9, 10, 11, 12] (Nat.le_refl _) ?_)
  refine xs_set (e_draw 0 (a_cons (e_var rfl (a_cons (e_int (a_nil ⟨_, o8, rfl, rfl, p8, by decide, by decide, fun sort o9 s0 s1 p9 => ?_⟩))))))
  have hsort : sort = 0 ∨ sort = 1 ∨ sort = 2 := by omega
  refine xs_set (e_cut 1 (Nat.le_refl _) (EvS.imp (R := fun d l1 => ∃ o' t, l1 = o' :: t ∧ IsPen o' ∧ (d = .f .none ∨ ∃ asked look ring, d = .f (.tuple [asked, .list (s3Py ring)]) ∧ Asked ks us ts ws sort asked look ∧ Ring44 us look ring)) (e_pick (e_var rfl ⟨sort, rfl, ?_⟩)) ?_))
  · rcases hsort with rfl | rfl | rfl
    · exact .inl ⟨rfl, e_call1 0 (a_cons (e_var rfl (a_cons (e_var rfl (a_cons (e_var rfl (a_nil ⟨_, _, rfl, p9.free, rfl, o9, ks, us, ts, wt, ws, rfl, rfl, p9, hO, hso, hun, hul, fun o' p' => ⟨_, _, rfl, by rw [p'.shift1]; exact ⟨o', _, rfl, p', .inl rfl⟩⟩, fun o' asked look ring p' hA hR => ⟨_, _, rfl, by rw [p'.shift1]; exact ⟨o', _, rfl, p', .inr ⟨asked, look, ring, rfl, hA, hR⟩⟩⟩⟩)))))))⟩
    · exact .inr (.inl ⟨rfl, e_call1 0 (a_cons (e_var rfl (a_cons (e_var rfl (a_cons (e_var rfl (a_nil ⟨_, _, rfl, p9.free, rfl, o9, ks, us, ts, wt, ws, rfl, rfl, p9, hO, hso, hun, hul, fun o' p' => ⟨_, _, rfl, by rw [p'.shift1]; exact ⟨o', _, rfl, p', .inl rfl⟩⟩, fun o' asked look ring p' hA hR => ⟨_, _, rfl, by rw [p'.shift1]; exact ⟨o', _, rfl, p', .inr ⟨asked, look, ring, rfl, hA, hR⟩⟩⟩⟩)))))))⟩)
    · exact .inr (.inr ⟨rfl, e_call1 0 (a_cons (e_var rfl (a_cons (e_var rfl (a_cons (e_var rfl (a_nil ⟨_, _, rfl, p9.free, rfl, o9, ks, us, ts, wt, ws, rfl, rfl, p9, hO, hso, hun, hul, fun o' p' => ⟨_, _, rfl, by rw [p'.shift1]; exact ⟨o', _, rfl, p', .inl rfl⟩⟩, fun o' asked look ring p' hA hR => ⟨_, _, rfl, by rw [p'.shift1]; exact ⟨o', _, rfl, p', .inr ⟨asked, look, ring, rfl, hA, hR⟩⟩⟩⟩)))))))⟩)
  rintro d0' l1 ⟨o10, t0, rfl, p10, hd⟩
  refine ⟨by rcases hd with rfl | ⟨_, _, _, rfl, _⟩ <;> trivial, und p10, ?_⟩
  show ExS K _ [some (.sq ns), some (.own 0), some (.f (.int many)), some (.f (.list (sPy us))), some (.f (houseD ks ts wt ws)), some (.f (.int (i : Int))), some (.f (.int sort)), some d0', d, e, f, g, h] [o10] _
  refine xs_mid (fun ρ' l' => ∃ o' t a b c d e f g, ρ' = [some (.sq ns), some (.own 0), some (.f (.int many)), some (.f (.list (sPy us))), some (.f (houseD ks ts wt ws)), some (.f (.int (i : Int))), a, b, c, d, e, f, g] ∧ l' = o' :: t ∧ IsPen o') ?_ ?_
  · rcases hd with rfl | ⟨asked, look, ring, rfl, hA, hR⟩
    · exact x_if (t_test (e_op (e_var rfl (e_non (o_notN ⟨false, rfl, iteF (x_next ⟨_, _, _, _, _, _, _, _, _, rfl, rfl, p10⟩)⟩)))))
    have hrl := hR.len
    obtain ⟨u1, b1, w1, d1⟩ := asked_show hB hs30 hA
    obtain ⟨b2, w2, d2⟩ := ring_show hs30 hR.inn
    have U : unpl (.tuple [houseD ks ts wt ws, asked, .list (s3Py ring)]) = .tuple [unpl (houseD ks ts wt ws), asked, .list (s3Py ring)] := by
      show PyData.tuple [unpl _, unpl asked, PyData.list (unplAll (s3Py ring))] = _
      rw [u1, unpl_s3]
    have bT : brief (unpl (.tuple [houseD ks ts wt ws, asked, .list (s3Py ring)])) = true := by rw [U]; simp [brief, briefAll, sb, b1, b2]
    have wT : L3.wt (unpl (.tuple [houseD ks ts wt ws, asked, .list (s3Py ring)])) ≤ 1000000 := by rw [U]; simp only [L3.wt, L3.wtAll]; omega
    have dT : (unpl (.tuple [houseD ks ts wt ws, asked, .list (s3Py ring)])).depth ≤ 60 := by
      have sd' := house_depth ks ts wt ws
      rw [U]; simp only [PyData.depth, PyData.depthAll]; omega
    refine x_if (t_test (e_op (e_var rfl (e_non (o_notN ⟨true, rfl, iteT ?_⟩)))))
    refine xs_asg (e_var rfl (g_tup rfl (g_cons (g_name (g_cons (g_name (g_nil ?_)))))))
    refine xs_set (e_cb (a_cons (e_tup (a_cons (e_var rfl (a_cons (e_var rfl (a_cons (e_var rfl (a_nil ⟨_, rfl, Nat.le_of_ble_eq_true rfl, a_nil (c_reprU bT wT dT ?_)⟩))))))))))
    generalize hrep : (unpl (.tuple [houseD ks ts wt ws, asked, .list (s3Py ring)])).shown = rep
    refine xs_set (e_lcF (fun _ => some (.bool true)) (gg_name (by decide)) (e_lstF (a_cons (e_var rfl (a_cons (e_var rfl (a_nil ⟨[.list (s3Py ring), .list (s3Py ring)], rfl, Nat.le_of_ble_eq_true rfl, _, isq_list, Nat.le_of_ble_eq_true rfl, fun d hd => ?_, ?_⟩)))))))
    · have ed : d = .list (s3Py ring) := by simpa using hd
      subst ed
      refine g_name (t_yes ?_)
      rw [if_pos rfl]
      refine e_call0 (a_cons (e_var rfl (a_cons (e_var rfl (a_cons (e_var rfl (a_cons (e_var rfl (a_nil ⟨trivial, ks, us, ts, wt, ws, sort, asked, look, ring, rfl, rfl, hO, hso, hA, hR.inn, by omega, ?_⟩)))))))))
      rw [hR.yes]
      exact ⟨_, rfl, rfl, rfl⟩
    show ExS K _ [some (.sq ns), some (.own 0), some (.f (.int many)), some (.f (.list (sPy us))), some (.f (houseD ks ts wt ws)), some (.f (.int (i : Int))), some (.f (.int sort)), some (.f (.tuple [asked, .list (s3Py ring)])), some (.f asked), some (.f (.list (s3Py ring))), some (.f (.str rep)), g, some (.own 1)] [o10, .lst [.bool true, .bool true]] _
    refine xs_forQ (e_lstF (a_cons (e_frzL (e_revL (e_var rfl ⟨_, isl_list, 2, _, rfl, Nat.le_refl _, rfl, UndO.all ⟨p10.under, trivial, trivial⟩, a_cons (e_sl (e_var rfl (o_some (e_int ⟨1, rfl, o_none (s_listF isl_list ?_)⟩))))⟩)))))
    refine a_cons (e_op (e_sl (e_var rfl (o_none (o_some (e_int ⟨1, rfl, s_listF isl_list (e_var rfl (o_addLF isl_list isl_list ?_ ?_))⟩))))))
    · rw [show (some 1 : Option Int) = some ((1 : Nat) : Int) from rfl, cut_takeN, List.length_take, s3Py_len]
      omega
    rw [cut_tail, show (some 1 : Option Int) = some ((1 : Nat) : Int) from rfl, cut_takeN]
    have e1 : (s3Py ring).reverse = s3Py ring.reverse := (List.map_reverse ..).symm
    have e2 : (s3Py ring).tail = s3Py ring.tail := (List.map_tail ..).symm
    have e3 : (s3Py ring).take 1 ++ s3Py ring = s3Py (ring.take 1 ++ ring) := by rw [s3Py_app]; unfold s3Py; rw [List.map_take]
    rw [e1, e2, e3]
    have items : ∀ d ∈ ([.list (s3Py ring.reverse), .list (s3Py ring.tail), .list (s3Py (ring.take 1 ++ ring))] : List PyData), ∃ r', d = .list (s3Py r') ∧ StepsIn us r' ∧ r'.length ≤ 900 ∧ look r' = false := fun d hd => by
      rcases List.mem_cons.mp hd with rfl | hd
      · exact ⟨_, rfl, fun t ht => hR.inn t (List.mem_reverse.mp ht), by rw [List.length_reverse]; omega, hR.rev⟩
      rcases List.mem_cons.mp hd with rfl | hd
      · exact ⟨_, rfl, fun t ht => hR.inn t (List.mem_of_mem_tail ht), by rw [List.length_tail]; omega, hR.tl⟩
      · rw [List.mem_singleton.mp hd]
        refine ⟨_, rfl, fun t ht => ?_, by rw [List.length_append, List.length_take]; omega, hR.two⟩
        rcases List.mem_append.mp ht with h | h
        · exact hR.inn t (List.mem_of_mem_take h)
        · exact hR.inn t h
    refine a_nil ⟨[.list (s3Py ring.reverse), .list (s3Py ring.tail), .list (s3Py (ring.take 1 ++ ring))], rfl, Nat.le_of_ble_eq_true rfl, [.list (s3Py ring.reverse), .list (s3Py ring.tail), .list (s3Py (ring.take 1 ++ ring))], isq_list, fun j ρ' l' => ∃ x, ρ' = [some (.sq ns), some (.own 0), some (.f (.int many)), some (.f (.list (sPy us))), some (.f (houseD ks ts wt ws)), some (.f (.int (i : Int))), some (.f (.int sort)), some (.f (.tuple [asked, .list (s3Py ring)])), some (.f asked), some (.f (.list (s3Py ring))), some (.f (.str rep)), x, some (.own 1)] ∧ l' = [o10, .lst ([PyData.bool true, .bool true] ++ List.replicate j (.bool false))] ∧ j ≤ 3, ⟨g, rfl, rfl, by decide⟩, fun _ _ _ _ _ => isq_list, ?_, ?_⟩
    · rintro j d0 ρ' l' hd0 ⟨x, rfl, rfl, hj⟩
      have hjl := (List.getElem?_eq_some_iff.mp hd0).1
      have hj2 : j < 3 := hjl
      obtain ⟨r', rfl, hin, hlr, hlk⟩ := items d0 (List.mem_of_getElem? hd0)
      refine g_name (x_drop (e_bmL (e_var rfl ⟨⟨_, isl_own (n := 1) rfl⟩, a_cons (e_call0 (a_cons (e_var rfl (a_cons (e_var rfl (a_cons (e_var rfl (a_cons (e_var rfl (a_nil ⟨trivial, ks, us, ts, wt, ws, sort, asked, look, r', rfl, rfl, hO, hso, hA, hin, hlr, ?_⟩))))))))))⟩)))
      rw [hlk]
      refine a_nil (m_append (n := 1) rfl (by rw [List.length_append, List.length_replicate]; show 2 + j ≤ _; omega) ?_)
      refine ⟨_, rfl, ?_, by omega⟩
      rw [List.replicate_succ', ← List.append_assoc]
      rfl
    rintro ρ' l' ⟨x, rfl, rfl, _⟩
    refine x_if (t_or (t_test (e_op (e_cb (a_cons (e_var rfl (a_nil (c_repr (d := .list [.bool true, .bool true, .bool false, .bool false, .bool false]) (.inl (asd_own (n := 1) rfl)) rfl (by decide) (by decide) (e_str (o_neS ⟨_, rfl, ?_⟩))))))))))
    rw [show decide ((PyData.list [.bool true, .bool true, .bool false, .bool false, .bool false]).shown = ("[True, True, False, False, False]" : Str)) = true from by decide +kernel]
    refine iteNT (t_test (e_op (e_cb (a_cons (e_tup (a_cons (e_var rfl (a_cons (e_var rfl (a_cons (e_var rfl (a_nil ⟨_, rfl, Nat.le_of_ble_eq_true rfl, a_nil (c_reprU bT wT dT (e_var rfl (o_neS ⟨_, rfl, ?_⟩)))⟩))))))))))))
    rw [hrep, decide_eq_true rfl]
    exact iteNT (x_next ⟨_, _, _, _, _, _, _, _, _, rfl, rfl, p10⟩)
  rintro ρ' l' ⟨o11, t1, a, b, c, d, e, f, g, rfl, rfl, p11⟩
  clear hsort hd s0 s1
  refine xs_set (e_draw 0 (a_cons (e_var rfl (a_cons (e_int (a_nil ⟨_, o11, rfl, rfl, p11, by decide, by decide, fun sort2 o12 s0 s1 p12 => ?_⟩))))))
  have hsort : sort2 = 0 ∨ sort2 = 1 ∨ sort2 = 2 := by omega
  refine xs_set (EvS.imp (R := fun d l1 => ∃ o' t, l1 = o' :: t ∧ IsPen o' ∧ (d = .f .none ∨ ∃ asked look ring, d = .f (.tuple [asked, .list (s3Py ring)]) ∧ Asked ks us ts ws (if 2 * sort2 < 2 then 2 * sort2 else 2) asked look ∧ StepsIn us ring ∧ ring.length ≤ 200 ∧ look ring = false)) (e_pick (e_var rfl ⟨sort2, rfl, ?_⟩)) ?_)
  · rcases hsort with rfl | rfl | rfl
    · exact .inl ⟨rfl, e_call1 0 (a_cons (e_var rfl (a_cons (e_var rfl (a_cons (e_var rfl (a_nil ⟨_, _, rfl, p12.free, rfl, o12, ks, us, ts, wt, ws, rfl, rfl, p12, hO, hso, hun, hul, fun o' p' => ⟨_, _, rfl, by rw [p'.shift1]; exact ⟨o', _, rfl, p', .inl rfl⟩⟩, fun o' asked look ring p' hA h1 h2 h3 => ⟨_, _, rfl, by rw [p'.shift1]; exact ⟨o', _, rfl, p', .inr ⟨asked, look, ring, rfl, hA, h1, h2, h3⟩⟩⟩⟩)))))))⟩
    · exact .inr (.inl ⟨rfl, e_call1 0 (a_cons (e_var rfl (a_cons (e_var rfl (a_cons (e_var rfl (a_nil ⟨_, _, rfl, p12.free, rfl, o12, ks, us, ts, wt, ws, rfl, rfl, p12, hO, hso, hun, hul, fun o' p' => ⟨_, _, rfl, by rw [p'.shift1]; exact ⟨o', _, rfl, p', .inl rfl⟩⟩, fun o' asked look ring p' hA h1 h2 h3 => ⟨_, _, rfl, by rw [p'.shift1]; exact ⟨o', _, rfl, p', .inr ⟨asked, look, ring, rfl, hA, h1, h2, h3⟩⟩⟩⟩)))))))⟩)
    · exact .inr (.inr ⟨rfl, e_call1 0 (a_cons (e_var rfl (a_cons (e_var rfl (a_cons (e_var rfl (a_nil ⟨_, _, rfl, p12.free, rfl, o12, ks, us, ts, wt, ws, rfl, rfl, p12, hO, hso, hun, hul, fun o' p' => ⟨_, _, rfl, by rw [p'.shift1]; exact ⟨o', _, rfl, p', .inl rfl⟩⟩, fun o' asked look ring p' hA h1 h2 h3 => ⟨_, _, rfl, by rw [p'.shift1]; exact ⟨o', _, rfl, p', .inr ⟨asked, look, ring, rfl, hA, h1, h2, h3⟩⟩⟩⟩)))))))⟩)
  rintro d1' l1 ⟨o13, t2, rfl, p13, hd2⟩
  have fin : ∀ (x5 x6 : Option D) (y : List (Option D)), True := fun _ _ _ => trivial
  rcases hd2 with rfl | ⟨asked, look, ring, rfl, hA, h1, h2, h3⟩
  · refine x_if (t_and (t_test (e_op (e_var rfl (e_non (o_notN ⟨false, rfl, iteF (x_next ?_)⟩))))))
    exact ⟨by walk_at "v", ⟨p13.under, trivial⟩, o13, _, _, _, _, _, _, _, _, rfl, rfl, p13, trivial, trivial⟩
  refine x_if (t_and (t_test (e_op (e_var rfl (e_non (o_notN ⟨true, rfl, iteT ?_⟩))))))
  refine t_test (e_op (e_cb (a_cons (e_call0 (a_cons (e_var rfl (a_cons (e_cb (a_cons (e_int (a_cons (e_op (e_int (e_var rfl (o_mulI (by walk_at "c") (a_nil (c_min2 (a_cons (e_op (e_var rfl (e_int (o_ixQ isq_tup (atI_zero _ _) (a_cons (e_op (e_var rfl (e_int (o_ixQ isq_tup (show atI [asked, .list (s3Py ring)] 1 = some (.list (s3Py ring)) from rfl) (a_nil ⟨trivial, ks, us, ts, wt, ws, _, asked, look, ring, rfl, rfl, hO, hso, hA, h1, by omega, ?_⟩))))))))))))))))))))))))))))
  rw [h3]
  refine a_nil (c_repr (d := .bool false) (.inl asd_f) rfl (by decide) (by decide) (e_str (o_neS ⟨_, rfl, ?_⟩)))
  rw [show decide ((PyData.bool false).shown = ("False" : Str)) = true from by decide +kernel]
  exact iteNT (x_next ⟨by walk_at "v", ⟨p13.under, trivial⟩, o13, _, _, _, _, _, _, _, _, rfl, rfl, p13, trivial, trivial⟩)
end
theorem defAt_mk {K : PySem.W.Frag} {h : Heap} {mg : Str → Option Value} {x : Str} {st : Stmt} {f : Addr} {oc : Value} {od an : Option Addr} {osl : Array (Option Value)} {kV dc pm cd ct : Value} {ps : List Str} (X : K.In h) (G : h.Ns mainGlobals mg)
    (a : PySem.W.nsIn K mainGlobals x = some (some (.ref f))) (l : K.lookup f = some ⟨oc, od, .func (PySem.W.fnOf x x (defArgs st) (defBody st) (defScope st) .none kV dc pm an cd ct), osl⟩) (c : PySem.W.codeIn K cd x = true) (k : PySem.W.keepIn K (.ref f) = true)
    (hb : ∀ (kV doc pm : Value) (an : Option Addr) (cdv ct : Value) (us : List Value), us.length = ps.length → bindArgs (PySem.W.fnOf x x (defArgs st) (defBody st) (defScope st) .none kV doc pm an cdv ct) ⟨us, []⟩ = pure (ps.zip us)) : DefAt K mg x st ps :=
  have F := fun_mk (st := st) l c k
  ⟨f, _, PySem.W.mg_of X G a, F, F.binds hb⟩
set_option maxHeartbeats 4000000 in
theorem all_mk {P : Program} {w : World} {K : PySem.W.Frag} {h : Heap} {mg : Str → Option Value} {fa : Addr} (X : K.In h) (G : h.Ns mainGlobals mg) (hfa : mg "law" = some (.ref fa))
    {f0 : Addr} {od0 an0 : Option Addr} {sl0 : Array (Option Value)} {oc0 kV0 dc0 pm0 cd0 ct0 : Value}
    {f1 : Addr} {od1 an1 : Option Addr} {sl1 : Array (Option Value)} {oc1 kV1 dc1 pm1 cd1 ct1 : Value}
    {f2 : Addr} {od2 an2 : Option Addr} {sl2 : Array (Option Value)} {oc2 kV2 dc2 pm2 cd2 ct2 : Value}
    {f3 : Addr} {od3 an3 : Option Addr} {sl3 : Array (Option Value)} {oc3 kV3 dc3 pm3 cd3 ct3 : Value}
    {f4 : Addr} {od4 an4 : Option Addr} {sl4 : Array (Option Value)} {oc4 kV4 dc4 pm4 cd4 ct4 : Value}
    {f5 : Addr} {od5 an5 : Option Addr} {sl5 : Array (Option Value)} {oc5 kV5 dc5 pm5 cd5 ct5 : Value}
    {f6 : Addr} {od6 an6 : Option Addr} {sl6 : Array (Option Value)} {oc6 kV6 dc6 pm6 cd6 ct6 : Value}
    {f7 : Addr} {od7 an7 : Option Addr} {sl7 : Array (Option Value)} {oc7 kV7 dc7 pm7 cd7 ct7 : Value}
    {f8 : Addr} {od8 an8 : Option Addr} {sl8 : Array (Option Value)} {oc8 kV8 dc8 pm8 cd8 ct8 : Value}
    {f9 : Addr} {od9 an9 : Option Addr} {sl9 : Array (Option Value)} {oc9 kV9 dc9 pm9 cd9 ct9 : Value}
    {f10 : Addr} {od10 an10 : Option Addr} {sl10 : Array (Option Value)} {oc10 kV10 dc10 pm10 cd10 ct10 : Value}
    {f11 : Addr} {od11 an11 : Option Addr} {sl11 : Array (Option Value)} {oc11 kV11 dc11 pm11 cd11 ct11 : Value}
    {f12 : Addr} {od12 an12 : Option Addr} {sl12 : Array (Option Value)} {oc12 kV12 dc12 pm12 cd12 ct12 : Value}
    {f13 : Addr} {od13 an13 : Option Addr} {sl13 : Array (Option Value)} {oc13 kV13 dc13 pm13 cd13 ct13 : Value}
    {f14 : Addr} {od14 an14 : Option Addr} {sl14 : Array (Option Value)} {oc14 kV14 dc14 pm14 cd14 ct14 : Value}
    {f15 : Addr} {od15 an15 : Option Addr} {sl15 : Array (Option Value)} {oc15 kV15 dc15 pm15 cd15 ct15 : Value}
    {f16 : Addr} {od16 an16 : Option Addr} {sl16 : Array (Option Value)} {oc16 kV16 dc16 pm16 cd16 ct16 : Value}
    {f17 : Addr} {od17 an17 : Option Addr} {sl17 : Array (Option Value)} {oc17 kV17 dc17 pm17 cd17 ct17 : Value}
    {f18 : Addr} {od18 an18 : Option Addr} {sl18 : Array (Option Value)} {oc18 kV18 dc18 pm18 cd18 ct18 : Value}
    {f19 : Addr} {od19 an19 : Option Addr} {sl19 : Array (Option Value)} {oc19 kV19 dc19 pm19 cd19 ct19 : Value}
    {f20 : Addr} {od20 an20 : Option Addr} {sl20 : Array (Option Value)} {oc20 kV20 dc20 pm20 cd20 ct20 : Value}
    {f21 : Addr} {od21 an21 : Option Addr} {sl21 : Array (Option Value)} {oc21 kV21 dc21 pm21 cd21 ct21 : Value}
    {f22 : Addr} {od22 an22 : Option Addr} {sl22 : Array (Option Value)} {oc22 kV22 dc22 pm22 cd22 ct22 : Value}
    {f23 : Addr} {od23 an23 : Option Addr} {sl23 : Array (Option Value)} {oc23 kV23 dc23 pm23 cd23 ct23 : Value}
    {f24 : Addr} {od24 an24 : Option Addr} {sl24 : Array (Option Value)} {oc24 kV24 dc24 pm24 cd24 ct24 : Value}
    {f25 : Addr} {od25 an25 : Option Addr} {sl25 : Array (Option Value)} {oc25 kV25 dc25 pm25 cd25 ct25 : Value}
    {f26 : Addr} {od26 an26 : Option Addr} {sl26 : Array (Option Value)} {oc26 kV26 dc26 pm26 cd26 ct26 : Value}
    {f27 : Addr} {od27 an27 : Option Addr} {sl27 : Array (Option Value)} {oc27 kV27 dc27 pm27 cd27 ct27 : Value}
    {f28 : Addr} {od28 an28 : Option Addr} {sl28 : Array (Option Value)} {oc28 kV28 dc28 pm28 cd28 ct28 : Value}
    {f29 : Addr} {od29 an29 : Option Addr} {sl29 : Array (Option Value)} {oc29 kV29 dc29 pm29 cd29 ct29 : Value}
    {f30 : Addr} {od30 an30 : Option Addr} {sl30 : Array (Option Value)} {oc30 kV30 dc30 pm30 cd30 ct30 : Value}
    {f31 : Addr} {od31 an31 : Option Addr} {sl31 : Array (Option Value)} {oc31 kV31 dc31 pm31 cd31 ct31 : Value}
    {f32 : Addr} {od32 an32 : Option Addr} {sl32 : Array (Option Value)} {oc32 kV32 dc32 pm32 cd32 ct32 : Value}
    {f33 : Addr} {od33 an33 : Option Addr} {sl33 : Array (Option Value)} {oc33 kV33 dc33 pm33 cd33 ct33 : Value}
    {f34 : Addr} {od34 an34 : Option Addr} {sl34 : Array (Option Value)} {oc34 kV34 dc34 pm34 cd34 ct34 : Value}
    {f35 : Addr} {od35 an35 : Option Addr} {sl35 : Array (Option Value)} {oc35 kV35 dc35 pm35 cd35 ct35 : Value}
    {f36 : Addr} {od36 an36 : Option Addr} {sl36 : Array (Option Value)} {oc36 kV36 dc36 pm36 cd36 ct36 : Value}
    {f37 : Addr} {od37 an37 : Option Addr} {sl37 : Array (Option Value)} {oc37 kV37 dc37 pm37 cd37 ct37 : Value}
    {t_TOP : Tok}
    (a0 : PySem.W.nsIn K mainGlobals "_law_pen" = some (some (.ref f0))) (l0 : K.lookup f0 = some ⟨oc0, od0, .func (PySem.W.fnOf "_law_pen" "_law_pen" (defArgs s__law_pen) (defBody s__law_pen) (defScope s__law_pen) .none kV0 dc0 pm0 an0 cd0 ct0), sl0⟩) (c0 : PySem.W.codeIn K cd0 "_law_pen" = true) (k0 : PySem.W.keepIn K (.ref f0) = true)
    (a1 : PySem.W.nsIn K mainGlobals "_law_draw" = some (some (.ref f1))) (l1 : K.lookup f1 = some ⟨oc1, od1, .func (PySem.W.fnOf "_law_draw" "_law_draw" (defArgs s__law_draw) (defBody s__law_draw) (defScope s__law_draw) .none kV1 dc1 pm1 an1 cd1 ct1), sl1⟩) (c1 : PySem.W.codeIn K cd1 "_law_draw" = true) (k1 : PySem.W.keepIn K (.ref f1) = true)
    (a2 : PySem.W.nsIn K mainGlobals "_law_names" = some (some (.ref f2))) (l2 : K.lookup f2 = some ⟨oc2, od2, .func (PySem.W.fnOf "_law_names" "_law_names" (defArgs s__law_names) (defBody s__law_names) (defScope s__law_names) .none kV2 dc2 pm2 an2 cd2 ct2), sl2⟩) (c2 : PySem.W.codeIn K cd2 "_law_names" = true) (k2 : PySem.W.keepIn K (.ref f2) = true)
    (a3 : PySem.W.nsIn K mainGlobals "_law_tree" = some (some (.ref f3))) (l3 : K.lookup f3 = some ⟨oc3, od3, .func (PySem.W.fnOf "_law_tree" "_law_tree" (defArgs s__law_tree) (defBody s__law_tree) (defScope s__law_tree) .none kV3 dc3 pm3 an3 cd3 ct3), sl3⟩) (c3 : PySem.W.codeIn K cd3 "_law_tree" = true) (k3 : PySem.W.keepIn K (.ref f3) = true)
    (a4 : PySem.W.nsIn K mainGlobals "_law_around" = some (some (.ref f4))) (l4 : K.lookup f4 = some ⟨oc4, od4, .func (PySem.W.fnOf "_law_around" "_law_around" (defArgs s__law_around) (defBody s__law_around) (defScope s__law_around) .none kV4 dc4 pm4 an4 cd4 ct4), sl4⟩) (c4 : PySem.W.codeIn K cd4 "_law_around" = true) (k4 : PySem.W.keepIn K (.ref f4) = true)
    (a5 : PySem.W.nsIn K mainGlobals "_law_path" = some (some (.ref f5))) (l5 : K.lookup f5 = some ⟨oc5, od5, .func (PySem.W.fnOf "_law_path" "_law_path" (defArgs s__law_path) (defBody s__law_path) (defScope s__law_path) .none kV5 dc5 pm5 an5 cd5 ct5), sl5⟩) (c5 : PySem.W.codeIn K cd5 "_law_path" = true) (k5 : PySem.W.keepIn K (.ref f5) = true)
    (a6 : PySem.W.nsIn K mainGlobals "_law_parting" = some (some (.ref f6))) (l6 : K.lookup f6 = some ⟨oc6, od6, .func (PySem.W.fnOf "_law_parting" "_law_parting" (defArgs s__law_parting) (defBody s__law_parting) (defScope s__law_parting) .none kV6 dc6 pm6 an6 cd6 ct6), sl6⟩) (c6 : PySem.W.codeIn K cd6 "_law_parting" = true) (k6 : PySem.W.keepIn K (.ref f6) = true)
    (a7 : PySem.W.nsIn K mainGlobals "_law_edges" = some (some (.ref f7))) (l7 : K.lookup f7 = some ⟨oc7, od7, .func (PySem.W.fnOf "_law_edges" "_law_edges" (defArgs s__law_edges) (defBody s__law_edges) (defScope s__law_edges) .none kV7 dc7 pm7 an7 cd7 ct7), sl7⟩) (c7 : PySem.W.codeIn K cd7 "_law_edges" = true) (k7 : PySem.W.keepIn K (.ref f7) = true)
    (a8 : PySem.W.nsIn K mainGlobals "_law_reached" = some (some (.ref f8))) (l8 : K.lookup f8 = some ⟨oc8, od8, .func (PySem.W.fnOf "_law_reached" "_law_reached" (defArgs s__law_reached) (defBody s__law_reached) (defScope s__law_reached) .none kV8 dc8 pm8 an8 cd8 ct8), sl8⟩) (c8 : PySem.W.codeIn K cd8 "_law_reached" = true) (k8 : PySem.W.keepIn K (.ref f8) = true)
    (a9 : PySem.W.nsIn K mainGlobals "_law_wants" = some (some (.ref f9))) (l9 : K.lookup f9 = some ⟨oc9, od9, .func (PySem.W.fnOf "_law_wants" "_law_wants" (defArgs s__law_wants) (defBody s__law_wants) (defScope s__law_wants) .none kV9 dc9 pm9 an9 cd9 ct9), sl9⟩) (c9 : PySem.W.codeIn K cd9 "_law_wants" = true) (k9 : PySem.W.keepIn K (.ref f9) = true)
    (a10 : PySem.W.nsIn K mainGlobals "_law_kept" = some (some (.ref f10))) (l10 : K.lookup f10 = some ⟨oc10, od10, .func (PySem.W.fnOf "_law_kept" "_law_kept" (defArgs s__law_kept) (defBody s__law_kept) (defScope s__law_kept) .none kV10 dc10 pm10 an10 cd10 ct10), sl10⟩) (c10 : PySem.W.codeIn K cd10 "_law_kept" = true) (k10 : PySem.W.keepIn K (.ref f10) = true)
    (a11 : PySem.W.nsIn K mainGlobals "_law_waiting" = some (some (.ref f11))) (l11 : K.lookup f11 = some ⟨oc11, od11, .func (PySem.W.fnOf "_law_waiting" "_law_waiting" (defArgs s__law_waiting) (defBody s__law_waiting) (defScope s__law_waiting) .none kV11 dc11 pm11 an11 cd11 ct11), sl11⟩) (c11 : PySem.W.codeIn K cd11 "_law_waiting" = true) (k11 : PySem.W.keepIn K (.ref f11) = true)
    (a12 : PySem.W.nsIn K mainGlobals "_law_house" = some (some (.ref f12))) (l12 : K.lookup f12 = some ⟨oc12, od12, .func (PySem.W.fnOf "_law_house" "_law_house" (defArgs s__law_house) (defBody s__law_house) (defScope s__law_house) .none kV12 dc12 pm12 an12 cd12 ct12), sl12⟩) (c12 : PySem.W.codeIn K cd12 "_law_house" = true) (k12 : PySem.W.keepIn K (.ref f12) = true)
    (a13 : PySem.W.nsIn K mainGlobals "knot_of" = some (some (.ref f13))) (l13 : K.lookup f13 = some ⟨oc13, od13, .func (PySem.W.fnOf "knot_of" "knot_of" (defArgs s_knot_of) (defBody s_knot_of) (defScope s_knot_of) .none kV13 dc13 pm13 an13 cd13 ct13), sl13⟩) (c13 : PySem.W.codeIn K cd13 "knot_of" = true) (k13 : PySem.W.keepIn K (.ref f13) = true)
    (a14 : PySem.W.nsIn K mainGlobals "chain" = some (some (.ref f14))) (l14 : K.lookup f14 = some ⟨oc14, od14, .func (PySem.W.fnOf "chain" "chain" (defArgs s_chain) (defBody s_chain) (defScope s_chain) .none kV14 dc14 pm14 an14 cd14 ct14), sl14⟩) (c14 : PySem.W.codeIn K cd14 "chain" = true) (k14 : PySem.W.keepIn K (.ref f14) = true)
    (a15 : PySem.W.nsIn K mainGlobals "parting" = some (some (.ref f15))) (l15 : K.lookup f15 = some ⟨oc15, od15, .func (PySem.W.fnOf "parting" "parting" (defArgs s_parting) (defBody s_parting) (defScope s_parting) .none kV15 dc15 pm15 an15 cd15 ct15), sl15⟩) (c15 : PySem.W.codeIn K cd15 "parting" = true) (k15 : PySem.W.keepIn K (.ref f15) = true)
    (a16 : PySem.W.nsIn K mainGlobals "children" = some (some (.ref f16))) (l16 : K.lookup f16 = some ⟨oc16, od16, .func (PySem.W.fnOf "children" "children" (defArgs s_children) (defBody s_children) (defScope s_children) .none kV16 dc16 pm16 an16 cd16 ct16), sl16⟩) (c16 : PySem.W.codeIn K cd16 "children" = true) (k16 : PySem.W.keepIn K (.ref f16) = true)
    (a17 : PySem.W.nsIn K mainGlobals "without_wants" = some (some (.ref f17))) (l17 : K.lookup f17 = some ⟨oc17, od17, .func (PySem.W.fnOf "without_wants" "without_wants" (defArgs s_without_wants) (defBody s_without_wants) (defScope s_without_wants) .none kV17 dc17 pm17 an17 cd17 ct17), sl17⟩) (c17 : PySem.W.codeIn K cd17 "without_wants" = true) (k17 : PySem.W.keepIn K (.ref f17) = true)
    (a18 : PySem.W.nsIn K mainGlobals "with_want" = some (some (.ref f18))) (l18 : K.lookup f18 = some ⟨oc18, od18, .func (PySem.W.fnOf "with_want" "with_want" (defArgs s_with_want) (defBody s_with_want) (defScope s_with_want) .none kV18 dc18 pm18 an18 cd18 ct18), sl18⟩) (c18 : PySem.W.codeIn K cd18 "with_want" = true) (k18 : PySem.W.keepIn K (.ref f18) = true)
    (a19 : PySem.W.nsIn K mainGlobals "ends_of" = some (some (.ref f19))) (l19 : K.lookup f19 = some ⟨oc19, od19, .func (PySem.W.fnOf "ends_of" "ends_of" (defArgs s_ends_of) (defBody s_ends_of) (defScope s_ends_of) .none kV19 dc19 pm19 an19 cd19 ct19), sl19⟩) (c19 : PySem.W.codeIn K cd19 "ends_of" = true) (k19 : PySem.W.keepIn K (.ref f19) = true)
    (a20 : PySem.W.nsIn K mainGlobals "go_on" = some (some (.ref f20))) (l20 : K.lookup f20 = some ⟨oc20, od20, .func (PySem.W.fnOf "go_on" "go_on" (defArgs s_go_on) (defBody s_go_on) (defScope s_go_on) .none kV20 dc20 pm20 an20 cd20 ct20), sl20⟩) (c20 : PySem.W.codeIn K cd20 "go_on" = true) (k20 : PySem.W.keepIn K (.ref f20) = true)
    (a21 : PySem.W.nsIn K mainGlobals "go_round" = some (some (.ref f21))) (l21 : K.lookup f21 = some ⟨oc21, od21, .func (PySem.W.fnOf "go_round" "go_round" (defArgs s_go_round) (defBody s_go_round) (defScope s_go_round) .none kV21 dc21 pm21 an21 cd21 ct21), sl21⟩) (c21 : PySem.W.codeIn K cd21 "go_round" = true) (k21 : PySem.W.keepIn K (.ref f21) = true)
    (a22 : PySem.W.nsIn K mainGlobals "is_tie_ring" = some (some (.ref f22))) (l22 : K.lookup f22 = some ⟨oc22, od22, .func (PySem.W.fnOf "is_tie_ring" "is_tie_ring" (defArgs s_is_tie_ring) (defBody s_is_tie_ring) (defScope s_is_tie_ring) .none kV22 dc22 pm22 an22 cd22 ct22), sl22⟩) (c22 : PySem.W.codeIn K cd22 "is_tie_ring" = true) (k22 : PySem.W.keepIn K (.ref f22) = true)
    (a23 : PySem.W.nsIn K mainGlobals "is_want_ring" = some (some (.ref f23))) (l23 : K.lookup f23 = some ⟨oc23, od23, .func (PySem.W.fnOf "is_want_ring" "is_want_ring" (defArgs s_is_want_ring) (defBody s_is_want_ring) (defScope s_is_want_ring) .none kV23 dc23 pm23 an23 cd23 ct23), sl23⟩) (c23 : PySem.W.codeIn K cd23 "is_want_ring" = true) (k23 : PySem.W.keepIn K (.ref f23) = true)
    (a24 : PySem.W.nsIn K mainGlobals "is_group_ring" = some (some (.ref f24))) (l24 : K.lookup f24 = some ⟨oc24, od24, .func (PySem.W.fnOf "is_group_ring" "is_group_ring" (defArgs s_is_group_ring) (defBody s_is_group_ring) (defScope s_is_group_ring) .none kV24 dc24 pm24 an24 cd24 ct24), sl24⟩) (c24 : PySem.W.codeIn K cd24 "is_group_ring" = true) (k24 : PySem.W.keepIn K (.ref f24) = true)
    (a25 : PySem.W.nsIn K mainGlobals "_law_steps" = some (some (.ref f25))) (l25 : K.lookup f25 = some ⟨oc25, od25, .func (PySem.W.fnOf "_law_steps" "_law_steps" (defArgs s__law_steps) (defBody s__law_steps) (defScope s__law_steps) .none kV25 dc25 pm25 an25 cd25 ct25), sl25⟩) (c25 : PySem.W.codeIn K cd25 "_law_steps" = true) (k25 : PySem.W.keepIn K (.ref f25) = true)
    (a26 : PySem.W.nsIn K mainGlobals "_law_walk" = some (some (.ref f26))) (l26 : K.lookup f26 = some ⟨oc26, od26, .func (PySem.W.fnOf "_law_walk" "_law_walk" (defArgs s__law_walk) (defBody s__law_walk) (defScope s__law_walk) .none kV26 dc26 pm26 an26 cd26 ct26), sl26⟩) (c26 : PySem.W.codeIn K cd26 "_law_walk" = true) (k26 : PySem.W.keepIn K (.ref f26) = true)
    (a27 : PySem.W.nsIn K mainGlobals "_law_along" = some (some (.ref f27))) (l27 : K.lookup f27 = some ⟨oc27, od27, .func (PySem.W.fnOf "_law_along" "_law_along" (defArgs s__law_along) (defBody s__law_along) (defScope s__law_along) .none kV27 dc27 pm27 an27 cd27 ct27), sl27⟩) (c27 : PySem.W.codeIn K cd27 "_law_along" = true) (k27 : PySem.W.keepIn K (.ref f27) = true)
    (a28 : PySem.W.nsIn K mainGlobals "_law_tie" = some (some (.ref f28))) (l28 : K.lookup f28 = some ⟨oc28, od28, .func (PySem.W.fnOf "_law_tie" "_law_tie" (defArgs s__law_tie) (defBody s__law_tie) (defScope s__law_tie) .none kV28 dc28 pm28 an28 cd28 ct28), sl28⟩) (c28 : PySem.W.codeIn K cd28 "_law_tie" = true) (k28 : PySem.W.keepIn K (.ref f28) = true)
    (a29 : PySem.W.nsIn K mainGlobals "_law_want" = some (some (.ref f29))) (l29 : K.lookup f29 = some ⟨oc29, od29, .func (PySem.W.fnOf "_law_want" "_law_want" (defArgs s__law_want) (defBody s__law_want) (defScope s__law_want) .none kV29 dc29 pm29 an29 cd29 ct29), sl29⟩) (c29 : PySem.W.codeIn K cd29 "_law_want" = true) (k29 : PySem.W.keepIn K (.ref f29) = true)
    (a30 : PySem.W.nsIn K mainGlobals "_law_names_turned" = some (some (.ref f30))) (l30 : K.lookup f30 = some ⟨oc30, od30, .func (PySem.W.fnOf "_law_names_turned" "_law_names_turned" (defArgs s__law_names_turned) (defBody s__law_names_turned) (defScope s__law_names_turned) .none kV30 dc30 pm30 an30 cd30 ct30), sl30⟩) (c30 : PySem.W.codeIn K cd30 "_law_names_turned" = true) (k30 : PySem.W.keepIn K (.ref f30) = true)
    (a31 : PySem.W.nsIn K mainGlobals "_law_group" = some (some (.ref f31))) (l31 : K.lookup f31 = some ⟨oc31, od31, .func (PySem.W.fnOf "_law_group" "_law_group" (defArgs s__law_group) (defBody s__law_group) (defScope s__law_group) .none kV31 dc31 pm31 an31 cd31 ct31), sl31⟩) (c31 : PySem.W.codeIn K cd31 "_law_group" = true) (k31 : PySem.W.keepIn K (.ref f31) = true)
    (a32 : PySem.W.nsIn K mainGlobals "_law_within" = some (some (.ref f32))) (l32 : K.lookup f32 = some ⟨oc32, od32, .func (PySem.W.fnOf "_law_within" "_law_within" (defArgs s__law_within) (defBody s__law_within) (defScope s__law_within) .none kV32 dc32 pm32 an32 cd32 ct32), sl32⟩) (c32 : PySem.W.codeIn K cd32 "_law_within" = true) (k32 : PySem.W.keepIn K (.ref f32) = true)
    (a33 : PySem.W.nsIn K mainGlobals "_law_look" = some (some (.ref f33))) (l33 : K.lookup f33 = some ⟨oc33, od33, .func (PySem.W.fnOf "_law_look" "_law_look" (defArgs s__law_look) (defBody s__law_look) (defScope s__law_look) .none kV33 dc33 pm33 an33 cd33 ct33), sl33⟩) (c33 : PySem.W.codeIn K cd33 "_law_look" = true) (k33 : PySem.W.keepIn K (.ref f33) = true)
    (a34 : PySem.W.nsIn K mainGlobals "_law_long" = some (some (.ref f34))) (l34 : K.lookup f34 = some ⟨oc34, od34, .func (PySem.W.fnOf "_law_long" "_law_long" (defArgs s__law_long) (defBody s__law_long) (defScope s__law_long) .none kV34 dc34 pm34 an34 cd34 ct34), sl34⟩) (c34 : PySem.W.codeIn K cd34 "_law_long" = true) (k34 : PySem.W.keepIn K (.ref f34) = true)
    (a35 : PySem.W.nsIn K mainGlobals "_law_own" = some (some (.ref f35))) (l35 : K.lookup f35 = some ⟨oc35, od35, .func (PySem.W.fnOf "_law_own" "_law_own" (defArgs s__law_own) (defBody s__law_own) (defScope s__law_own) .none kV35 dc35 pm35 an35 cd35 ct35), sl35⟩) (c35 : PySem.W.codeIn K cd35 "_law_own" = true) (k35 : PySem.W.keepIn K (.ref f35) = true)
    (a36 : PySem.W.nsIn K mainGlobals "_law_loose" = some (some (.ref f36))) (l36 : K.lookup f36 = some ⟨oc36, od36, .func (PySem.W.fnOf "_law_loose" "_law_loose" (defArgs s__law_loose) (defBody s__law_loose) (defScope s__law_loose) .none kV36 dc36 pm36 an36 cd36 ct36), sl36⟩) (c36 : PySem.W.codeIn K cd36 "_law_loose" = true) (k36 : PySem.W.keepIn K (.ref f36) = true)
    (a37 : PySem.W.nsIn K mainGlobals "law" = some (some (.ref f37))) (l37 : K.lookup f37 = some ⟨oc37, od37, .func (PySem.W.fnOf "law" "law" (defArgs s_law) (defBody s_law) (defScope s_law) .none kV37 dc37 pm37 an37 cd37 ct37), sl37⟩) (c37 : PySem.W.codeIn K cd37 "law" = true) (k37 : PySem.W.keepIn K (.ref f37) = true)
    (z_abs : PySem.W.nsIn K mainGlobals "abs" = some none)
    (z_all : PySem.W.nsIn K mainGlobals "all" = some none)
    (z_dict : PySem.W.nsIn K mainGlobals "dict" = some none)
    (z_int : PySem.W.nsIn K mainGlobals "int" = some none)
    (z_isinstance : PySem.W.nsIn K mainGlobals "isinstance" = some none)
    (z_len : PySem.W.nsIn K mainGlobals "len" = some none)
    (z_list : PySem.W.nsIn K mainGlobals "list" = some none)
    (z_min : PySem.W.nsIn K mainGlobals "min" = some none)
    (z_range : PySem.W.nsIn K mainGlobals "range" = some none)
    (z_repr : PySem.W.nsIn K mainGlobals "repr" = some none)
    (z_set : PySem.W.nsIn K mainGlobals "set" = some none)
    (z_str : PySem.W.nsIn K mainGlobals "str" = some none)
    (z_tuple : PySem.W.nsIn K mainGlobals "tuple" = some none)
    (z_zip : PySem.W.nsIn K mainGlobals "zip" = some none)
    (z_TOP : PySem.W.nsIn K mainGlobals "TOP" = some (some (.str "" t_TOP))) :
    ∃ fd : FuncData, (∀ (s : Shared) (u : Value), BindsTo s fd ⟨[u], []⟩ [("_law_script", u)]) ∧ ∀ base : Heap, K.In base → base.Ns mainGlobals mg → FnG P w K mg base CX0 7 fa fd ["_law_script"] (P3 K S_law) := by
  have e := hfa.symm.trans (PySem.W.mg_of X G a37)
  cases e
  have T : Bi K mg := ⟨PySem.W.mg_none_of X G z_abs, PySem.W.mg_none_of X G z_all, PySem.W.mg_none_of X G z_dict, PySem.W.mg_none_of X G z_int, PySem.W.mg_none_of X G z_isinstance, PySem.W.mg_none_of X G z_len, PySem.W.mg_none_of X G z_list, PySem.W.mg_none_of X G z_min, PySem.W.mg_none_of X G z_range, PySem.W.mg_none_of X G z_repr, PySem.W.mg_none_of X G z_set, PySem.W.mg_none_of X G z_str, PySem.W.mg_none_of X G z_tuple, PySem.W.mg_none_of X G z_zip, ⟨_, PySem.W.mg_of X G z_TOP⟩⟩
  have D0 : DefAt K mg "_law_pen" s__law_pen ["_law_script"] := defAt_mk X G a0 l0 c0 k0 fun _ _ _ _ _ _ us hl => match us, hl with | [_], _ => rfl
  have D1 : DefAt K mg "_law_draw" s__law_draw ["_law_pen_here", "_law_most"] := defAt_mk X G a1 l1 c1 k1 fun _ _ _ _ _ _ us hl => match us, hl with | [_, _], _ => rfl
  have D2 : DefAt K mg "_law_names" s__law_names ["_law_pen_here", "_law_many"] := defAt_mk X G a2 l2 c2 k2 fun _ _ _ _ _ _ us hl => match us, hl with | [_, _], _ => rfl
  have D3 : DefAt K mg "_law_tree" s__law_tree ["_law_pen_here", "_law_names_here", "_law_deep"] := defAt_mk X G a3 l3 c3 k3 fun _ _ _ _ _ _ us hl => match us, hl with | [_, _, _], _ => rfl
  have D4 : DefAt K mg "_law_around" s__law_around ["_law_knots"] := defAt_mk X G a4 l4 c4 k4 fun _ _ _ _ _ _ us hl => match us, hl with | [_], _ => rfl
  have D5 : DefAt K mg "_law_path" s__law_path ["_law_around_here", "_law_unit"] := defAt_mk X G a5 l5 c5 k5 fun _ _ _ _ _ _ us hl => match us, hl with | [_, _], _ => rfl
  have D6 : DefAt K mg "_law_parting" s__law_parting ["_law_around_here", "_law_one", "_law_other"] := defAt_mk X G a6 l6 c6 k6 fun _ _ _ _ _ _ us hl => match us, hl with | [_, _, _], _ => rfl
  have D7 : DefAt K mg "_law_edges" s__law_edges ["_law_house_here", "_law_knot"] := defAt_mk X G a7 l7 c7 k7 fun _ _ _ _ _ _ us hl => match us, hl with | [_, _], _ => rfl
  have D8 : DefAt K mg "_law_reached" s__law_reached ["_law_edges_here", "_law_one"] := defAt_mk X G a8 l8 c8 k8 fun _ _ _ _ _ _ us hl => match us, hl with | [_, _], _ => rfl
  have D9 : DefAt K mg "_law_wants" s__law_wants ["_law_pen_here", "_law_knots"] := defAt_mk X G a9 l9 c9 k9 fun _ _ _ _ _ _ us hl => match us, hl with | [_, _], _ => rfl
  have D10 : DefAt K mg "_law_kept" s__law_kept ["_law_pen_here", "_law_knots", "_law_units", "_law_many"] := defAt_mk X G a10 l10 c10 k10 fun _ _ _ _ _ _ us hl => match us, hl with | [_, _, _, _], _ => rfl
  have D11 : DefAt K mg "_law_waiting" s__law_waiting ["_law_pen_here", "_law_house_here", "_law_units"] := defAt_mk X G a11 l11 c11 k11 fun _ _ _ _ _ _ us hl => match us, hl with | [_, _, _], _ => rfl
  have D12 : DefAt K mg "_law_house" s__law_house ["_law_pen_here", "_law_units", "_law_deep"] := defAt_mk X G a12 l12 c12 k12 fun _ _ _ _ _ _ us hl => match us, hl with | [_, _, _], _ => rfl
  have D13 : DefAt K mg "knot_of" s_knot_of ["house", "one"] := defAt_mk X G a13 l13 c13 k13 fun _ _ _ _ _ _ us hl => match us, hl with | [_, _], _ => rfl
  have D14 : DefAt K mg "chain" s_chain ["house", "one"] := defAt_mk X G a14 l14 c14 k14 fun _ _ _ _ _ _ us hl => match us, hl with | [_, _], _ => rfl
  have D15 : DefAt K mg "parting" s_parting ["house", "one", "other"] := defAt_mk X G a15 l15 c15 k15 fun _ _ _ _ _ _ us hl => match us, hl with | [_, _, _], _ => rfl
  have D16 : DefAt K mg "children" s_children ["house", "knot"] := defAt_mk X G a16 l16 c16 k16 fun _ _ _ _ _ _ us hl => match us, hl with | [_, _], _ => rfl
  have D17 : DefAt K mg "without_wants" s_without_wants ["house", "units"] := defAt_mk X G a17 l17 c17 k17 fun _ _ _ _ _ _ us hl => match us, hl with | [_, _], _ => rfl
  have D18 : DefAt K mg "with_want" s_with_want ["house", "word", "unit"] := defAt_mk X G a18 l18 c18 k18 fun _ _ _ _ _ _ us hl => match us, hl with | [_, _, _], _ => rfl
  have D19 : DefAt K mg "ends_of" s_ends_of ["house", "told"] := defAt_mk X G a19 l19 c19 k19 fun _ _ _ _ _ _ us hl => match us, hl with | [_, _], _ => rfl
  have D20 : DefAt K mg "go_on" s_go_on ["ends"] := defAt_mk X G a20 l20 c20 k20 fun _ _ _ _ _ _ us hl => match us, hl with | [_], _ => rfl
  have D21 : DefAt K mg "go_round" s_go_round ["ends"] := defAt_mk X G a21 l21 c21 k21 fun _ _ _ _ _ _ us hl => match us, hl with | [_], _ => rfl
  have D22 : DefAt K mg "is_tie_ring" s_is_tie_ring ["house", "one", "other", "ring"] := defAt_mk X G a22 l22 c22 k22 fun _ _ _ _ _ _ us hl => match us, hl with | [_, _, _, _], _ => rfl
  have D23 : DefAt K mg "is_want_ring" s_is_want_ring ["house", "word", "one", "ring"] := defAt_mk X G a23 l23 c23 k23 fun _ _ _ _ _ _ us hl => match us, hl with | [_, _, _, _], _ => rfl
  have D24 : DefAt K mg "is_group_ring" s_is_group_ring ["house", "members", "ring"] := defAt_mk X G a24 l24 c24 k24 fun _ _ _ _ _ _ us hl => match us, hl with | [_, _, _], _ => rfl
  have D25 : DefAt K mg "_law_steps" s__law_steps ["_law_house_here", "_law_knot", "_law_here", "_law_there"] := defAt_mk X G a25 l25 c25 k25 fun _ _ _ _ _ _ us hl => match us, hl with | [_, _, _, _], _ => rfl
  have D26 : DefAt K mg "_law_walk" s__law_walk ["_law_pen_here", "_law_edges_here", "_law_here", "_law_goals"] := defAt_mk X G a26 l26 c26 k26 fun _ _ _ _ _ _ us hl => match us, hl with | [_, _, _, _], _ => rfl
  have D27 : DefAt K mg "_law_along" s__law_along ["_law_pen_here", "_law_house_here", "_law_knot", "_law_row"] := defAt_mk X G a27 l27 c27 k27 fun _ _ _ _ _ _ us hl => match us, hl with | [_, _, _, _], _ => rfl
  have D28 : DefAt K mg "_law_tie" s__law_tie ["_law_pen_here", "_law_house_here", "_law_units"] := defAt_mk X G a28 l28 c28 k28 fun _ _ _ _ _ _ us hl => match us, hl with | [_, _, _], _ => rfl
  have D29 : DefAt K mg "_law_want" s__law_want ["_law_pen_here", "_law_house_here", "_law_units"] := defAt_mk X G a29 l29 c29 k29 fun _ _ _ _ _ _ us hl => match us, hl with | [_, _, _], _ => rfl
  have D30 : DefAt K mg "_law_names_turned" s__law_names_turned ["_law_pen_here", "_law_some"] := defAt_mk X G a30 l30 c30 k30 fun _ _ _ _ _ _ us hl => match us, hl with | [_, _], _ => rfl
  have D31 : DefAt K mg "_law_group" s__law_group ["_law_pen_here", "_law_house_here", "_law_units"] := defAt_mk X G a31 l31 c31 k31 fun _ _ _ _ _ _ us hl => match us, hl with | [_, _, _], _ => rfl
  have D32 : DefAt K mg "_law_within" s__law_within ["_law_house_here", "_law_unit", "_law_child"] := defAt_mk X G a32 l32 c32 k32 fun _ _ _ _ _ _ us hl => match us, hl with | [_, _, _], _ => rfl
  have D33 : DefAt K mg "_law_look" s__law_look ["_law_house_here", "_law_sort", "_law_asked", "_law_ring"] := defAt_mk X G a33 l33 c33 k33 fun _ _ _ _ _ _ us hl => match us, hl with | [_, _, _, _], _ => rfl
  have D34 : DefAt K mg "_law_long" s__law_long ["_law_pen_here", "_law_house_here", "_law_units"] := defAt_mk X G a34 l34 c34 k34 fun _ _ _ _ _ _ us hl => match us, hl with | [_, _, _], _ => rfl
  have D35 : DefAt K mg "_law_own" s__law_own ["_law_pen_here", "_law_house_here", "_law_units"] := defAt_mk X G a35 l35 c35 k35 fun _ _ _ _ _ _ us hl => match us, hl with | [_, _, _], _ => rfl
  have D36 : DefAt K mg "_law_loose" s__law_loose ["_law_pen_here", "_law_house_here", "_law_units"] := defAt_mk X G a36 l36 c36 k36 fun _ _ _ _ _ _ us hl => match us, hl with | [_, _, _], _ => rfl
  have F := fun_mk (st := s_law) l37 c37 k37
  refine ⟨PySem.W.fnOf "law" "law" (defArgs s_law) (defBody s_law) (defScope s_law) .none kV37 dc37 pm37 an37 cd37 ct37, fun s u => .of_eq rfl, fun base _ _ => ?_⟩
  have c__law_pen := ok__law_pen (P := P) (w := w) (base := base) T D0
  have c__law_draw := ok__law_draw (P := P) (w := w) (base := base) T D1
  have c__law_names := ok__law_names (P := P) (w := w) (base := base) T D2 c__law_draw
  have c__law_tree := ok__law_tree (P := P) (w := w) (base := base) T D3 c__law_draw
  have c__law_around := ok__law_around (P := P) (w := w) (base := base) T D4
  have c__law_path := ok__law_path (P := P) (w := w) (base := base) T D5
  have c__law_parting := ok__law_parting (P := P) (w := w) (base := base) T D6 c__law_path
  have c__law_edges := ok__law_edges (P := P) (w := w) (base := base) T D7 c__law_parting c__law_around
  have c__law_reached := ok__law_reached (P := P) (w := w) (base := base) T D8
  have c__law_wants := ok__law_wants (P := P) (w := w) (base := base) T D9 c__law_draw
  have c__law_kept := ok__law_kept (P := P) (w := w) (base := base) T D10 c__law_parting c__law_draw c__law_around
  have c__law_waiting := ok__law_waiting (P := P) (w := w) (base := base) T D11 c__law_draw c__law_reached c__law_edges c__law_parting c__law_around
  have c__law_house := ok__law_house (P := P) (w := w) (base := base) T D12 c__law_waiting c__law_kept c__law_draw c__law_wants c__law_tree
  have c_knot_of := ok_knot_of (P := P) (w := w) (base := base) T D13
  have c_chain := ok_chain (P := P) (w := w) (base := base) T D14 c_knot_of
  have c_parting := ok_parting (P := P) (w := w) (base := base) T D15 c_chain
  have c_children := ok_children (P := P) (w := w) (base := base) T D16
  have c_without_wants := ok_without_wants (P := P) (w := w) (base := base) T D17
  have c_with_want := ok_with_want (P := P) (w := w) (base := base) T D18
  have c_ends_of := ok_ends_of (P := P) (w := w) (base := base) T D19 c_children c_knot_of c_parting
  have c_go_on := ok_go_on (P := P) (w := w) (base := base) T D20
  have c_go_round := ok_go_round (P := P) (w := w) (base := base) T D21 c_go_on
  have c_is_tie_ring := ok_is_tie_ring (P := P) (w := w) (base := base) T D22 c_go_round c_parting c_ends_of
  have c_is_want_ring := ok_is_want_ring (P := P) (w := w) (base := base) T D23 c_go_round c_ends_of c_with_want
  have c_is_group_ring := ok_is_group_ring (P := P) (w := w) (base := base) T D24 c_go_on c_knot_of c_ends_of c_without_wants
  have c__law_steps := ok__law_steps (P := P) (w := w) (base := base) T D25 c__law_parting c__law_around
  have c__law_walk := ok__law_walk (P := P) (w := w) (base := base) T D26 c__law_draw c__law_reached
  have c__law_along := ok__law_along (P := P) (w := w) (base := base) T D27 c__law_draw c__law_steps
  have c__law_tie := ok__law_tie (P := P) (w := w) (base := base) T D28 c__law_along c__law_walk c__law_edges c__law_parting c__law_around c__law_draw
  have c__law_want := ok__law_want (P := P) (w := w) (base := base) T D29 c__law_along c__law_walk c__law_draw c__law_edges c__law_around
  have c__law_names_turned := ok__law_names_turned (P := P) (w := w) (base := base) T D30 c__law_draw
  have c__law_group := ok__law_group (P := P) (w := w) (base := base) T D31 c__law_along c__law_names_turned c__law_walk c__law_draw c__law_edges c__law_around
  have c__law_within := ok__law_within (P := P) (w := w) (base := base) T D32 c__law_path c__law_around
  have c__law_look := ok__law_look (P := P) (w := w) (base := base) T D33 c_is_group_ring c_is_want_ring c_is_tie_ring
  have c__law_long := ok__law_long (P := P) (w := w) (base := base) T D34 c__law_along c__law_walk c__law_edges c__law_draw c__law_around
  have c__law_own := ok__law_own (P := P) (w := w) (base := base) T D35 c__law_along c__law_draw c__law_edges c__law_around
  have c__law_loose := ok__law_loose (P := P) (w := w) (base := base) T D36 c__law_along c__law_draw c__law_within c__law_walk c__law_reached c__law_edges c__law_parting c__law_around
  exact ok_law T F c__law_draw c__law_look c__law_loose c__law_own c__law_long c__law_tie c__law_want c__law_group c__law_house c__law_names c__law_pen
theorem hsp (K : PySem.W.Frag) (H : Hp) (a : Addr) (ns : List Int) (hl : ns.length ≤ 63) (hS : SqL K H a (ns.map V.int)) : P3 K S_law [.ref a] H (fun v _ => v = .bl true) fun _ _ _ => False :=
  ⟨[], H, [], [.sq ns], fun d _ => d = .f (.bool true), ⟨Same.refl _, rfl, List.nodup_nil, (fun _ h => by cases h), (fun n a o h => by simp at h)⟩, .cons ⟨a, rfl, hS⟩ .nil, law_in ns hl, fun v m' B' H' d l' s S r hd => by subst hd; exact bl_of r⟩
theorem walk {l : PySem.W.OpenLaw} {q : Program} {loose : List Str} {XP : (Str → Option Value) → Heap → Prop} {YP : World → Heap → Prop} {d : DefRec} {K : Params → PySem.W.Frag} (hn : l.most = some 63) (hdf : d.params.defaults = []) (hY : ∀ (w : World) (h : Heap), YP w h → (K w.params).In h)
    (F : ∀ (w : World) (mg : Str → Option Value) (fa : Addr) (h : Heap), (K w.params).In h → h.Ns mainGlobals mg → mg d.name = some (.ref fa) →
      ∃ fd : FuncData, (∀ (s : Shared) (u : Value), BindsTo s fd ⟨[u], []⟩ [("_law_script", u)]) ∧ ∀ base : Heap, (K w.params).In base → base.Ns mainGlobals mg → FnG l.prog w (K w.params) mg base CX0 7 fa fd ["_law_script"] (P3 (K w.params) S_law)) :
    PySem.W.WalkO q loose XP YP l.row.toRowW d [] (fun f vs => PySem.call f vs) :=
  walkG (n := 63) (k := 7) (x := "_law_script") (sp := fun w => P3 (K w.params) S_law) hn (by decide) hdf ⟨rfl, by decide, by decide⟩ hY (fun w _ a ns hl hS => hsp (K w.params) _ a ns hl hS) F
end Qk44
open PySem PySem.W PyProof.Rows
local macro_rules
  | `(tactic| walk_at "x_cls") => `(tactic| (refine' L3.clsN_mk ?h1 ?h2; (case h1 => k_is); (case h2 => k_is)))
local macro_rules
  | `(tactic| walk_at "x_rse") => `(tactic| (refine' L3.raiseN_mk ?h1 ?h2 PySem.F.excBase_ValueError ?h3 ?h4 ?h5; (case h1 => k_is); (case h2 => k_is); (case h3 => k_exc); (case h4 => k_is); (case h5 => k_is)))
local macro_rules
  | `(tactic| walk_at "x_xc") => `(tactic| (refine' L3.xc_mk ?h0 ?h1 ?h2 ?h3 ?h4 ?h5 ?h6 ?h7 ?h8; (case h0 => k_is); (case h1 => k_is); (case h2 => k_is); (case h3 => k_is); (case h4 => k_is); (case h5 => k_is); (case h6 => k_is); (case h7 => k_is); (case h8 => k_is)))
local macro_rules
  | `(tactic| walk_at "x_sub") => `(tactic| (refine' L3.sub2_mk ?h1 ?h2 ?h3 ?h4 ?h5 ?h6; (case h1 => k_is); (case h2 => k_is); (case h3 => k_is); (case h4 => k_is); (case h5 => k_is); (case h6 => first | exact fun _ => rfl | exact fun h => absurd h (by decide))))
local macro_rules
  | `(tactic| walk_at "x_sbb") => `(tactic| (refine' L3.subB_mk ?h1 ?h2 ?h3; (case h1 => k_is); (case h2 => decide +kernel); (case h3 => k_is)))
local macro_rules
  | `(tactic| walk_at "x_ctc") => `(tactic| (refine' L3.ctc_mk ?h1 ?h2 ?h3 ?h4 ?h5 ?h6; (case h1 => k_is); (case h2 => k_is); (case h3 => k_is); (case h4 => k_is); (case h5 => k_is); (case h6 => k_is)))
local macro_rules
  | `(tactic| walk_at "x_hf") => `(tactic| (refine' L3.hasF_mk ?h1 ?h2 ?h3 ?h4 ?h5 ?h6; (case h1 => k_is); (case h2 => k_is); (case h3 => k_is); (case h4 => k_is); (case h5 => k_is); (case h6 => k_is)))
local macro_rules
  | `(tactic| walk_at "x_no") => `(tactic| (refine' L3.isNo_mk ?h1 ?h2 ?h3 ?h4; (case h1 => k_is); (case h2 => k_is); (case h3 => k_is); (case h4 => k_is)))
set_option maxRecDepth 100000 in
set_option maxHeartbeats 0 in
theorem PySem.Challenge.cw_orderkeep_k44_rings_looked_at_holds : PySem.Challenge.rw_orderkeep_k44_rings_looked_at.Holds := by
  w_on; o_law; k_head; (case hw => w_witness2)
  k_fill
  refine Qk44.walk (l := PySem.Challenge.rw_orderkeep_k44_rings_looked_at) rfl rfl (fun w h Y => PySem.W.kIn_of Y) ?F
  case F =>
    intro w mg fa h KX G hmg
    refine' Qk44.all_mk KX G hmg ?a0 ?l0 ?c0 ?k0 ?a1 ?l1 ?c1 ?k1 ?a2 ?l2 ?c2 ?k2 ?a3 ?l3 ?c3 ?k3 ?a4 ?l4 ?c4 ?k4 ?a5 ?l5 ?c5 ?k5 ?a6 ?l6 ?c6 ?k6 ?a7 ?l7 ?c7 ?k7 ?a8 ?l8 ?c8 ?k8 ?a9 ?l9 ?c9 ?k9 ?a10 ?l10 ?c10 ?k10 ?a11 ?l11 ?c11 ?k11 ?a12 ?l12 ?c12 ?k12 ?a13 ?l13 ?c13 ?k13 ?a14 ?l14 ?c14 ?k14 ?a15 ?l15 ?c15 ?k15 ?a16 ?l16 ?c16 ?k16 ?a17 ?l17 ?c17 ?k17 ?a18 ?l18 ?c18 ?k18 ?a19 ?l19 ?c19 ?k19 ?a20 ?l20 ?c20 ?k20 ?a21 ?l21 ?c21 ?k21 ?a22 ?l22 ?c22 ?k22 ?a23 ?l23 ?c23 ?k23 ?a24 ?l24 ?c24 ?k24 ?a25 ?l25 ?c25 ?k25 ?a26 ?l26 ?c26 ?k26 ?a27 ?l27 ?c27 ?k27 ?a28 ?l28 ?c28 ?k28 ?a29 ?l29 ?c29 ?k29 ?a30 ?l30 ?c30 ?k30 ?a31 ?l31 ?c31 ?k31 ?a32 ?l32 ?c32 ?k32 ?a33 ?l33 ?c33 ?k33 ?a34 ?l34 ?c34 ?k34 ?a35 ?l35 ?c35 ?k35 ?a36 ?l36 ?c36 ?k36 ?a37 ?l37 ?c37 ?k37 ?z_abs ?z_all ?z_dict ?z_int ?z_isinstance ?z_len ?z_list ?z_min ?z_range ?z_repr ?z_set ?z_str ?z_tuple ?z_zip ?z_TOP
    (case a0 => k_is)
    (case l0 => k_is)
    (case c0 => k_is)
    (case k0 => k_is)
    (case a1 => k_is)
    (case l1 => k_is)
    (case c1 => k_is)
    (case k1 => k_is)
    (case a2 => k_is)
    (case l2 => k_is)
    (case c2 => k_is)
    (case k2 => k_is)
    (case a3 => k_is)
    (case l3 => k_is)
    (case c3 => k_is)
    (case k3 => k_is)
    (case a4 => k_is)
    (case l4 => k_is)
    (case c4 => k_is)
    (case k4 => k_is)
    (case a5 => k_is)
    (case l5 => k_is)
    (case c5 => k_is)
    (case k5 => k_is)
    (case a6 => k_is)
    (case l6 => k_is)
    (case c6 => k_is)
    (case k6 => k_is)
    (case a7 => k_is)
    (case l7 => k_is)
    (case c7 => k_is)
    (case k7 => k_is)
    (case a8 => k_is)
    (case l8 => k_is)
    (case c8 => k_is)
    (case k8 => k_is)
    (case a9 => k_is)
    (case l9 => k_is)
    (case c9 => k_is)
    (case k9 => k_is)
    (case a10 => k_is)
    (case l10 => k_is)
    (case c10 => k_is)
    (case k10 => k_is)
    (case a11 => k_is)
    (case l11 => k_is)
    (case c11 => k_is)
    (case k11 => k_is)
    (case a12 => k_is)
    (case l12 => k_is)
    (case c12 => k_is)
    (case k12 => k_is)
    (case a13 => k_is)
    (case l13 => k_is)
    (case c13 => k_is)
    (case k13 => k_is)
    (case a14 => k_is)
    (case l14 => k_is)
    (case c14 => k_is)
    (case k14 => k_is)
    (case a15 => k_is)
    (case l15 => k_is)
    (case c15 => k_is)
    (case k15 => k_is)
    (case a16 => k_is)
    (case l16 => k_is)
    (case c16 => k_is)
    (case k16 => k_is)
    (case a17 => k_is)
    (case l17 => k_is)
    (case c17 => k_is)
    (case k17 => k_is)
    (case a18 => k_is)
    (case l18 => k_is)
    (case c18 => k_is)
    (case k18 => k_is)
    (case a19 => k_is)
    (case l19 => k_is)
    (case c19 => k_is)
    (case k19 => k_is)
    (case a20 => k_is)
    (case l20 => k_is)
    (case c20 => k_is)
    (case k20 => k_is)
    (case a21 => k_is)
    (case l21 => k_is)
    (case c21 => k_is)
    (case k21 => k_is)
    (case a22 => k_is)
    (case l22 => k_is)
    (case c22 => k_is)
    (case k22 => k_is)
    (case a23 => k_is)
    (case l23 => k_is)
    (case c23 => k_is)
    (case k23 => k_is)
    (case a24 => k_is)
    (case l24 => k_is)
    (case c24 => k_is)
    (case k24 => k_is)
    (case a25 => k_is)
    (case l25 => k_is)
    (case c25 => k_is)
    (case k25 => k_is)
    (case a26 => k_is)
    (case l26 => k_is)
    (case c26 => k_is)
    (case k26 => k_is)
    (case a27 => k_is)
    (case l27 => k_is)
    (case c27 => k_is)
    (case k27 => k_is)
    (case a28 => k_is)
    (case l28 => k_is)
    (case c28 => k_is)
    (case k28 => k_is)
    (case a29 => k_is)
    (case l29 => k_is)
    (case c29 => k_is)
    (case k29 => k_is)
    (case a30 => k_is)
    (case l30 => k_is)
    (case c30 => k_is)
    (case k30 => k_is)
    (case a31 => k_is)
    (case l31 => k_is)
    (case c31 => k_is)
    (case k31 => k_is)
    (case a32 => k_is)
    (case l32 => k_is)
    (case c32 => k_is)
    (case k32 => k_is)
    (case a33 => k_is)
    (case l33 => k_is)
    (case c33 => k_is)
    (case k33 => k_is)
    (case a34 => k_is)
    (case l34 => k_is)
    (case c34 => k_is)
    (case k34 => k_is)
    (case a35 => k_is)
    (case l35 => k_is)
    (case c35 => k_is)
    (case k35 => k_is)
    (case a36 => k_is)
    (case l36 => k_is)
    (case c36 => k_is)
    (case k36 => k_is)
    (case a37 => k_is)
    (case l37 => k_is)
    (case c37 => k_is)
    (case k37 => k_is)
    (case z_abs => k_is)
    (case z_all => k_is)
    (case z_dict => k_is)
    (case z_int => k_is)
    (case z_isinstance => k_is)
    (case z_len => k_is)
    (case z_list => k_is)
    (case z_min => k_is)
    (case z_range => k_is)
    (case z_repr => k_is)
    (case z_set => k_is)
    (case z_str => k_is)
    (case z_tuple => k_is)
    (case z_zip => k_is)
    (case z_TOP => k_is)
#print axioms PySem.Challenge.cw_orderkeep_k44_rings_looked_at_holds
