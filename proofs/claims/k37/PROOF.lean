import PyProof.Rows.All
import Wide.All
import OpenK.AllK
import Wide.FinOn
import HandS.ForMost
import HandS.IsInst
import HandS.Flow
import HandS.Conv
import HandS.More
import PyProof.ReprReads
import HandS.TupAny
import KE.KDictKeyed
import PyProof.StrLawsRepr
import HandS.Steps
import HandS.SortInts
import HandS.Deep
import HandS.TupLe
import PyProof.ZipIter
import KE.KMinKey
import HandS.SortKw
import HandS.SetFor
import PyProof.Rows.StrInSeq3
import HandS.Style
import KE.GoesEnum
import KE.KDictZip
import HandS.Strs
import KE.KDictCopyH
import PyProof.TupleOfGen
import PyProof.TupleOfSeq
import HandS.Text
import HandS.Iter
import HandS.Exc
import HandS.ExcIs
import HandS.ExcField
import HandS.ExcOwn
import HandS.ExcValue
import HandS.RaiseMore
import KE.KIsAll
import KE.KTryMore
import HandS.ExcInit
import HandS.DictComp
import HandS.TupSets
import KE.KSortKey
import HandS.TupLen
import HandS.TryOnly
import KE.SortData
import KE.KEqNest
import PyProof.Rows.SortShellAny
import HandS.ReplaceLit
import HandS.HotCalls
import PyProof.ListNew
import PyProof.EnumMake
import PyProof.Rows.StrCase
import HandS.Wide
import HandS.Zip
import HandS.Head2
import HandS.HeadHook2
import HandS.HeadNt
import PySem.Challenge.RW_orderkeep_k37_good_houses
set_option Elab.async false
set_option linter.all false
set_option maxRecDepth 100000
/-! L3: values without addresses over the hand layer -/
namespace L3
open PySem L2
/-! ### a dict whose keys are texts and pairs of texts -/
abbrev MK := Str ⊕ (Str × Str)
section
variable (P : Program) (w : World)
def mHash : MK → Int
  | .inl s => (mixKind P w).hash (.inr s)
  | .inr p => tupleKeyHash (mixKind P w) [.inr p.1, .inr p.2]
def mEnt (x : MK × Value × Value) : DictEntry := ⟨mHash P w x.1, x.2.1, x.2.2⟩
/-- the form of a key -/
def mForm : MK → Value → Prop
  | .inl s, v => ∃ t, v = .str s t
  | .inr _, v => ∃ b, v = .ref b
def MixAt (h : Heap) (a : Addr) (xs : List (MK × Value × Value)) : Prop :=
  (a == sysModules) = false ∧ ∃ o es ep, h.get? a = some o ∧ o.ExactDict ∧ o.data = .dict es ep ∧ es.toList = xs.map (mEnt P w) ∧ (xs.map (·.1)).Nodup ∧ ∀ x ∈ xs, mForm x.1 x.2.1
end
/-- such a dict as a thing of the heap -/
def mixH (P : Program) (w : World) (a : Addr) (xs : List (MK × Value × Value)) : HO := .ext fun h => MixAt P w h a xs
/-- its entries as they are told -/
def MR (B : Hp) (x : MK × Value × Value) (q : MK × Bool) : Prop := x.1 = q.1 ∧ x.2.2 = .bool q.2 ∧ ∀ p, x.1 = .inr p → ∃ b, x.2.1 = .ref b ∧ B b = some (.tup [.str p.1, .str p.2])
/-! ### frozen data -/
/-- no key of a dict: not two things, or the second of them an object -/
def NoKey (xs : List V) : Prop := xs.length ≠ 2 ∨ ∃ v b, xs = [v, .ref b]
def TuK (K : PySem.W.Frag) (B : Hp) (a : Addr) (xs : List V) : Prop := B a = some (.tup xs) ∨ (NoKey xs ∧ SqT K B a xs)
theorem NoKey.no {k : List Key} (h : NoKey (k.map kV)) (hk : k.length = 2) : False := by
  rcases h with h | ⟨v, b, h⟩
  · exact h (by rw [List.length_map]; exact hk)
  · match k, h with
    | [k1, k2], h =>
      have h2 : kV k2 = .ref b := by
        have := congrArg (fun l : List V => l[1]?) h
        simpa using this
      cases k2 <;> cases h2
    | [], h => exact absurd hk (by decide)
    | [_], h => exact absurd hk (by simp)
    | _ :: _ :: _ :: _, h => exact absurd hk (by simp)
theorem TuK.sq {K : PySem.W.Frag} {B : Hp} {a : Addr} {xs : List V} (h : TuK K B a xs) : SqT K B a xs := by
  rcases h with h | h
  · exact SqT.of h
  · exact h.2
/-- a tuple of which it is known that it has no dict of its own -/
def PlT (B : Hp) (a : Addr) (xs : List V) : Prop := ∃ o : Obj, B a = some (.frz o (.tup xs)) ∧ o.dict = none
/-- such a tuple as data: marked by the form of a dict, which no other data has -/
def plD (ds : List PyData) : PyData := .dict [(.none, .tuple ds)]
/-- a flat value as data -/
inductive FlR : V → PyData → Prop
  | non : FlR .non .none
  | bl (b : Bool) : FlR (.bl b) (.bool b)
  | int (i : Int) : FlR (.int i) (.int i)
  | str (x : Str) : FlR (.str x) (.str x)
/-- an exception of the class at C, its dict at d -/
def excH (a C : Addr) (d : Option Addr) : HO := .ext fun h => ∃ (oe : Obj) (vs : Array Value), h.get? a = some oe ∧ (oe.cls = .ref C ∧ oe.dict = d) ∧ oe.data = .fields vs
/-- its fields -/
def XdOk (B : Hp) (fs : List (Str × V)) : Option Addr → Prop
  | none => fs = []
  | some dx => B dx = some (.xd fs)
mutual
inductive FR (K : PySem.W.Frag) (B : Hp) : V → PyData → Prop
  | non : FR K B .non .none
  | bl (b : Bool) : FR K B (.bl b) (.bool b)
  | int (i : Int) : FR K B (.int i) (.int i)
  | str (x : Str) : FR K B (.str x) (.str x)
  | lst {a : Addr} {xs : List V} {ds : List PyData} : B a = some (.lst xs) → FRs K B xs ds → FR K B (.ref a) (.list ds)
  | tup {a : Addr} {xs : List V} {ds : List PyData} : TuK K B a xs → FRs K B xs ds → FR K B (.ref a) (.tuple ds)
  | plt {a : Addr} {xs : List V} {ds : List PyData} : PlT B a xs → FRs K B xs ds → FR K B (.ref a) (plD ds)
  | dk0 {a : Addr} : B a = some (.dK []) → FR K B (.ref a) (.dict [])
  | dk1 {a : Addr} {x : Str} {v : V} {d : PyData} : B a = some (.dK [(.inr x, v)]) → FlR v d → FR K B (.ref a) (.dict [(.str x, d)])
  | dki {a : Addr} {i : Int} {v : V} {d : PyData} : B a = some (.dK [(.inl i, v)]) → FlR v d → FR K B (.ref a) (.dict [(.int i, d)])
  | dkn {a : Addr} {kvs : List (Key × V)} : B a = some (.dK kvs) → FR K B (.ref a) (.dict [(.bool true, .none)])
  | exc {a C : Addr} {x : Str} {dx : Option Addr} {ns : List Str} {vs : List V} {ds : List PyData} : PySem.W.nsIn K mainGlobals x = some (some (.ref C)) → B a = some (excH a C dx) → XdOk B (ns.zip vs) dx → ns.length = vs.length → FRs K B vs ds → FR K B (.ref a) (.dict [(.tuple (.str x :: ns.map .str), .tuple ds)])
inductive FRs (K : PySem.W.Frag) (B : Hp) : List V → List PyData → Prop
  | nil : FRs K B [] []
  | cons {v : V} {vs : List V} {d : PyData} {ds : List PyData} : FR K B v d → FRs K B vs ds → FRs K B (v :: vs) (d :: ds)
end
/-- a dict of which nothing more is told -/
def anyD : PyData := .dict [(.bool true, .none)]
/-- an exception as data -/
def exD (x : Str) (ns : List Str) (ds : List PyData) : PyData := .dict [(.tuple (.str x :: ns.map .str), .tuple ds)]
/-- a value as a frame sees it: data that stays, an own object by its number, a list of ints that is only read -/
inductive D where
  | f (d : PyData) | own (n : Nat) | sq (s : List Int)
/-- an own object: a list of data, a list with references, a tuple with references, dicts, an instance, nothing any more -/
inductive O where
  | lst (ds : List PyData) | rfs (ds : List D) | tpr (ds : List D) | dct (kvs : List (Key × PyData)) | dctT (kvs : List (List Key × PyData))
  | dctL (od : Obj) (ks : List (Key × V)) (kvs : List (Key × PyData)) | ins (C : Addr) (fs : List (Str × D)) | dctD (kvs : List (Key × D)) | dctM (P : Program) (w : World) (kvs : List (MK × Bool)) | gone
section
variable {K : PySem.W.Frag} {B B' H H' : Hp}
theorem sqT_same {a : Addr} {xs : List V} (e : Same B B') (h : SqT K B a xs) : SqT K B' a xs := by
  rcases h with (h | ⟨o, h⟩) | h
  · exact .inl (.inl (e _ _ h))
  · exact .inl (.inr ⟨o, e _ _ h⟩)
  · exact .inr h
theorem TuK.same {a : Addr} {xs : List V} (e : Same B B') (h : TuK K B a xs) : TuK K B' a xs := by
  rcases h with h | h
  · exact .inl (e _ _ h)
  · exact .inr ⟨h.1, sqT_same e h.2⟩
theorem PlT.same {a : Addr} {xs : List V} (e : Same B B') (h : PlT B a xs) : PlT B' a xs := by
  obtain ⟨o, h1, h2⟩ := h
  exact ⟨o, e _ _ h1, h2⟩
theorem XdOk.same {fs : List (Str × V)} {d : Option Addr} (e : Same B B') (h : XdOk B fs d) : XdOk B' fs d := by
  cases d with
  | none => exact h
  | some dx => exact e _ _ h
theorem PlT.sq {a : Addr} {xs : List V} (h : PlT B a xs) : SqT K B a xs := by
  obtain ⟨o, h1, _⟩ := h
  exact .inl (.inr ⟨o, h1⟩)
mutual
theorem FR.same (e : Same B B') : ∀ (d : PyData) (v : V), FR K B v d → FR K B' v d
  | .none, _, h => by cases h; exact .non
  | .bool _, _, h => by cases h; exact .bl _
  | .int _, _, h => by cases h; exact .int _
  | .str _, _, h => by cases h; exact .str _
  | .list ds, _, h => by
    cases h with
    | lst h1 h2 => exact .lst (e _ _ h1) (FRs.same e ds _ h2)
  | .tuple ds, _, h => by
    cases h with
    | tup h1 h2 => exact .tup (h1.same e) (FRs.same e ds _ h2)
  | .dict [(.none, .tuple ds)], _, h => by
    cases h with
    | plt h1 h2 => exact .plt (h1.same e) (FRs.same e ds _ h2)
  | .dict [], _, h => by
    cases h with
    | dk0 h1 => exact .dk0 (e _ _ h1)
  | .dict (_ :: _ :: _), _, h => by cases h
  | .dict [(.none, .none)], _, h => by cases h
  | .dict [(.none, .bool _)], _, h => by cases h
  | .dict [(.none, .int _)], _, h => by cases h
  | .dict [(.none, .str _)], _, h => by cases h
  | .dict [(.none, .list _)], _, h => by cases h
  | .dict [(.none, .dict _)], _, h => by cases h
  | .dict [(.bool _, _)], _, h => by
    cases h with
    | dkn h1 => exact .dkn (e _ _ h1)
  | .dict [(.int _, _)], _, h => by
    cases h with
    | dki h1 h2 => exact .dki (e _ _ h1) h2
  | .dict [(.str _, _)], _, h => by
    cases h with
    | dk1 h1 h2 => exact .dk1 (e _ _ h1) h2
  | .dict [(.list _, _)], _, h => by cases h
  | .dict [(.tuple _, .tuple ds)], _, h => by
    cases h with
    | exc h0 h1 h2 h3 h4 => exact .exc h0 (e _ _ h1) (h2.same e) h3 (FRs.same e ds _ h4)
  | .dict [(.tuple _, .none)], _, h => by cases h
  | .dict [(.tuple _, .bool _)], _, h => by cases h
  | .dict [(.tuple _, .int _)], _, h => by cases h
  | .dict [(.tuple _, .str _)], _, h => by cases h
  | .dict [(.tuple _, .list _)], _, h => by cases h
  | .dict [(.tuple _, .dict _)], _, h => by cases h
  | .dict [(.dict _, _)], _, h => by cases h
theorem FRs.same (e : Same B B') : ∀ (ds : List PyData) (vs : List V), FRs K B vs ds → FRs K B' vs ds
  | [], _, h => by cases h; exact .nil
  | d :: ds, _, h => by
    cases h with
    | cons h1 h2 => exact .cons (FR.same e d _ h1) (FRs.same e ds _ h2)
end
mutual
theorem FR.dp : ∀ (d : PyData) (v : V), d.hasDict = false → FR K B v d → Dp K B v d
  | .none, _, _, h => by cases h; exact .non
  | .bool _, _, _, h => by cases h; exact .bl _
  | .int _, _, _, h => by cases h; exact .int _
  | .str _, _, _, h => by cases h; exact .str _
  | .list ds, _, n, h => by
    cases h with
    | lst h1 h2 => exact .lst (SqL.of h1) (FRs.dp ds _ (by simpa [PyData.hasDict] using n) h2)
  | .tuple ds, _, n, h => by
    cases h with
    | tup h1 h2 => exact .tup h1.sq (FRs.dp ds _ (by simpa [PyData.hasDict] using n) h2)
  | .dict _, _, n, h => by simp [PyData.hasDict] at n
theorem FRs.dp : ∀ (ds : List PyData) (vs : List V), PyData.hasDictAll ds = false → FRs K B vs ds → DpAll K B vs ds
  | [], _, _, h => by cases h; exact .nil
  | d :: ds, _, n, h => by
    have n' : d.hasDict = false ∧ PyData.hasDictAll ds = false := by simpa [PyData.hasDictAll] using n
    cases h with
    | cons h1 h2 => exact .cons (FR.dp d _ n'.1 h1) (FRs.dp ds _ n'.2 h2)
end
theorem FRs.length : ∀ {vs : List V} {ds : List PyData}, FRs K B vs ds → vs.length = ds.length
  | _, [], h => by cases h; rfl
  | _, _ :: _, h => by
    cases h with
    | cons h1 h2 => rw [List.length_cons, List.length_cons, FRs.length h2]
theorem FRs.append : ∀ {vs ws : List V} {ds es : List PyData}, FRs K B vs ds → FRs K B ws es → FRs K B (vs ++ ws) (ds ++ es)
  | _, _, [], _, h, h' => by cases h; exact h'
  | _, _, _ :: _, _, h, h' => by
    cases h with
    | cons h1 h2 => exact .cons h1 (FRs.append h2 h')
theorem FRs.one {v : V} {d : PyData} (h : FR K B v d) : FRs K B [v] [d] := .cons h .nil
theorem FRs.get : ∀ {vs : List V} {ds : List PyData} {i : Nat} {d : PyData}, FRs K B vs ds → ds[i]? = some d → ∃ v, vs[i]? = some v ∧ FR K B v d
  | _, [], _, _, h, e => by simp at e
  | _, _ :: _, 0, _, h, e => by
    cases h with
    | cons h1 h2 => simp at e; subst e; exact ⟨_, rfl, h1⟩
  | _, _ :: _, i + 1, _, h, e => by
    cases h with
    | cons h1 h2 =>
      obtain ⟨v, a, b⟩ := FRs.get (i := i) h2 (by simpa using e)
      exact ⟨v, by simpa using a, b⟩
theorem FRs.take (n : Nat) : ∀ {vs : List V} {ds : List PyData}, FRs K B vs ds → FRs K B (vs.take n) (ds.take n) := by
  induction n with
  | zero => intro vs ds _; exact .nil
  | succ n ih =>
    intro vs ds h
    cases h with
    | nil => exact .nil
    | cons h1 h2 => exact .cons h1 (ih h2)
theorem FRs.drop (n : Nat) : ∀ {vs : List V} {ds : List PyData}, FRs K B vs ds → FRs K B (vs.drop n) (ds.drop n) := by
  induction n with
  | zero => intro vs ds h; exact h
  | succ n ih =>
    intro vs ds h
    cases h with
    | nil => exact .nil
    | cons h1 h2 => exact ih h2
theorem FRs.set {v : V} {d : PyData} (h : FR K B v d) (n : Nat) : ∀ {vs : List V} {ds : List PyData}, FRs K B vs ds → FRs K B (vs.set n v) (ds.set n d) := by
  induction n with
  | zero =>
    intro vs ds hs
    cases hs with
    | nil => exact .nil
    | cons h1 h2 => exact .cons h h2
  | succ n ih =>
    intro vs ds hs
    cases hs with
    | nil => exact .nil
    | cons h1 h2 => exact .cons h1 (ih h2)
end
/-! ### the frame's view -/
def VR (K : PySem.W.Frag) (m : List Addr) (B : Hp) (v : V) : D → Prop
  | .f d => FR K B v d
  | .own n => ∃ a, v = .ref a ∧ m[n]? = some a
  | .sq s => ∃ a, v = .ref a ∧ SqL K B a (s.map V.int)
def OR (K : PySem.W.Frag) (m : List Addr) (B H : Hp) (a : Addr) : O → Prop
  | .lst ds => ∃ xs, H a = some (.lst xs) ∧ FRs K B xs ds
  | .rfs ds => ∃ xs, H a = some (.lst xs) ∧ Paired (VR K m B) xs ds
  | .tpr ds => ∃ xs, H a = some (.tup xs) ∧ Paired (VR K m B) xs ds
  | .dct kvs => ∃ ks, H a = some (.dK ks) ∧ Paired (fun (p : Key × V) (q : Key × PyData) => p.1 = q.1 ∧ FR K B p.2 q.2) ks kvs
  | .dctT kvs => ∃ ks, H a = some (.dT ks) ∧ Paired (fun (p : List Key × V) (q : List Key × PyData) => p.1 = q.1 ∧ FR K B p.2 q.2) ks kvs
  | .dctL od ks kvs => H a = some (.frz od (.dK ks)) ∧ Paired (fun (p : Key × V) (q : Key × PyData) => p.1 = q.1 ∧ FR K B p.2 q.2) ks kvs
  | .dctD kvs => ∃ ks, H a = some (.dK ks) ∧ Paired (fun (p : Key × V) (q : Key × D) => p.1 = q.1 ∧ VR K m B p.2 q.2) ks kvs
  | .ins C fs => ∃ dx gs, H a = some (.ins C dx gs) ∧ Paired (fun (p : Str × V) (q : Str × D) => p.1 = q.1 ∧ VR K m B p.2 q.2) gs fs
  | .dctM P w kvs => ∃ xs, H a = some (mixH P w a xs) ∧ Paired (MR B) xs kvs
  | .gone => True
theorem OR.ntup {K : PySem.W.Frag} {m : List Addr} {B H : Hp} {a : Addr} {o : O} (r : OR K m B H a o) (q : o ≠ .gone ∧ ∀ ds, o ≠ .tpr ds) (ys : List V) : H a ≠ some (.tup ys) := by
  cases o with
  | lst ds => obtain ⟨xs, e, _⟩ := r; rw [e]; simp
  | rfs ds => obtain ⟨xs, e, _⟩ := r; rw [e]; simp
  | tpr ds => exact absurd rfl (q.2 ds)
  | dct ds => obtain ⟨xs, e, _⟩ := r; rw [e]; simp
  | dctT ds => obtain ⟨xs, e, _⟩ := r; rw [e]; simp
  | dctL od ks ds => obtain ⟨e, _⟩ := r; rw [e]; simp
  | ins C fs => obtain ⟨dx, gs, e, _⟩ := r; rw [e]; simp
  | dctD kvs => obtain ⟨ks, e, _⟩ := r; rw [e]; simp
  | dctM P w kvs => obtain ⟨xs, e, _⟩ := r; rw [e]; simp [mixH]
  | gone => exact absurd rfl q.1
structure SR (K : PySem.W.Frag) (m : List Addr) (B H : Hp) (l : List O) : Prop where
  sub : Same B H
  len : m.length = l.length
  nd : m.Nodup
  live : ∀ a ∈ m, H a ≠ none
  obj : ∀ (n : Nat) (a : Addr) (o : O), m[n]? = some a → l[n]? = some o → OR K m B H a o ∧ ((o ≠ .gone ∧ ∀ ds, o ≠ .tpr ds) → B a = none)
structure Step (m : List Addr) (B H : Hp) (m' : List Addr) (B' H' : Hp) : Prop where
  sub : Same B B'
  pre : ∃ t, m' = m ++ t
  keep : ∀ a o, H a = some o → a ∉ m → H' a = some o
  live : ∀ a, H a ≠ none → H' a ≠ none
  sep : ∀ a, (H a ≠ none ∧ ∀ xs, H a ≠ some (.tup xs)) → B a = none → a ∉ m → B' a = none
  new : ∀ a ∈ m', a ∈ m ∨ H a = none
def ER (K : PySem.W.Frag) (m : List Addr) (B : Hp) (σ : St) (ρ : List (Option D)) : Prop :=
  σ.length = ρ.length ∧ ∀ (i : Nat) (d : D), ρ[i]? = some (some d) → ∃ v, σ[i]? = some (some v) ∧ VR K m B v d
section
variable {K : PySem.W.Frag} {m m' m2 : List Addr} {B B' B2 H H' H2 : Hp} {l : List O} {σ : St} {ρ : List (Option D)}
theorem Step.refl (B H : Hp) (m : List Addr) : Step m B H m B H :=
  ⟨Same.refl _, ⟨[], by simp⟩, fun _ _ h _ => h, fun _ h => h, fun _ _ h _ => h, fun _ h => .inl h⟩
theorem Step.trans (s : Step m B H m' B' H') (t : Step m' B' H' m2 B2 H2) : Step m B H m2 B2 H2 where
  sub := s.sub.trans t.sub
  pre := by
    obtain ⟨a, rfl⟩ := s.pre
    obtain ⟨b, rfl⟩ := t.pre
    exact ⟨a ++ b, by simp⟩
  keep := fun a o h hn => t.keep a o (s.keep a o h hn) fun hm => by
    rcases s.new a hm with z | z
    · exact hn z
    · rw [z] at h; cases h
  live := fun a h => t.live a (s.live a h)
  sep := fun a h hb hn => t.sep a ⟨s.live a h.1, fun xs e => by
      cases e0 : H a with
      | none => exact h.1 e0
      | some o =>
        have := s.keep a o e0 hn
        rw [e] at this
        cases this
        exact h.2 xs e0⟩ (s.sep a h hb hn) fun hm => by
    rcases s.new a hm with z | z
    · exact hn z
    · exact h.1 z
  new := fun a h => by
    rcases t.new a h with z | z
    · exact s.new a z
    · refine .inr ?_
      cases e : H a with
      | none => rfl
      | some o => exact absurd z (s.live a (by rw [e]; simp))
theorem get_pre {n : Nat} {a : Addr} (h : ∃ t, m' = m ++ t) (e : m[n]? = some a) : m'[n]? = some a := by
  obtain ⟨t, rfl⟩ := h
  rw [List.getElem?_append_left (List.getElem?_eq_some_iff.mp e).1]
  exact e
theorem VR.up {v : V} {d : D} (hs : Same B B') (hp : ∃ t, m' = m ++ t) (h : VR K m B v d) : VR K m' B' v d := by
  cases d with
  | f d => exact FR.same hs d v h
  | own n =>
    obtain ⟨a, e, h⟩ := h
    exact ⟨a, e, get_pre hp h⟩
  | sq q =>
    obtain ⟨a, e, h⟩ := h
    exact ⟨a, e, hs.seq h⟩
theorem VR.step {v : V} {d : D} (s : Step m B H m' B' H') (h : VR K m B v d) : VR K m' B' v d := h.up s.sub s.pre
theorem ER.step (s : Step m B H m' B' H') (h : ER K m B σ ρ) : ER K m' B' σ ρ :=
  ⟨h.1, fun i d e => let ⟨v, a, b⟩ := h.2 i d e; ⟨v, a, b.step s⟩⟩
theorem ER.set {v : V} {d : D} (i : Nat) (h : ER K m B σ ρ) (hv : VR K m B v d) : ER K m B (σ.set i (some v)) (ρ.set i (some d)) := by
  refine ⟨by simp [h.1], fun j e hj => ?_⟩
  by_cases hij : i = j
  · subst hij
    have hl : i < ρ.length := by
      have := (List.getElem?_eq_some_iff.mp hj).1
      simpa using this
    rw [List.getElem?_set_self hl] at hj
    cases hj
    exact ⟨v, by rw [List.getElem?_set_self (by rw [h.1]; exact hl)], hv⟩
  · rw [List.getElem?_set_ne hij] at hj
    obtain ⟨w, a, b⟩ := h.2 j e hj
    exact ⟨w, by rw [List.getElem?_set_ne hij]; exact a, b⟩
theorem Paired.up {α β : Type} {R R' : α → β → Prop} : ∀ {xs : List α} {ys : List β}, Paired R xs ys → (∀ x y, R x y → R' x y) → Paired R' xs ys
  | _, _, .nil, _ => .nil
  | _, _, .cons h t, f => .cons (f _ _ h) (Paired.up t f)
/-- an object keeps its content where it stands as it was -/
theorem OR.up {a : Addr} {o : O} (hs : Same B B') (hp : ∃ t, m' = m ++ t) (hH : ∀ u, H a = some u → H' a = some u) (h : OR K m B H a o) : OR K m' B' H' a o := by
  cases o with
  | lst ds => obtain ⟨xs, e, r⟩ := h; exact ⟨xs, hH _ e, FRs.same hs ds xs r⟩
  | rfs ds => obtain ⟨xs, e, r⟩ := h; exact ⟨xs, hH _ e, Paired.up r fun _ _ z => z.up hs hp⟩
  | tpr ds => obtain ⟨xs, e, r⟩ := h; exact ⟨xs, hH _ e, Paired.up r fun _ _ z => z.up hs hp⟩
  | dct kvs => obtain ⟨xs, e, r⟩ := h; exact ⟨xs, hH _ e, Paired.up r fun _ _ z => ⟨z.1, FR.same hs _ _ z.2⟩⟩
  | dctT kvs => obtain ⟨xs, e, r⟩ := h; exact ⟨xs, hH _ e, Paired.up r fun _ _ z => ⟨z.1, FR.same hs _ _ z.2⟩⟩
  | dctL od ks kvs => obtain ⟨e, r⟩ := h; exact ⟨hH _ e, Paired.up r fun _ _ z => ⟨z.1, FR.same hs _ _ z.2⟩⟩
  | ins C fs => obtain ⟨dx, gs, e, r⟩ := h; exact ⟨dx, gs, hH _ e, Paired.up r fun _ _ z => ⟨z.1, z.2.up hs hp⟩⟩
  | dctD kvs => obtain ⟨ks, e, r⟩ := h; exact ⟨ks, hH _ e, Paired.up r fun _ _ z => ⟨z.1, z.2.up hs hp⟩⟩
  | dctM P w kvs => obtain ⟨xs, e, r⟩ := h; exact ⟨xs, hH _ e, Paired.up r fun _ _ z => ⟨z.1, z.2.1, fun p q => let ⟨b, q1, q2⟩ := z.2.2 p q; ⟨b, q1, hs _ _ q2⟩⟩⟩
  | gone => trivial
theorem upd_live {a b : Addr} {o : HO} (h : H b ≠ none) : upd H a o b ≠ none := by
  by_cases e : b = a
  · subst e; rw [upd_same]; simp
  · rw [upd_ne e]; exact h
theorem same_new {p : Addr} {o : HO} (h : H p = none) : Same H (upd H p o) := fun b u e => by
  rw [upd_ne (ne_of_none e h)]; exact e
theorem SR.notin (S : SR K m B H l) {p : Addr} (h : H p = none) : p ∉ m := fun z => S.live p z h
theorem SR.bnone (S : SR K m B H l) {p : Addr} (h : H p = none) : B p = none := S.sub.free h
theorem SR.get (S : SR K m B H l) {n : Nat} {o : O} (h : l[n]? = some o) : ∃ a, m[n]? = some a ∧ OR K m B H a o ∧ ((o ≠ .gone ∧ ∀ ds, o ≠ .tpr ds) → B a = none) := by
  have hl : n < m.length := by rw [S.len]; exact (List.getElem?_eq_some_iff.mp h).1
  exact ⟨m[n], by simp [hl], S.obj n _ o (by simp [hl]) h⟩
/-- what stands at another own number is another object -/
theorem SR.ne (S : SR K m B H l) {i j : Nat} {a b : Addr} (hi : m[i]? = some a) (hj : m[j]? = some b) (h : i ≠ j) : a ≠ b := fun e => by
  subst e
  obtain ⟨h1, e1⟩ := List.getElem?_eq_some_iff.mp hi
  obtain ⟨h2, e2⟩ := List.getElem?_eq_some_iff.mp hj
  exact h ((List.getElem_inj S.nd).mp (e1.trans e2.symm))
/-- a new own object -/
theorem SR.alloc (S : SR K m B H l) {p : Addr} {u : HO} {o : O} (hp : H p = none) (ho : OR K (m ++ [p]) B (upd H p u) p o) :
    SR K (m ++ [p]) B (upd H p u) (l ++ [o]) ∧ Step m B H (m ++ [p]) B (upd H p u) ∧ VR K (m ++ [p]) B (.ref p) (.own l.length) := by
  have hn := S.notin hp
  refine ⟨⟨S.sub.trans (same_new hp), by simp [S.len], ?_, fun a ha => ?_, fun n a x h1 h2 => ?_⟩, ⟨Same.refl _, ⟨_, rfl⟩, fun a o' h _ => same_new hp a o' h, fun a h => upd_live h, fun a _ h _ => h, fun a ha => ?_⟩, ⟨p, rfl, ?_⟩⟩
  · rw [List.nodup_append]
    exact ⟨S.nd, by simp, fun a ha b hb => by
      have : b = p := by simpa using hb
      subst this
      intro e; subst e; exact hn ha⟩
  · rcases List.mem_append.mp ha with z | z
    · exact upd_live (S.live a z)
    · have : a = p := by simpa using z
      subst this; rw [upd_same]; simp
  · by_cases hlt : n < m.length
    · rw [List.getElem?_append_left hlt] at h1
      rw [List.getElem?_append_left (by rw [← S.len]; exact hlt)] at h2
      obtain ⟨r, b⟩ := S.obj n a x h1 h2
      refine ⟨r.up (Same.refl _) ⟨_, rfl⟩ fun u' e => same_new hp a u' e, b⟩
    · have hm : n = m.length := by
        have := (List.getElem?_eq_some_iff.mp h1).1
        rw [List.length_append] at this
        simp at this
        omega
      subst hm
      have e1 : a = p := by
        rw [List.getElem?_append_right (Nat.le_refl _)] at h1
        simpa using h1.symm
      have e2 : x = o := by
        rw [S.len, List.getElem?_append_right (Nat.le_refl _)] at h2
        simpa using h2.symm
      subst e1 e2
      exact ⟨ho, fun _ => S.bnone hp⟩
  · rcases List.mem_append.mp ha with z | z
    · exact .inl z
    · have : a = p := by simpa using z
      subst this; exact .inr hp
  · rw [← S.len]
    simp
/-- a new frozen object -/
theorem SR.allocF (S : SR K m B H l) {p : Addr} {u : HO} (hp : H p = none) : SR K m (upd B p u) (upd H p u) l ∧ Step m B H m (upd B p u) (upd H p u) ∧ upd B p u p = some u := by
  have hn := S.notin hp
  have hb := S.bnone hp
  refine ⟨⟨fun a o e => ?_, S.len, S.nd, fun a ha => upd_live (S.live a ha), fun n a o h1 h2 => ?_⟩, ⟨same_new hb, ⟨[], by simp⟩, fun a o h _ => same_new hp a o h, fun a h => upd_live h, fun a h1 h2 _ => ?_, fun a h => .inl h⟩, upd_same⟩
  · by_cases z : a = p
    · subst z; rw [upd_same] at e ⊢; exact e
    · rw [upd_ne z] at e ⊢; exact S.sub a o e
  · obtain ⟨r, b⟩ := S.obj n a o h1 h2
    have hne : a ≠ p := fun z => hn (z ▸ List.mem_of_getElem? h1)
    exact ⟨r.up (same_new hb) ⟨[], by simp⟩ fun u' e => same_new hp a u' e, fun q => by rw [upd_ne hne]; exact b q⟩
  · have hne : a ≠ p := fun z => h1.1 (z ▸ hp)
    rw [upd_ne hne]; exact h2
/-- an own object is written -/
theorem SR.write (S : SR K m B H l) {n : Nat} {a : Addr} {u : HO} {o : O} (hn : m[n]? = some a) (hb : B a = none) (ho : OR K m B (upd H a u) a o) :
    SR K m B (upd H a u) (l.set n o) ∧ Step m B H m B (upd H a u) := by
  have ha : a ∈ m := List.mem_of_getElem? hn
  refine ⟨⟨fun b x e => ?_, by simp [S.len], S.nd, fun b hb => upd_live (S.live b hb), fun j b x h1 h2 => ?_⟩, ⟨Same.refl _, ⟨[], by simp⟩, fun b x h hm => ?_, fun b h => upd_live h, fun _ _ h _ => h, fun _ h => .inl h⟩⟩
  · have hne : b ≠ a := fun z => by subst z; rw [hb] at e; cases e
    rw [upd_ne hne]; exact S.sub b x e
  · by_cases hj : n = j
    · subst hj
      rw [hn] at h1; cases h1
      have hl : n < l.length := by rw [← S.len]; exact (List.getElem?_eq_some_iff.mp hn).1
      rw [List.getElem?_set_self hl] at h2
      cases h2
      exact ⟨ho, fun _ => hb⟩
    · rw [List.getElem?_set_ne hj] at h2
      obtain ⟨r, q⟩ := S.obj j b x h1 h2
      have hne : b ≠ a := fun z => S.ne hn h1 hj z.symm
      exact ⟨r.up (Same.refl _) ⟨[], by simp⟩ fun u' e => by rw [upd_ne hne]; exact e, q⟩
  · have hne : b ≠ a := fun z => hm (z ▸ ha)
    rw [upd_ne hne]; exact h
end
end L3
/-! L3b: the judgements, and the rules for names, operators, arguments, statements, loops, comprehensions, calls -/
namespace L3
open PySem L2
def Post (K : PySem.W.Frag) (m : List Addr) (B H : Hp) (R : D → List O → Prop) (Q : VK) : Prop :=
  ∀ v m' B' H' d l', Step m B H m' B' H' → SR K m' B' H' l' → VR K m' B' v d → R d l' → Q v H'
def EvS (K : PySem.W.Frag) (te : TE) (ρ : List (Option D)) (l : List O) (R : D → List O → Prop) : Prop :=
  ∀ m B H σ, SR K m B H l → ER K m B σ ρ → ∀ Q : VK, Post K m B H R Q → te σ H Q
def EvT (K : PySem.W.Frag) (tt : TT) (ρ : List (Option D)) (l : List O) (R : Bool → List O → Prop) : Prop :=
  ∀ m B H σ, SR K m B H l → ER K m B σ ρ → ∀ Q : Bool → Hp → Prop, (∀ m' B' H' b l', Step m B H m' B' H' → SR K m' B' H' l' → R b l' → Q b H') → tt σ H Q
def EvA (K : PySem.W.Frag) (ta : TA) (ρ : List (Option D)) (l : List O) (R : List D → List O → Prop) : Prop :=
  ∀ m B H σ, SR K m B H l → ER K m B σ ρ → ∀ Q : List V → Hp → Prop, (∀ vs m' B' H' ds l', Step m B H m' B' H' → SR K m' B' H' l' → Paired (VR K m' B') vs ds → R ds l' → Q vs H') → ta σ H Q
def EvO (K : PySem.W.Frag) (to : TO) (ρ : List (Option D)) (l : List O) (R : Option Int → List O → Prop) : Prop :=
  ∀ m B H σ, SR K m B H l → ER K m B σ ρ → ∀ Q : Option Int → Hp → Prop, (∀ m' B' H' b l', Step m B H m' B' H' → SR K m' B' H' l' → R b l' → Q b H') → to σ H Q
def OpS (K : PySem.W.Frag) (r : R2) (x y : D) (l : List O) (R : D → List O → Prop) : Prop :=
  ∀ m B H vx vy, SR K m B H l → VR K m B vx x → VR K m B vy y → ∀ Q : VK, Post K m B H R Q → r vx vy H Q
def UnS (K : PySem.W.Frag) (r : V → Hp → VK → Prop) (x : D) (l : List O) (R : D → List O → Prop) : Prop :=
  ∀ m B H vx, SR K m B H l → VR K m B vx x → ∀ Q : VK, Post K m B H R Q → r vx H Q
def CaS (K : PySem.W.Frag) (r : List V → Hp → VK → Prop) (ds : List D) (l : List O) (R : D → List O → Prop) : Prop :=
  ∀ m B H vs, SR K m B H l → Paired (VR K m B) vs ds → ∀ Q : VK, Post K m B H R Q → r vs H Q
def MeS (K : PySem.W.Frag) (r : V → List V → Hp → VK → Prop) (x : D) (ds : List D) (l : List O) (R : D → List O → Prop) : Prop :=
  ∀ m B H vx vs, SR K m B H l → VR K m B vx x → Paired (VR K m B) vs ds → ∀ Q : VK, Post K m B H R Q → r vx vs H Q
def AsS (K : PySem.W.Frag) (g : TG) (d : D) (ρ : List (Option D)) (l : List O) (R : List (Option D) → List O → Prop) : Prop :=
  ∀ m B H σ v, SR K m B H l → ER K m B σ ρ → VR K m B v d → ∀ Q : St → Hp → Prop, (∀ σ' ρ' m' B' H' l', Step m B H m' B' H' → SR K m' B' H' l' → ER K m' B' σ' ρ' → R ρ' l' → Q σ' H') → g v σ H Q
def AssS (K : PySem.W.Frag) (g : TGs) (ds : List D) (ρ : List (Option D)) (l : List O) (R : List (Option D) → List O → Prop) : Prop :=
  ∀ m B H σ vs, SR K m B H l → ER K m B σ ρ → Paired (VR K m B) vs ds → ∀ Q : St → Hp → Prop, (∀ σ' ρ' m' B' H' l', Step m B H m' B' H' → SR K m' B' H' l' → ER K m' B' σ' ρ' → R ρ' l' → Q σ' H') → g vs σ H Q
structure E3 where
  nx : List (Option D) → List O → Prop
  rt : D → List O → Prop
  bk : List (Option D) → List O → Prop := fun _ _ => False
  ct : List (Option D) → List O → Prop := fun _ _ => False
structure Fin3 (K : PySem.W.Frag) (m : List Addr) (B H : Hp) (E : E3) (Dn : Ends) : Prop where
  nx : ∀ σ' ρ' m' B' H' l', Step m B H m' B' H' → SR K m' B' H' l' → ER K m' B' σ' ρ' → E.nx ρ' l' → Dn.nx σ' H'
  rt : ∀ v m' B' H' d l', Step m B H m' B' H' → SR K m' B' H' l' → VR K m' B' v d → E.rt d l' → Dn.rt v H'
  bk : ∀ σ' ρ' m' B' H' l', Step m B H m' B' H' → SR K m' B' H' l' → ER K m' B' σ' ρ' → E.bk ρ' l' → Dn.bk σ' H'
  ct : ∀ σ' ρ' m' B' H' l', Step m B H m' B' H' → SR K m' B' H' l' → ER K m' B' σ' ρ' → E.ct ρ' l' → Dn.ct σ' H'
def ExS (K : PySem.W.Frag) (ts : TS) (ρ : List (Option D)) (l : List O) (E : E3) : Prop :=
  ∀ m B H σ, SR K m B H l → ER K m B σ ρ → ∀ Dn : Ends, Fin3 K m B H E Dn → ts Dn σ H
section
variable {K : PySem.W.Frag} {m m' m2 : List Addr} {B B' B2 H H' H2 : Hp} {l : List O} {σ : St} {ρ : List (Option D)} {R R' : D → List O → Prop} {E E' : E3} {ta tb te tc : TE} {tt tu : TT} {t u : TS} {ty tz : TA}
theorem Post.step {Q : VK} (s : Step m B H m' B' H') (h : Post K m B H R Q) : Post K m' B' H' R Q := fun v m2 B2 H2 d l2 s2 S r q => h v m2 B2 H2 d l2 (s.trans s2) S r q
theorem Fin3.step {Dn : Ends} (s : Step m B H m' B' H') (h : Fin3 K m B H E Dn) : Fin3 K m' B' H' E Dn :=
  ⟨fun a b c d e f s2 => h.nx a b c d e f (s.trans s2), fun a b c d e f s2 => h.rt a b c d e f (s.trans s2), fun a b c d e f s2 => h.bk a b c d e f (s.trans s2), fun a b c d e f s2 => h.ct a b c d e f (s.trans s2)⟩
theorem EvS.imp (h : EvS K te ρ l R) (hR : ∀ d l, R d l → R' d l) : EvS K te ρ l R' := fun m B H σ S e Q q => h m B H σ S e Q fun v m' B' H' d l' s S' r z => q v m' B' H' d l' s S' r (hR _ _ z)
theorem EvT.imp {R R' : Bool → List O → Prop} (h : EvT K tt ρ l R) (hR : ∀ d l, R d l → R' d l) : EvT K tt ρ l R' := fun m B H σ S e Q q => h m B H σ S e Q fun m' B' H' d l' s S' z => q m' B' H' d l' s S' (hR _ _ z)
theorem ExS.imp (h : ExS K t ρ l E) (h1 : ∀ a b, E.nx a b → E'.nx a b) (h2 : ∀ a b, E.rt a b → E'.rt a b) (h3 : ∀ a b, E.bk a b → E'.bk a b) (h4 : ∀ a b, E.ct a b → E'.ct a b) : ExS K t ρ l E' :=
  fun m B H σ S e Dn F => h m B H σ S e Dn ⟨fun a b c d x f s S e z => F.nx a b c d x f s S e (h1 _ _ z), fun a b c d x f s S e z => F.rt a b c d x f s S e (h2 _ _ z), fun a b c d x f s S e z => F.bk a b c d x f s S e (h3 _ _ z), fun a b c d x f s S e z => F.ct a b c d x f s S e (h4 _ _ z)⟩
/-! ### names, constants -/
theorem e_var {i : Nat} {d : D} (h : ρ[i]? = some (some d)) (r : R d l) : EvS K (tVar i) ρ l R := fun m B H σ S e Q q => by
  obtain ⟨v, e1, hv⟩ := e.2 i d h
  exact ⟨v, e1, q v m B H d l (Step.refl _ _ _) S hv r⟩
theorem e_cst {v : V} {d : D} (h : ∀ m B, VR K m B v d) (r : R d l) : EvS K (tC v) ρ l R := fun m B H σ S e Q q => q v m B H d l (Step.refl _ _ _) S (h m B) r
theorem e_int {i : Int} (r : R (.f (.int i)) l) : EvS K (tC (.int i)) ρ l R := e_cst (d := .f (.int i)) (fun _ _ => FR.int i) r
theorem e_str {x : Str} (r : R (.f (.str x)) l) : EvS K (tC (.str x)) ρ l R := e_cst (d := .f (.str x)) (fun _ _ => FR.str x) r
theorem e_bl {b : Bool} (r : R (.f (.bool b)) l) : EvS K (tC (.bl b)) ρ l R := e_cst (d := .f (.bool b)) (fun _ _ => FR.bl b) r
theorem e_non (r : R (.f .none) l) : EvS K (tC .non) ρ l R := e_cst (d := .f .none) (fun _ _ => FR.non) r
/-! ### operators, tests -/
theorem e_op {r : R2} (h : EvS K ta ρ l fun x l1 => EvS K tb ρ l1 fun y l2 => OpS K r x y l2 R) : EvS K (tOp r ta tb) ρ l R := fun m B H σ S e Q q => by
  refine h m B H σ S e _ fun vx m1 B1 H1 x l1 s1 S1 r1 h1 => ?_
  refine h1 m1 B1 H1 σ S1 (e.step s1) _ fun vy m2 B2 H2 y l2 s2 S2 r2 h2 => ?_
  exact h2 m2 B2 H2 vx vy S2 (r1.step s2) r2 Q (q.step (s1.trans s2))
theorem e_un {r : V → Hp → VK → Prop} (h : EvS K ta ρ l fun x l1 => UnS K r x l1 R) : EvS K (tUn r ta) ρ l R := fun m B H σ S e Q q => by
  refine h m B H σ S e _ fun vx m1 B1 H1 x l1 s1 S1 r1 h1 => ?_
  exact h1 m1 B1 H1 vx S1 r1 Q (q.step s1)
theorem e_tIf (h : EvT K tt ρ l fun b l1 => if b = true then EvS K ta ρ l1 R else EvS K tb ρ l1 R) : EvS K (tIf tt ta tb) ρ l R := fun m B H σ S e Q q => by
  refine h m B H σ S e _ fun m1 B1 H1 b l1 s1 S1 h1 => ?_
  cases b with
  | true => exact h1 m1 B1 H1 σ S1 (e.step s1) Q (q.step s1)
  | false => exact h1 m1 B1 H1 σ S1 (e.step s1) Q (q.step s1)
theorem bl_of {v : V} {b : Bool} (h : VR K m B v (.f (.bool b))) : v = .bl b := by cases h; rfl
theorem int_of {v : V} {b : Int} (h : VR K m B v (.f (.int b))) : v = .int b := by cases h; rfl
theorem str_of {v : V} {b : Str} (h : VR K m B v (.f (.str b))) : v = .str b := by cases h; rfl
theorem t_test {R : Bool → List O → Prop} (h : EvS K te ρ l fun d l1 => ∃ b, d = .f (.bool b) ∧ R b l1) : EvT K (tTest te) ρ l R := fun m B H σ S e Q q => by
  refine h m B H σ S e _ fun v m1 B1 H1 d l1 s1 S1 r1 h1 => ?_
  obtain ⟨b, rfl, h1⟩ := h1
  exact ⟨b, bl_of r1, q m1 B1 H1 b l1 s1 S1 h1⟩
theorem t_B {R : Bool → List O → Prop} (h : EvS K te ρ l fun d l1 => ∃ b, d = .f (.bool b) ∧ R b l1) : EvT K (tB te) ρ l R := t_test h
theorem t_and {R : Bool → List O → Prop} (h : EvT K tt ρ l fun b l1 => if b = true then EvT K tu ρ l1 R else R false l1) : EvT K (tAnd tt tu) ρ l R := fun m B H σ S e Q q => by
  refine h m B H σ S e _ fun m1 B1 H1 b l1 s1 S1 h1 => ?_
  cases b with
  | true => exact h1 m1 B1 H1 σ S1 (e.step s1) Q fun m2 B2 H2 c l2 s2 S2 z => q m2 B2 H2 c l2 (s1.trans s2) S2 z
  | false => exact q m1 B1 H1 false l1 s1 S1 h1
theorem t_or {R : Bool → List O → Prop} (h : EvT K tt ρ l fun b l1 => if b = true then R true l1 else EvT K tu ρ l1 R) : EvT K (tOr tt tu) ρ l R := fun m B H σ S e Q q => by
  refine h m B H σ S e _ fun m1 B1 H1 b l1 s1 S1 h1 => ?_
  cases b with
  | false => exact h1 m1 B1 H1 σ S1 (e.step s1) Q fun m2 B2 H2 c l2 s2 S2 z => q m2 B2 H2 c l2 (s1.trans s2) S2 z
  | true => exact q m1 B1 H1 true l1 s1 S1 h1
theorem t_not {R : Bool → List O → Prop} (h : EvT K tt ρ l fun b l1 => R (!b) l1) : EvT K (tNot tt) ρ l R := fun m B H σ S e Q q => by
  refine h m B H σ S e _ fun m1 B1 H1 b l1 s1 S1 h1 => ?_
  exact q m1 B1 H1 _ l1 s1 S1 h1
theorem e_andV (h : EvS K ta ρ l fun d l1 => ∃ b, d = .f (.bool b) ∧ if b = true then EvS K tb ρ l1 R else R (.f (.bool false)) l1) : EvS K (tAndV ta tb) ρ l R := fun m B H σ S e Q q => by
  refine h m B H σ S e _ fun v m1 B1 H1 d l1 s1 S1 r1 h1 => ?_
  obtain ⟨b, rfl, h1⟩ := h1
  refine ⟨b, bl_of r1, ?_⟩
  cases b with
  | true => exact h1 m1 B1 H1 σ S1 (e.step s1) Q (q.step s1)
  | false => exact q _ m1 B1 H1 (.f (.bool false)) l1 s1 S1 (FR.bl false) h1
theorem e_orV (h : EvS K ta ρ l fun d l1 => ∃ b, d = .f (.bool b) ∧ if b = true then R (.f (.bool true)) l1 else EvS K tb ρ l1 R) : EvS K (tOrV ta tb) ρ l R := fun m B H σ S e Q q => by
  refine h m B H σ S e _ fun v m1 B1 H1 d l1 s1 S1 r1 h1 => ?_
  obtain ⟨b, rfl, h1⟩ := h1
  refine ⟨b, bl_of r1, ?_⟩
  cases b with
  | false => exact h1 m1 B1 H1 σ S1 (e.step s1) Q (q.step s1)
  | true => exact q _ m1 B1 H1 (.f (.bool true)) l1 s1 S1 (FR.bl true) h1
theorem e_notV (h : EvS K ta ρ l fun d l1 => ∃ b, d = .f (.bool b) ∧ R (.f (.bool (!b))) l1) : EvS K (tNotV ta) ρ l R := fun m B H σ S e Q q => by
  refine h m B H σ S e _ fun v m1 B1 H1 d l1 s1 S1 r1 h1 => ?_
  obtain ⟨b, rfl, h1⟩ := h1
  exact ⟨b, bl_of r1, q _ m1 B1 H1 (.f (.bool _)) l1 s1 S1 (FR.bl _) h1⟩
/-! ### arguments, displays -/
theorem a_nil {R : List D → List O → Prop} (r : R [] l) : EvA K tNil ρ l R := fun m B H σ S e Q q => q [] m B H [] l (Step.refl _ _ _) S .nil r
theorem a_cons {R : List D → List O → Prop} (h : EvS K te ρ l fun x l1 => EvA K ty ρ l1 fun xs l2 => R (x :: xs) l2) : EvA K (tCons te ty) ρ l R := fun m B H σ S e Q q => by
  refine h m B H σ S e _ fun vx m1 B1 H1 x l1 s1 S1 r1 h1 => ?_
  refine h1 m1 B1 H1 σ S1 (e.step s1) _ fun vs m2 B2 H2 xs l2 s2 S2 r2 h2 => ?_
  exact q (vx :: vs) m2 B2 H2 (x :: xs) l2 (s1.trans s2) S2 (.cons (r1.step s2) r2) h2
theorem frs_of : ∀ {vs : List V} {fs : List PyData}, Paired (VR K m B) vs (fs.map D.f) → FRs K B vs fs
  | _, [], h => by cases h; exact .nil
  | _, _ :: _, h => by
    cases h with
    | cons h1 h2 => exact .cons h1 (frs_of h2)
theorem of_frs : ∀ {vs : List V} {fs : List PyData}, FRs K B vs fs → Paired (VR K m B) vs (fs.map D.f)
  | _, [], h => by cases h; exact .nil
  | _, _ :: _, h => by
    cases h with
    | cons h1 h2 => exact .cons h1 (of_frs h2)
theorem pair_len {α β : Type} {R : α → β → Prop} {xs : List α} {ys : List β} (h : Paired R xs ys) : xs.length = ys.length := h.length
theorem small {n : Nat} (h : n ≤ 100000) : n ≤ sizeLine := Nat.le_trans h (by decide)
theorem small' {n : Nat} (h : n ≤ 100000) : n < sizeLine := Nat.lt_of_le_of_lt h (by decide)
def unF : List D → Option (List PyData)
  | [] => some []
  | .f d :: r => match unF r with
    | some fs => some (d :: fs)
    | none => none
  | _ :: _ => none
theorem unF_eq : ∀ {ds : List D} {fs : List PyData}, unF ds = some fs → ds = fs.map D.f
  | [], fs, h => by
    have e : [] = fs := Option.some.inj h
    subst e; rfl
  | .f d :: r, fs, h => by
    cases e : unF r with
    | none =>
      simp only [unF, e] at h
      cases h
    | some gs =>
      simp only [unF, e] at h
      have e2 : d :: gs = fs := Option.some.inj h
      subst e2
      rw [List.map_cons, ← unF_eq e]
  | .own _ :: _, _, h => by cases h
  | .sq _ :: _, _, h => by cases h
/-- a tuple of data -/
theorem e_tup (h : EvA K ty ρ l fun ds l1 => ∃ fs : List PyData, unF ds = some fs ∧ fs.length ≤ 100000 ∧ R (.f (.tuple fs)) l1) : EvS K (tTup ty) ρ l R := fun m B H σ S e Q q => by
  refine h m B H σ S e _ fun vs m1 B1 H1 ds l1 s1 S1 r1 h1 => ?_
  obtain ⟨fs, hun, hl, h1⟩ := h1
  have eds := unF_eq hun
  subst eds
  have hf := frs_of r1
  refine ⟨small (by rw [hf.length]; exact hl), fun p hp => ?_⟩
  obtain ⟨S2, s2, e2⟩ := S1.allocF (u := .tup vs) hp
  exact q _ m1 _ _ (.f (.tuple fs)) l1 (s1.trans s2) S2 (FR.tup (.inl e2) (FRs.same s2.sub fs vs hf)) h1
/-- a tuple with references -/
theorem e_tpr (h : EvA K ty ρ l fun ds l1 => ds.length ≤ 100000 ∧ R (.own l1.length) (l1 ++ [.tpr ds])) : EvS K (tTup ty) ρ l R := fun m B H σ S e Q q => by
  refine h m B H σ S e _ fun vs m1 B1 H1 ds l1 s1 S1 r1 h1 => ?_
  obtain ⟨hl, h1⟩ := h1
  refine ⟨small (by rw [pair_len r1]; exact hl), fun p hp => ?_⟩
  obtain ⟨S2, s2, r2⟩ := S1.alloc (u := .tup vs) (o := .tpr ds) hp ⟨vs, upd_same, Paired.up r1 fun _ _ z => z.up (Same.refl _) ⟨_, rfl⟩⟩
  exact q _ _ _ _ _ _ (s1.trans s2) S2 r2 h1
/-- a list: an own object -/
theorem e_lst (h : EvA K ty ρ l fun ds l1 => ∃ fs : List PyData, unF ds = some fs ∧ fs.length ≤ 100000 ∧ R (.own l1.length) (l1 ++ [.lst fs])) : EvS K (tLst ty) ρ l R := fun m B H σ S e Q q => by
  refine h m B H σ S e _ fun vs m1 B1 H1 ds l1 s1 S1 r1 h1 => ?_
  obtain ⟨fs, hun, hl, h1⟩ := h1
  have eds := unF_eq hun
  subst eds
  have hf := frs_of r1
  refine ⟨small (by rw [hf.length]; exact hl), fun p hp => ?_⟩
  obtain ⟨S2, s2, r2⟩ := S1.alloc (u := .lst vs) (o := .lst fs) hp ⟨vs, upd_same, hf⟩
  exact q _ _ _ _ _ _ (s1.trans s2) S2 r2 h1
/-- a list with references -/
theorem e_rfs (h : EvA K ty ρ l fun ds l1 => ds.length ≤ 100000 ∧ R (.own l1.length) (l1 ++ [.rfs ds])) : EvS K (tLst ty) ρ l R := fun m B H σ S e Q q => by
  refine h m B H σ S e _ fun vs m1 B1 H1 ds l1 s1 S1 r1 h1 => ?_
  obtain ⟨hl, h1⟩ := h1
  refine ⟨small (by rw [pair_len r1]; exact hl), fun p hp => ?_⟩
  obtain ⟨S2, s2, r2⟩ := S1.alloc (u := .lst vs) (o := .rfs ds) hp ⟨vs, upd_same, Paired.up r1 fun _ _ z => z.up (Same.refl _) ⟨_, rfl⟩⟩
  exact q _ _ _ _ _ _ (s1.trans s2) S2 r2 h1
theorem e_dK (r : R (.own l.length) (l ++ [.dct []])) : EvS K tDNewK ρ l R := fun m B H σ S e Q q => fun p hp => by
  obtain ⟨S2, s2, r2⟩ := S.alloc (u := .dK []) (o := .dct []) hp ⟨[], upd_same, .nil⟩
  exact q _ _ _ _ _ _ s2 S2 r2 r
theorem e_dT (r : R (.own l.length) (l ++ [.dctT []])) : EvS K tDNewT ρ l R := fun m B H σ S e Q q => fun p hp => by
  obtain ⟨S2, s2, r2⟩ := S.alloc (u := .dT []) (o := .dctT []) hp ⟨[], upd_same, .nil⟩
  exact q _ _ _ _ _ _ s2 S2 r2 r
theorem e_cb {r : List V → Hp → VK → Prop} (h : EvA K ty ρ l fun ds l1 => CaS K r ds l1 R) : EvS K (tCB r ty) ρ l R := fun m B H σ S e Q q => by
  refine h m B H σ S e _ fun vs m1 B1 H1 ds l1 s1 S1 r1 h1 => ?_
  exact h1 m1 B1 H1 vs S1 r1 Q (q.step s1)
theorem o_none {R : Option Int → List O → Prop} (r : R none l) : EvO K tNoPart ρ l R := fun m B H σ S e Q q => q m B H none l (Step.refl _ _ _) S r
theorem o_some {R : Option Int → List O → Prop} (h : EvS K te ρ l fun d l1 => ∃ i, d = .f (.int i) ∧ R (some i) l1) : EvO K (tPart te) ρ l R := fun m B H σ S e Q q => by
  refine h m B H σ S e _ fun v m1 B1 H1 d l1 s1 S1 r1 h1 => ?_
  obtain ⟨i, rfl, h1⟩ := h1
  exact ⟨i, int_of r1, q m1 B1 H1 _ l1 s1 S1 h1⟩
/-! ### a result kept, what was made on the way forgotten -/
def D.under (k : Nat) : D → Prop
  | .own n => n < k
  | _ => True
def O.under (k : Nat) : O → Prop
  | .rfs ds => ∀ d ∈ ds, d.under k
  | .tpr ds => ∀ d ∈ ds, d.under k
  | .ins _ fs => ∀ p ∈ fs, p.2.under k
  | .dctD kvs => ∀ p ∈ kvs, p.2.under k
  | _ => True
theorem VR.cut {k : Nat} {v : V} {d : D} (h : VR K m B v d) (hb : d.under k) : VR K (m.take k) B v d := by
  cases d with
  | f d => exact h
  | own n =>
    obtain ⟨a, e, z⟩ := h
    refine ⟨a, e, ?_⟩
    rw [List.getElem?_take_of_lt hb]
    exact z
  | sq s => exact h
theorem Paired.upm {α β : Type} {R R' : α → β → Prop} : ∀ {xs : List α} {ys : List β}, Paired R xs ys → (∀ x y, y ∈ ys → R x y → R' x y) → Paired R' xs ys
  | _, _, .nil, _ => .nil
  | _, _, .cons h t, f => .cons (f _ _ List.mem_cons_self h) (Paired.upm t fun x y hy => f x y (List.mem_cons_of_mem _ hy))
theorem OR.cut {k : Nat} {a : Addr} {o : O} (h : OR K m B H a o) (hb : o.under k) : OR K (m.take k) B H a o := by
  cases o with
  | lst ds => exact h
  | rfs ds => obtain ⟨xs, e, r⟩ := h; exact ⟨xs, e, Paired.upm r fun x y hy z => z.cut (hb y hy)⟩
  | tpr ds => obtain ⟨xs, e, r⟩ := h; exact ⟨xs, e, Paired.upm r fun x y hy z => z.cut (hb y hy)⟩
  | dct kvs => exact h
  | dctT kvs => exact h
  | dctL od ks kvs => exact h
  | ins C fs => obtain ⟨dx, gs, e, r⟩ := h; exact ⟨dx, gs, e, Paired.upm r fun x y hy z => ⟨z.1, z.2.cut (hb y hy)⟩⟩
  | dctD kvs => obtain ⟨ks, e, r⟩ := h; exact ⟨ks, e, Paired.upm r fun x y hy z => ⟨z.1, z.2.cut (hb y hy)⟩⟩
  | dctM P w kvs => exact h
  | gone => trivial
theorem SR.cut (S : SR K m B H l) (k : Nat) (hb : ∀ o ∈ l.take k, o.under k) : SR K (m.take k) B H (l.take k) := by
  refine ⟨S.sub, by simp [S.len], S.nd.sublist (List.take_sublist _ _), fun a ha => S.live a (List.mem_of_mem_take ha), fun n a o h1 h2 => ?_⟩
  have hn : n < k := by
    have := (List.getElem?_eq_some_iff.mp h1).1
    rw [List.length_take] at this
    omega
  have ho := hb o (List.mem_of_getElem? h2)
  rw [List.getElem?_take_of_lt hn] at h1 h2
  obtain ⟨r, q⟩ := S.obj n a o h1 h2
  exact ⟨r.cut ho, q⟩
theorem Step.cut (s : Step m B H m' B' H') (S : SR K m' B' H' l) {k : Nat} (hk : m.length ≤ k) : Step m B H (m'.take k) B' H' := by
  refine ⟨s.sub, ?_, s.keep, s.live, s.sep, fun a ha => s.new a (List.mem_of_mem_take ha)⟩
  obtain ⟨t, rfl⟩ := s.pre
  exact ⟨t.take (k - m.length), by rw [List.take_append, List.take_of_length_le hk]⟩
theorem t_cut {R : Bool → List O → Prop} (k : Nat) (hk : l.length ≤ k) (h : EvT K tt ρ l fun d l1 => (∀ o ∈ l1.take k, o.under k) ∧ R d (l1.take k)) : EvT K tt ρ l R := fun m B H σ S e Q q => by
  refine h m B H σ S e _ fun m1 B1 H1 d l1 s1 S1 ⟨hb, h1⟩ => ?_
  exact q _ B1 H1 d _ (s1.cut S1 (by rw [S.len]; exact hk)) (S1.cut k hb) h1
end
end L3
/-! L3c: targets, statements, loops, comprehensions, calls of defs, the promise of a def -/
namespace L3
open PySem L2
section
variable {K : PySem.W.Frag} {m m' m2 : List Addr} {B B' B2 H H' H2 : Hp} {l : List O} {σ : St} {ρ : List (Option D)} {R R' : D → List O → Prop} {E E' : E3} {ta tb te tc : TE} {tt tu : TT} {t u : TS} {ty tz : TA} {g : TG} {gs : TGs}
/-! ### targets -/
theorem g_name {i : Nat} {d : D} {R : List (Option D) → List O → Prop} (r : R (ρ.set i (some d)) l) : AsS K (gName i) d ρ l R := fun m B H σ v S e hv Q q =>
  q _ _ m B H l (Step.refl _ _ _) S (e.set i hv) r
theorem g_nil {R : List (Option D) → List O → Prop} (r : R ρ l) : AssS K gNil [] ρ l R := fun m B H σ vs S e hv Q q => by
  cases hv
  exact ⟨rfl, q σ ρ m B H l (Step.refl _ _ _) S e r⟩
theorem g_cons {d : D} {ds : List D} {R : List (Option D) → List O → Prop} (h : AsS K g d ρ l fun ρ1 l1 => AssS K gs ds ρ1 l1 R) : AssS K (gCons g gs) (d :: ds) ρ l R := fun m B H σ vs S e hv Q q => by
  cases hv with
  | cons h1 h2 =>
    refine ⟨_, _, rfl, ?_⟩
    refine h m B H σ _ S e h1 _ fun σ1 ρ1 m1 B1 H1 l1 s1 S1 e1 z => ?_
    exact z m1 B1 H1 σ1 _ S1 e1 (Paired.up h2 fun _ _ w => w.step s1) Q fun σ2 ρ2 m2 B2 H2 l2 s2 => q σ2 ρ2 m2 B2 H2 l2 (s1.trans s2)
/-- a, b = a tuple of data -/
theorem g_tup {n : Nat} {ds : List PyData} {R : List (Option D) → List O → Prop} (hn : ds.length = n) (h : AssS K gs (ds.map D.f) ρ l R) : AsS K (gTup K n gs) (.f (.tuple ds)) ρ l R := fun m B H σ v S e hv Q q => by
  cases hv with
  | tup h1 h2 =>
    exact ⟨_, _, rfl, sqT_same S.sub h1.sq, by rw [h2.length]; exact hn, h m B H σ _ S e (of_frs h2) Q q⟩
/-- a, b = a tuple with references -/
theorem g_tpr {n k : Nat} {ds : List D} {R : List (Option D) → List O → Prop} (ho : l[k]? = some (.tpr ds)) (hn : ds.length = n) (h : AssS K gs ds ρ l R) : AsS K (gTup K n gs) (.own k) ρ l R := fun m B H σ v S e hv Q q => by
  obtain ⟨a, rfl, ha⟩ := hv
  obtain ⟨⟨xs, e1, r⟩, _⟩ := S.obj k a _ ha ho
  exact ⟨_, xs, rfl, SqT.of e1, by rw [pair_len r]; exact hn, h m B H σ _ S e r Q q⟩
/-! ### statements -/
theorem x_next (r : E.nx ρ l) : ExS K tNext ρ l E := fun m B H σ S e Dn F => F.nx σ ρ m B H l (Step.refl _ _ _) S e r
theorem x_seq (h : ExS K t ρ l ⟨fun ρ1 l1 => ExS K u ρ1 l1 E, E.rt, E.bk, E.ct⟩) : ExS K (tSeq t u) ρ l E := fun m B H σ S e Dn F =>
  h m B H σ S e { Dn with nx := u Dn } ⟨fun σ1 ρ1 m1 B1 H1 l1 s1 S1 e1 z => z m1 B1 H1 σ1 S1 e1 Dn (F.step s1), F.rt, F.bk, F.ct⟩
theorem x_asg (h : EvS K te ρ l fun d l1 => AsS K g d ρ l1 E.nx) : ExS K (tAsg te g) ρ l E := fun m B H σ S e Dn F => by
  refine h m B H σ S e _ fun v m1 B1 H1 d l1 s1 S1 r1 h1 => ?_
  exact h1 m1 B1 H1 σ v S1 (e.step s1) r1 _ fun σ2 ρ2 m2 B2 H2 l2 s2 S2 e2 z => F.nx σ2 ρ2 m2 B2 H2 l2 (s1.trans s2) S2 e2 z
theorem x_drop (h : EvS K te ρ l fun _ l1 => E.nx ρ l1) : ExS K (tDrop te) ρ l E := fun m B H σ S e Dn F => by
  refine h m B H σ S e _ fun v m1 B1 H1 d l1 s1 S1 r1 h1 => ?_
  exact F.nx σ ρ m1 B1 H1 l1 s1 S1 (e.step s1) h1
theorem x_ret (h : EvS K te ρ l E.rt) : ExS K (tRet te) ρ l E := fun m B H σ S e Dn F =>
  h m B H σ S e _ fun v m1 B1 H1 d l1 s1 S1 r1 h1 => F.rt v m1 B1 H1 d l1 s1 S1 r1 h1
theorem x_if (h : EvT K tt ρ l fun b l1 => if b = true then ExS K t ρ l1 E else ExS K u ρ l1 E) : ExS K (tIfS tt t u) ρ l E := fun m B H σ S e Dn F => by
  refine h m B H σ S e _ fun m1 B1 H1 b l1 s1 S1 h1 => ?_
  cases b with
  | true => exact h1 m1 B1 H1 σ S1 (e.step s1) Dn (F.step s1)
  | false => exact h1 m1 B1 H1 σ S1 (e.step s1) Dn (F.step s1)
theorem x_aug {i : Nat} {ti : TIp} {d : D} (hd : ρ[i]? = some (some d)) (h : EvS K te ρ l fun y l1 => OpS K ti d y l1 fun z l2 => E.nx (ρ.set i (some z)) l2) : ExS K (tAug i te ti) ρ l E := fun m B H σ S e Dn F => by
  obtain ⟨v, e1, hv⟩ := e.2 i d hd
  refine ⟨v, e1, h m B H σ S e _ fun w m1 B1 H1 y l1 s1 S1 r1 h1 => ?_⟩
  exact h1 m1 B1 H1 v w S1 (hv.step s1) r1 _ fun z m2 B2 H2 dz l2 s2 S2 r2 h2 => F.nx _ _ m2 B2 H2 l2 (s1.trans s2) S2 ((e.step (s1.trans s2)).set i r2) h2
theorem x_par {i j : Nat} (h : EvA K ty ρ l fun ds l1 => ∃ x y, ds = [x, y] ∧ E.nx ((ρ.set i (some x)).set j (some y)) l1) : ExS K (tPar i j ty) ρ l E := fun m B H σ S e Dn F => by
  refine h m B H σ S e _ fun vs m1 B1 H1 ds l1 s1 S1 r1 h1 => ?_
  obtain ⟨x, y, rfl, h1⟩ := h1
  cases r1 with
  | cons r1 r2 =>
    cases r2 with
    | cons r2 r3 =>
      cases r3
      exact ⟨_, _, rfl, F.nx _ _ m1 B1 H1 l1 s1 S1 (((e.step s1).set i r1).set j r2) h1⟩
/-! ### what is walked -/
def ItOk (K : PySem.W.Frag) (m : List Addr) (B : Hp) (J : It) (P : List O → Prop) (n : Nat) (it : Nat → D) : Prop :=
  ∀ i m' B' H l, Same B B' → (∃ t, m' = m ++ t) → SR K m' B' H l → P l → (i < n → J.go i H ∧ ∀ x H', J.yld i H x H' → ∃ B'', Step m' B' H m' B'' H' ∧ SR K m' B'' H' l ∧ VR K m' B'' x (it i)) ∧ (i = n → J.stop i H)
def EvI (K : PySem.W.Frag) (wi : TI) (ρ : List (Option D)) (l : List O) (R : (List O → Prop) → Nat → (Nat → D) → List O → Prop) : Prop :=
  ∀ m B H σ, SR K m B H l → ER K m B σ ρ → ∀ Rt : It → Hp → Prop, (∀ J m' B' H' l' P n it, Step m B H m' B' H' → SR K m' B' H' l' → ItOk K m' B' J P n it → R P n it l' → Rt J H') → wi σ H Rt
theorem ItOk.step {J : It} {P : List O → Prop} {n : Nat} {it : Nat → D} (h : ItOk K m B J P n it) (s : Step m B H m' B' H') : ItOk K m' B' J P n it := fun i m2 B2 H2 l2 a b => h i m2 B2 H2 l2 (s.sub.trans a) (by
  obtain ⟨t, rfl⟩ := b
  obtain ⟨u, rfl⟩ := s.pre
  exact ⟨u ++ t, by simp⟩)
/-- FOR: the word I over the turn, the slots, the store -/
theorem x_for {wi : TI} (h : EvI K wi ρ l fun P n it l1 => ∃ I : Nat → List (Option D) → List O → Prop, I 0 ρ l1 ∧ (∀ i ρ' l', i ≤ n → I i ρ' l' → P l') ∧
      (∀ i ρ' l', i < n → I i ρ' l' → AsS K g (it i) ρ' l' fun ρ2 l2 => ExS K t ρ2 l2 ⟨I (i + 1), E.rt, E.nx, I (i + 1)⟩) ∧ ∀ ρ' l', I n ρ' l' → E.nx ρ' l') : ExS K (tFor wi g t) ρ l E := fun m B H σ S e Dn F => by
  refine h m B H σ S e _ fun J m1 B1 H1 l1 P n it s1 S1 ok ⟨I, h0, hP, hs, hd⟩ => ?_
  refine ⟨fun i k σ' H' => k = n - i ∧ i ≤ n ∧ ∃ ρ' m' B' l', Step m1 B1 H1 m' B' H' ∧ SR K m' B' H' l' ∧ ER K m' B' σ' ρ' ∧ I i ρ' l', ⟨n, by simp, Nat.zero_le _, ρ, m1, B1, l1, Step.refl _ _ _, S1, e.step s1, h0⟩, ?_⟩
  rintro i k σ' H' ⟨rfl, hi, ρ', m', B', l', s2, S2, e2, z⟩
  have o2 := ok i m' B' H' l' s2.sub s2.pre S2 (hP i ρ' l' hi z)
  by_cases hlt : i < n
  · obtain ⟨go, yl⟩ := o2.1 hlt
    refine .inr ⟨go, fun σ3 H3 => ∃ ρ' m' B' l', Step m1 B1 H1 m' B' H3 ∧ SR K m' B' H3 l' ∧ ER K m' B' σ3 ρ' ∧ I (i + 1) ρ' l', fun σ3 H3 ⟨ρ3, m3, B3, l3, a, b, c, d⟩ => ⟨n - (i + 1), by omega, rfl, hlt, ρ3, m3, B3, l3, a, b, c, d⟩, fun x H3 hy => ?_⟩
    obtain ⟨B3, s3, S3, r3⟩ := yl x H3 hy
    refine hs i ρ' l' hlt z m' B3 H3 σ' x S3 (e2.step s3) r3 _ fun σ4 ρ4 m4 B4 H4 l4 s4 S4 e4 z4 => ?_
    have s14 : Step m1 B1 H1 m4 B4 H4 := (s2.trans s3).trans s4
    refine z4 m4 B4 H4 σ4 S4 e4 _ ⟨fun σ5 ρ5 m5 B5 H5 l5 s5 S5 e5 z5 => ?_, fun v m5 B5 H5 d l5 s5 S5 r5 z5 => ?_, fun σ5 ρ5 m5 B5 H5 l5 s5 S5 e5 z5 => ?_, fun σ5 ρ5 m5 B5 H5 l5 s5 S5 e5 z5 => ?_⟩
    · exact ⟨ρ5, m5, B5, l5, s14.trans s5, S5, e5, z5⟩
    · exact F.rt v m5 B5 H5 d l5 ((s1.trans s14).trans s5) S5 r5 z5
    · exact F.nx σ5 ρ5 m5 B5 H5 l5 ((s1.trans s14).trans s5) S5 e5 z5
    · exact ⟨ρ5, m5, B5, l5, s14.trans s5, S5, e5, z5⟩
  · have e0 : i = n := by omega
    subst e0
    exact .inl ⟨o2.2 rfl, F.nx σ' ρ' m' B' H' l' (s1.trans s2) S2 e2 (hd ρ' l' z)⟩
/-- WHILE: the word I, the measure μ -/
theorem x_while (I : List (Option D) → List O → Prop) (μ : List (Option D) → List O → Nat) (h0 : I ρ l)
    (hs : ∀ ρ' l', I ρ' l' → EvT K tt ρ' l' fun b l1 => if b = true then ExS K t ρ' l1 ⟨fun ρ2 l2 => I ρ2 l2 ∧ μ ρ2 l2 < μ ρ' l', E.rt, E.nx, fun ρ2 l2 => I ρ2 l2 ∧ μ ρ2 l2 < μ ρ' l'⟩ else E.nx ρ' l1) : ExS K (tWhile tt t) ρ l E := fun m B H σ S e Dn F => by
  refine ⟨fun k σ' H' => ∃ ρ' m' B' l', k = μ ρ' l' ∧ Step m B H m' B' H' ∧ SR K m' B' H' l' ∧ ER K m' B' σ' ρ' ∧ I ρ' l', ⟨_, ρ, m, B, l, rfl, Step.refl _ _ _, S, e, h0⟩, ?_⟩
  rintro k σ' H' ⟨ρ', m', B', l', rfl, s1, S1, e1, z⟩
  refine hs ρ' l' z m' B' H' σ' S1 e1 _ fun m2 B2 H2 b l2 s2 S2 z2 => ?_
  have s12 := s1.trans s2
  cases b with
  | false =>
    show Dn.nx σ' H2
    exact F.nx σ' ρ' m2 B2 H2 l2 s12 S2 (e1.step s2) z2
  | true =>
    refine ⟨fun σ3 H3 => ∃ ρ3 m3 B3 l3, Step m B H m3 B3 H3 ∧ SR K m3 B3 H3 l3 ∧ ER K m3 B3 σ3 ρ3 ∧ I ρ3 l3 ∧ μ ρ3 l3 < μ ρ' l', fun σ3 H3 ⟨ρ3, m3, B3, l3, a, b, c, d, lt⟩ => ⟨_, lt, ρ3, m3, B3, l3, rfl, a, b, c, d⟩, ?_⟩
    refine z2 m2 B2 H2 σ' S2 (e1.step s2) _ ⟨fun σ5 ρ5 m5 B5 H5 l5 s5 S5 e5 z5 => ?_, fun v m5 B5 H5 d l5 s5 S5 r5 z5 => ?_, fun σ5 ρ5 m5 B5 H5 l5 s5 S5 e5 z5 => ?_, fun σ5 ρ5 m5 B5 H5 l5 s5 S5 e5 z5 => ?_⟩
    · exact ⟨ρ5, m5, B5, l5, s12.trans s5, S5, e5, z5.1, z5.2⟩
    · exact F.rt v m5 B5 H5 d l5 (s12.trans s5) S5 r5 z5
    · exact F.nx σ5 ρ5 m5 B5 H5 l5 (s12.trans s5) S5 e5 z5
    · exact ⟨ρ5, m5, B5, l5, s12.trans s5, S5, e5, z5.1, z5.2⟩
/-! ### comprehensions -/
def wipe3 (ρ : List (Option D)) : List Nat → List (Option D)
  | [] => ρ
  | i :: vs => (wipe3 ρ vs).set i none
theorem wipe3_len (ρ : List (Option D)) : ∀ vs : List Nat, (wipe3 ρ vs).length = ρ.length
  | [] => rfl
  | i :: vs => by unfold wipe3; rw [List.length_set, wipe3_len ρ vs]
theorem ER.setn {i : Nat} (h : ER K m B σ ρ) : ER K m B (σ.set i none) (ρ.set i none) := by
  refine ⟨by simp [h.1], fun j d e => ?_⟩
  by_cases hij : i = j
  · subst hij
    have hl : i < ρ.length := by simpa using (List.getElem?_eq_some_iff.mp e).1
    rw [List.getElem?_set_self hl] at e
    cases e
  · rw [List.getElem?_set_ne hij] at e ⊢
    exact h.2 j d e
theorem ER.wipe (h : ER K m B σ ρ) : ∀ vs : List Nat, ER K m B (wipe σ vs) (wipe3 ρ vs)
  | [] => h
  | i :: vs => by unfold L2.wipe wipe3; exact (ER.wipe h vs).setn
/-- an object that no one here holds is written -/
theorem SR.off (S : SR K m B H l) {p : Addr} {u : HO} (hm : p ∉ m) (hb : B p = none) : SR K m B (upd H p u) l := by
  refine ⟨fun a o e => ?_, S.len, S.nd, fun a ha => upd_live (S.live a ha), fun n a o h1 h2 => ?_⟩
  · have ne : a ≠ p := fun z => by subst z; rw [hb] at e; cases e
    rw [upd_ne ne]; exact S.sub a o e
  · obtain ⟨r, b⟩ := S.obj n a o h1 h2
    have ne : a ≠ p := fun z => hm (z ▸ List.mem_of_getElem? h1)
    exact ⟨r.up (Same.refl _) ⟨[], by simp⟩ fun u' e => by rw [upd_ne ne]; exact e, b⟩
/-- an object that stands already becomes an own one -/
theorem SR.join (S : SR K m B H l) {p : Addr} {o : O} (hm : p ∉ m) (hb : (o ≠ .gone ∧ ∀ ds, o ≠ .tpr ds) → B p = none) (hl : H p ≠ none) (ho : OR K (m ++ [p]) B H p o) : SR K (m ++ [p]) B H (l ++ [o]) ∧ VR K (m ++ [p]) B (.ref p) (.own l.length) := by
  refine ⟨⟨S.sub, by simp [S.len], ?_, fun a ha => ?_, fun n a x h1 h2 => ?_⟩, ⟨p, rfl, by rw [← S.len]; simp⟩⟩
  · rw [List.nodup_append]
    exact ⟨S.nd, by simp, fun a ha b hb => by
      have : b = p := by simpa using hb
      subst this
      intro e; subst e; exact hm ha⟩
  · rcases List.mem_append.mp ha with z | z
    · exact S.live a z
    · have : a = p := by simpa using z
      subst this; exact hl
  · by_cases hlt : n < m.length
    · rw [List.getElem?_append_left hlt] at h1
      rw [List.getElem?_append_left (by rw [← S.len]; exact hlt)] at h2
      obtain ⟨r, b⟩ := S.obj n a x h1 h2
      exact ⟨r.up (Same.refl _) ⟨_, rfl⟩ fun u' e => e, b⟩
    · have hm' : n = m.length := by
        have := (List.getElem?_eq_some_iff.mp h1).1
        rw [List.length_append] at this
        simp at this
        omega
      subst hm'
      have e1 : a = p := by
        rw [List.getElem?_append_right (Nat.le_refl _)] at h1
        simpa using h1.symm
      have e2 : x = o := by
        rw [S.len, List.getElem?_append_right (Nat.le_refl _)] at h2
        simpa using h2.symm
      subst e1 e2
      exact ⟨ho, hb⟩
theorem Step.off (s : Step m B H m' B' H') {p : Addr} {u : HO} (hp : H p = none) : Step m B H m' B' (upd H' p u) := by
  refine ⟨s.sub, s.pre, fun a o z1 z2 => ?_, fun a z1 => upd_live (s.live a z1), s.sep, s.new⟩
  have ne : a ≠ p := fun z => by subst z; rw [hp] at z1; cases z1
  rw [upd_ne ne]; exact s.keep a o z1 z2
theorem Step.join (s : Step m B H m' B' H') {p : Addr} (hp : H p = none) : Step m B H (m' ++ [p]) B' H' := by
  obtain ⟨t, e⟩ := s.pre
  refine ⟨s.sub, ⟨t ++ [p], by rw [e, List.append_assoc]⟩, s.keep, s.live, s.sep, fun a ha => ?_⟩
  rcases List.mem_append.mp ha with z | z
  · exact s.new a z
  · have : a = p := by simpa using z
    subst this; exact .inr hp
/-- the slots that a target sets are those that the block wipes -/
def GoodG (g : TG) (vs : List Nat) : Prop := ∀ (v : V) (σ : St) (H : Hp) (Q : St → Hp → Prop), g v (wipe σ vs) H Q → g v (wipe σ vs) H fun σ' H' => wipe σ' vs = wipe σ vs ∧ Q σ' H'
/-- a list comprehension: the word I over the turn, the items so far, the store -/
theorem e_lc {wi : TI} {vs : List Nat} (hg : GoodG g vs) (h : EvI K wi ρ l fun P n it l1 => ∃ I : Nat → List PyData → List O → Prop, I 0 [] l1 ∧ (∀ i acc l', i ≤ n → I i acc l' → P l' ∧ acc.length ≤ 100000) ∧
      (∀ i acc l', i < n → I i acc l' → AsS K g (it i) (wipe3 ρ vs) l' fun ρ2 l2 => EvT K tt ρ2 l2 fun b l3 => if b = true then EvS K te ρ2 l3 fun d l4 => ∃ x, d = .f x ∧ I (i + 1) (acc ++ [x]) l4 else I (i + 1) acc l3) ∧
      ∀ acc l', I n acc l' → R (.own l'.length) (l' ++ [.lst acc])) : EvS K (tLc wi g tt te vs) ρ l R := fun m B H σ S e Q q => by
  refine h m B H σ S e _ fun J m1 B1 H1 l1 P n it s1 S1 ok ⟨I, h0, hP, hs, hd⟩ => ?_
  intro Dd hDn
  have same1 : Same H1 (upd H1 Dd (.lst [])) := same_new hDn
  have hDm1 : Dd ∉ m1 := S1.notin hDn
  have hDB1 : B1 Dd = none := S1.bnone hDn
  have S1' : SR K m1 B1 (upd H1 Dd (.lst [])) l1 := ⟨S1.sub.trans same1, S1.len, S1.nd, fun a ha => upd_live (S1.live a ha), fun k a o x1 x2 => let ⟨r, b⟩ := S1.obj k a o x1 x2; ⟨r.up (Same.refl _) ⟨[], by simp⟩ fun u z => same1 a u z, b⟩⟩
  have s1' : Step m1 B1 H1 m1 B1 (upd H1 Dd (.lst [])) := ⟨Same.refl _, ⟨[], by simp⟩, fun a o z _ => same1 a o z, fun a z => upd_live z, fun _ _ z _ => z, fun _ z => .inl z⟩
  -- how the new list fares through a step
  have fare : ∀ {ma mb : List Addr} {Ba Bb Ha Hb : Hp} {us : List V}, Step ma Ba Ha mb Bb Hb → Dd ∉ ma → Ba Dd = none → Ha Dd = some (.lst us) → Dd ∉ mb ∧ Bb Dd = none ∧ Hb Dd = some (.lst us) := by
    intro ma mb Ba Bb Ha Hb us s n1 n2 n3
    refine ⟨fun zz => ?_, s.sep _ (by rw [n3]; simp) n2 n1, s.keep _ _ n3 n1⟩
    rcases s.new _ zz with w | w
    · exact n1 w
    · rw [w] at n3
      cases n3
  refine ⟨fun i k H' => k = n - i ∧ i ≤ n ∧ ∃ m' B' l' acc xs, Step m1 B1 H1 m' B' H' ∧ SR K m' B' H' l' ∧ Dd ∉ m' ∧ B' Dd = none ∧ H' Dd = some (.lst xs) ∧ FRs K B' xs acc ∧ I i acc l',
    ⟨n, by simp, Nat.zero_le _, m1, B1, l1, [], [], s1', S1', hDm1, hDB1, upd_same, .nil, h0⟩, ?_⟩
  rintro i k H' ⟨rfl, hi, m', B', l', acc, xs, s2, S2, hDm, hDB, hD, hx, z⟩
  obtain ⟨pz, lz⟩ := hP i acc l' hi z
  have o2 := ok i m' B' H' l' s2.sub s2.pre S2 pz
  by_cases hlt : i < n
  · obtain ⟨go, yl⟩ := o2.1 hlt
    refine .inr ⟨go, fun H3 => ∃ m' B' l' acc xs, Step m1 B1 H1 m' B' H3 ∧ SR K m' B' H3 l' ∧ Dd ∉ m' ∧ B' Dd = none ∧ H3 Dd = some (.lst xs) ∧ FRs K B' xs acc ∧ I (i + 1) acc l',
      fun H3 ⟨m3, B3, l3, acc3, xs3, a1, a2, a3, a4, a5, a6, a7⟩ => ⟨n - (i + 1), by omega, rfl, hlt, m3, B3, l3, acc3, xs3, a1, a2, a3, a4, a5, a6, a7⟩, fun x H3 hy => ?_⟩
    obtain ⟨B3, s3, S3, r3⟩ := yl x H3 hy
    obtain ⟨f1, f2, f3⟩ := fare s3 hDm hDB hD
    refine hg x σ H3 _ (hs i acc l' hlt z m' B3 H3 (wipe σ vs) x S3 ((((e.step s1).step s2).step s3).wipe vs) r3 _ fun σ4 ρ4 m4 B4 H4 l4 s4 S4 e4 z4 => ?_)
    obtain ⟨g1, g2, g3⟩ := fare s4 f1 f2 f3
    refine z4 m4 B4 H4 σ4 S4 e4 _ fun m5 B5 H5 b l5 s5 S5 z5 => ?_
    obtain ⟨h1, h2, h3⟩ := fare s5 g1 g2 g3
    have s25 := ((s2.trans s3).trans s4).trans s5
    have hx5 : FRs K B5 xs acc := FRs.same ((s3.trans s4).trans s5).sub acc xs hx
    cases b with
    | false => exact ⟨m5, B5, l5, acc, xs, s25, S5, h1, h2, h3, hx5, z5⟩
    | true =>
      refine z5 m5 B5 H5 σ4 S5 (e4.step s5) _ fun y m6 B6 H6 d l6 s6 S6 r6 ⟨x6, e6, z6⟩ => ?_
      subst e6
      obtain ⟨k1, k2, k3⟩ := fare s6 h1 h2 h3
      have hx6 : FRs K B6 (xs ++ [y]) (acc ++ [x6]) := (FRs.same s6.sub acc xs hx5).append (FRs.one r6)
      have hl := hx5.length
      exact ⟨xs, k3, small' (by rw [hl]; exact lz), m6, B6, l6, acc ++ [x6], xs ++ [y], (s25.trans s6).off hDn, S6.off k1 k2, k1, k2, upd_same, hx6, z6⟩
  · have e0 : i = n := by omega
    subst e0
    have hR := hd acc l' z
    refine .inl ⟨o2.2 rfl, ?_⟩
    obtain ⟨Sj, rj⟩ := S2.join (o := .lst acc) hDm (fun _ => hDB) (by rw [hD]; simp) ⟨xs, hD, hx⟩
    exact q _ _ _ _ _ _ (s1.trans (s2.join hDn)) Sj rj hR
theorem wipe_set {i : Nat} {x : Option V} : ∀ {vs : List Nat} {σ : St}, i ∈ vs → wipe (σ.set i x) vs = wipe σ vs
  | [], _, h => by cases h
  | j :: vs, σ, h => by
    unfold L2.wipe
    by_cases hij : i = j
    · subst hij
      by_cases hi : i ∈ vs
      · rw [wipe_set hi]
      · have c : ∀ (vs : List Nat) (σ : St), (wipe (σ.set i x) vs).set i none = (wipe σ vs).set i none := by
          intro vs
          induction vs with
          | nil => intro σ; show (σ.set i x).set i none = σ.set i none; rw [List.set_set]
          | cons k vs ih =>
            intro σ
            unfold L2.wipe
            by_cases hk : k = i
            · subst hk; rw [List.set_set, List.set_set]; exact ih σ
            · rw [List.set_comm _ _ hk, ih σ, List.set_comm _ _ hk]
        exact c vs σ
    · have hi : i ∈ vs := by
        rcases List.mem_cons.mp h with z | z
        · exact absurd z hij
        · exact z
      rw [wipe_set hi]
theorem wipe_wipe (σ : St) : ∀ vs : List Nat, wipe (wipe σ vs) vs = wipe σ vs := by
  have gen : ∀ (us vs : List Nat) (σ : St), (∀ i ∈ us, i ∈ vs) → wipe (wipe σ us) vs = wipe σ vs := by
    intro us
    induction us with
    | nil => intro vs σ _; rfl
    | cons i us ih =>
      intro vs σ h
      show wipe ((wipe σ us).set i none) vs = wipe σ vs
      rw [wipe_set (h i List.mem_cons_self)]
      exact ih vs σ fun j hj => h j (List.mem_cons_of_mem _ hj)
  exact fun vs => gen vs vs σ fun _ h => h
/-- targets within the block's own slots -/
def GG (g : TG) (vs : List Nat) : Prop := ∀ (v : V) (σ : St) (H : Hp) (Q : St → Hp → Prop), g v σ H Q → g v σ H fun σ' H' => wipe σ' vs = wipe σ vs ∧ Q σ' H'
def GGs (g : TGs) (vs : List Nat) : Prop := ∀ (v : List V) (σ : St) (H : Hp) (Q : St → Hp → Prop), g v σ H Q → g v σ H fun σ' H' => wipe σ' vs = wipe σ vs ∧ Q σ' H'
theorem gg_name {i : Nat} {vs : List Nat} (h : i ∈ vs) : GG (gName i) vs := fun v σ H Q q => ⟨wipe_set h, q⟩
theorem gg_nil {vs : List Nat} : GGs gNil vs := fun v σ H Q q => ⟨q.1, rfl, q.2⟩
theorem gg_cons {vs : List Nat} (h1 : GG g vs) (h2 : GGs gs vs) (mono : ∀ v σ H (Q Q' : St → Hp → Prop), (∀ a b, Q a b → Q' a b) → g v σ H Q → g v σ H Q') : GGs (gCons g gs) vs := fun v σ H Q q => by
  obtain ⟨x, r, rfl, q⟩ := q
  refine ⟨x, r, rfl, mono _ _ _ _ _ (fun a b ⟨e, z⟩ => ?_) (h1 x σ H _ q)⟩
  have w := h2 r a b Q z
  rw [e] at w
  exact w
theorem gg_tup {n : Nat} {vs : List Nat} (h : GGs gs vs) : GG (gTup K n gs) vs := fun v σ H Q q => by
  obtain ⟨a, xs, e1, e2, e3, q⟩ := q
  exact ⟨a, xs, e1, e2, e3, h xs σ H Q q⟩
theorem mono_name {i : Nat} : ∀ v σ H (Q Q' : St → Hp → Prop), (∀ a b, Q a b → Q' a b) → gName i v σ H Q → gName i v σ H Q' := fun _ _ _ _ _ h q => h _ _ q
theorem good_of {vs : List Nat} (h : GG g vs) : GoodG g vs := fun v σ H Q q => by
  have w := h v (wipe σ vs) H Q q
  rw [wipe_wipe] at w
  exact w
end
end L3
/-! L3d: calls of defs, the promise of a def -/
namespace L3
open PySem L2
def NoRef : List D → Prop
  | [] => True
  | .own _ :: _ => False
  | _ :: r => NoRef r
def D.shift (k : Nat) : D → D
  | .own n => .own (k + n)
  | d => d
def O.shift (k : Nat) : O → O
  | .rfs ds => .rfs (ds.map (D.shift k))
  | .tpr ds => .tpr (ds.map (D.shift k))
  | .ins C fs => .ins C (fs.map fun p => (p.1, p.2.shift k))
  | .dctD kvs => .dctD (kvs.map fun p => (p.1, p.2.shift k))
  | o => o
/-- the callee's own 0 is our own i, its further ones stand behind ours -/
def D.shift1 (i k : Nat) : D → D
  | .own 0 => .own i
  | .own (n + 1) => .own (k + n)
  | d => d
def O.shift1 (i k : Nat) : O → O
  | .rfs ds => .rfs (ds.map (D.shift1 i k))
  | .tpr ds => .tpr (ds.map (D.shift1 i k))
  | .ins C fs => .ins C (fs.map fun p => (p.1, p.2.shift1 i k))
  | .dctD kvs => .dctD (kvs.map fun p => (p.1, p.2.shift1 i k))
  | o => o
def O.free : O → Prop
  | .rfs ds => NoRef ds
  | .tpr ds => NoRef ds
  | .ins _ fs => NoRef (fs.map (·.2))
  | .dctD kvs => NoRef (kvs.map (·.2))
  | _ => True
abbrev Spec3 := List D → List O → (D → List O → Prop) → Prop
/-- a def's promise -/
def P3 (K : PySem.W.Frag) (S : Spec3) : Sp := fun vs H Q _ => ∃ m B g ds R, SR K m B H g ∧ Paired (VR K m B) vs ds ∧ S ds g R ∧ Post K m B H R Q
def st0 (N : List Str) (ds : List D) : List (Option D) := ds.map some ++ List.replicate (N.length - ds.length) none
section
variable {K : PySem.W.Frag} {m m' m2 : List Addr} {B B' B2 H H' H2 : Hp} {l : List O} {σ : St} {ρ : List (Option D)} {R R' : D → List O → Prop} {E E' : E3} {ta tb te tc : TE} {tt tu : TT} {t u : TS} {ty tz : TA} {g : TG} {gs : TGs}
theorem paired_map {α β γ : Type} {R : α → β → Prop} {R' : α → γ → Prop} {f : β → γ} : ∀ {xs : List α} {ys : List β}, Paired R xs ys → (∀ x y, R x y → R' x (f y)) → Paired R' xs (ys.map f)
  | _, _, .nil, _ => .nil
  | _, _, .cons h t, k => .cons (k _ _ h) (paired_map t k)
theorem noref_any : ∀ {vs : List V} {ds : List D}, NoRef ds → Paired (VR K m B) vs ds → Paired (VR K m' B) vs ds
  | _, [], _, h => by cases h; exact .nil
  | _, .own _ :: _, n, _ => n.elim
  | _, .f d :: _, n, h => by
    cases h with
    | cons h1 h2 => exact .cons h1 (noref_any (show NoRef _ from n) h2)
  | _, .sq d :: _, n, h => by
    cases h with
    | cons h1 h2 => exact .cons h1 (noref_any (show NoRef _ from n) h2)
theorem noref_fs {κ : Type} : ∀ {gs : List (κ × V)} {fs : List (κ × D)}, NoRef (fs.map (·.2)) → Paired (fun (p : κ × V) (q : κ × D) => p.1 = q.1 ∧ VR K m B p.2 q.2) gs fs → Paired (fun (p : κ × V) (q : κ × D) => p.1 = q.1 ∧ VR K m' B p.2 q.2) gs fs
  | _, [], _, h => by cases h; exact .nil
  | _, (x, .own _) :: _, n, _ => n.elim
  | _, (x, .f d) :: _, n, h => by
    cases h with
    | cons h1 h2 => exact .cons h1 (noref_fs (show NoRef _ from n) h2)
  | _, (x, .sq d) :: _, n, h => by
    cases h with
    | cons h1 h2 => exact .cons h1 (noref_fs (show NoRef _ from n) h2)
theorem OR.free_any {a : Addr} {o : O} (hf : o.free) (h : OR K m B H a o) : OR K m' B H a o := by
  cases o with
  | lst ds => exact h
  | rfs ds => obtain ⟨xs, e, r⟩ := h; exact ⟨xs, e, noref_any hf r⟩
  | tpr ds => obtain ⟨xs, e, r⟩ := h; exact ⟨xs, e, noref_any hf r⟩
  | dct kvs => exact h
  | dctT kvs => exact h
  | dctL od ks kvs => exact h
  | ins C fs => obtain ⟨dx, gs, e, r⟩ := h; exact ⟨dx, gs, e, noref_fs hf r⟩
  | dctD kvs => obtain ⟨ks, e, r⟩ := h; exact ⟨ks, e, noref_fs hf r⟩
  | dctM P w kvs => exact h
  | gone => trivial
theorem VR.shift {v : V} {d : D} (h : VR K m' B v d) : VR K (m ++ m') B v (d.shift m.length) := by
  cases d with
  | f d => exact h
  | sq d => exact h
  | own n =>
    obtain ⟨a, e, z⟩ := h
    refine ⟨a, e, ?_⟩
    rw [List.getElem?_append_right (by omega)]
    rw [show m.length + n - m.length = n by omega]
    exact z
theorem OR.shift {a : Addr} {o : O} (h : OR K m' B H a o) : OR K (m ++ m') B H a (o.shift m.length) := by
  cases o with
  | lst ds => exact h
  | rfs ds => obtain ⟨xs, e, r⟩ := h; exact ⟨xs, e, paired_map r fun x y z => z.shift⟩
  | tpr ds => obtain ⟨xs, e, r⟩ := h; exact ⟨xs, e, paired_map r fun x y z => z.shift⟩
  | dct kvs => exact h
  | dctT kvs => exact h
  | dctL od ks kvs => exact h
  | ins C fs => obtain ⟨dx, gs, e, r⟩ := h; exact ⟨dx, gs, e, paired_map r fun x y z => ⟨z.1, z.2.shift⟩⟩
  | dctD kvs => obtain ⟨ks, e, r⟩ := h; exact ⟨ks, e, paired_map r fun x y z => ⟨z.1, z.2.shift⟩⟩
  | dctM P w kvs => exact h
  | gone => trivial
theorem VR.shift1 {v : V} {d : D} {i : Nat} {a : Addr} {tm : List Addr} (hi : m[i]? = some a) (h : VR K (a :: tm) B v d) : VR K (m ++ tm) B v (d.shift1 i m.length) := by
  cases d with
  | f d => exact h
  | sq d => exact h
  | own n =>
    obtain ⟨b, e, z⟩ := h
    cases n with
    | zero =>
      refine ⟨b, e, ?_⟩
      have z' : a = b := by simpa using z
      subst z'
      exact get_pre ⟨tm, rfl⟩ hi
    | succ n =>
      refine ⟨b, e, ?_⟩
      rw [List.getElem?_append_right (by omega)]
      rw [show m.length + n - m.length = n by omega]
      simpa using z
theorem OR.shift1 {a b : Addr} {o : O} {i : Nat} {tm : List Addr} (hi : m[i]? = some a) (h : OR K (a :: tm) B H b o) : OR K (m ++ tm) B H b (o.shift1 i m.length) := by
  cases o with
  | lst ds => exact h
  | rfs ds => obtain ⟨xs, e, r⟩ := h; exact ⟨xs, e, paired_map r fun x y z => z.shift1 hi⟩
  | tpr ds => obtain ⟨xs, e, r⟩ := h; exact ⟨xs, e, paired_map r fun x y z => z.shift1 hi⟩
  | dct kvs => exact h
  | dctT kvs => exact h
  | dctL od ks kvs => exact h
  | ins C fs => obtain ⟨dx, gs, e, r⟩ := h; exact ⟨dx, gs, e, paired_map r fun x y z => ⟨z.1, z.2.shift1 hi⟩⟩
  | dctD kvs => obtain ⟨ks, e, r⟩ := h; exact ⟨ks, e, paired_map r fun x y z => ⟨z.1, z.2.shift1 hi⟩⟩
  | dctM P w kvs => exact h
  | gone => trivial
theorem shift_gone {o : O} {k : Nat} : (o.shift k ≠ .gone ∧ ∀ ds, o.shift k ≠ .tpr ds) → (o ≠ .gone ∧ ∀ ds, o ≠ .tpr ds) := fun h => ⟨fun e => h.1 (by rw [e]; rfl), fun ds e => h.2 _ (by rw [e]; rfl)⟩
theorem shift1_gone {o : O} {i k : Nat} : (o.shift1 i k ≠ .gone ∧ ∀ ds, o.shift1 i k ≠ .tpr ds) → (o ≠ .gone ∧ ∀ ds, o ≠ .tpr ds) := fun h => ⟨fun e => h.1 (by rw [e]; rfl), fun ds e => h.2 _ (by rw [e]; rfl)⟩
/-- behind a callee that was handed no object -/
theorem SR.back0 (S : SR K m B H l) {l' : List O} (s : Step [] B H m' B' H') (S' : SR K m' B' H' l') : SR K (m ++ m') B' H' (l ++ l'.map (O.shift l.length)) ∧ Step m B H (m ++ m') B' H' := by
  have nn : ∀ a : Addr, a ∉ ([] : List Addr) := fun a => by simp
  have new : ∀ a ∈ m', H a = none := fun a ha => by
    rcases s.new a ha with z | z
    · exact absurd z (nn a)
    · exact z
  refine ⟨⟨S'.sub, by simp [S.len, S'.len], ?_, fun a ha => ?_, fun n a o h1 h2 => ?_⟩, ⟨s.sub, ⟨m', rfl⟩, fun a o h _ => s.keep a o h (nn a), s.live, fun a h1 h2 _ => s.sep a h1 h2 (nn a), fun a ha => ?_⟩⟩
  · rw [List.nodup_append]
    exact ⟨S.nd, S'.nd, fun a ha b hb e => S.live a ha (e ▸ new b hb)⟩
  · rcases List.mem_append.mp ha with z | z
    · exact s.live a (S.live a z)
    · exact S'.live a z
  · by_cases hlt : n < m.length
    · rw [List.getElem?_append_left hlt] at h1
      rw [List.getElem?_append_left (by rw [← S.len]; exact hlt)] at h2
      obtain ⟨r, b⟩ := S.obj n a o h1 h2
      have lv := S.live a (List.mem_of_getElem? h1)
      exact ⟨r.up s.sub ⟨m', rfl⟩ fun u e => s.keep a u e (nn a), fun q => s.sep a ⟨lv, r.ntup q⟩ (b q) (nn a)⟩
    · rw [List.getElem?_append_right (by omega)] at h1
      rw [List.getElem?_append_right (by rw [← S.len]; omega), ← S.len, List.getElem?_map] at h2
      cases e : l'[n - m.length]? with
      | none => rw [e] at h2; cases h2
      | some o' =>
        rw [e] at h2
        cases h2
        obtain ⟨r, b⟩ := S'.obj _ a o' h1 e
        exact ⟨r.shift, fun q => b (shift_gone q)⟩
  · rcases List.mem_append.mp ha with z | z
    · exact .inl z
    · exact .inr (new a z)
/-- behind a callee that was handed our own object i -/
theorem SR.back1 (S : SR K m B H l) {i : Nat} {a : Addr} {o' : O} {l' : List O} (hi : m[i]? = some a) (s : Step [a] B H m' B' H') (S' : SR K m' B' H' (o' :: l')) :
    ∃ tm, m' = a :: tm ∧ SR K (m ++ tm) B' H' (l.set i (o'.shift1 i l.length) ++ l'.map (O.shift1 i l.length)) ∧ Step m B H (m ++ tm) B' H' := by
  obtain ⟨tm, rfl⟩ := s.pre
  have ham := List.mem_of_getElem? hi
  have new : ∀ b ∈ tm, H b = none := fun b hb => by
    rcases s.new b (List.mem_append_right _ hb) with z | z
    · have e : b = a := by simpa using z
      have nd := S'.nd
      rw [List.singleton_append, List.nodup_cons] at nd
      exact absurd (e ▸ hb) nd.1
    · exact z
  have nin : ∀ b, b ∉ m → b ∉ [a] := fun b h z => by
    have e : b = a := by simpa using z
    exact h (e ▸ ham)
  refine ⟨tm, rfl, ⟨S'.sub, ?_, ?_, fun b hb => ?_, fun n b o h1 h2 => ?_⟩, ⟨s.sub, ⟨tm, rfl⟩, fun b o h hn => s.keep b o h (nin b hn), s.live, fun b h1 h2 hn => s.sep b h1 h2 (nin b hn), fun b hb => ?_⟩⟩
  · have e := S'.len
    simp only [List.singleton_append, List.length_cons] at e
    simp [S.len]
    omega
  · have nd := S'.nd
    rw [List.singleton_append, List.nodup_cons] at nd
    rw [List.nodup_append]
    exact ⟨S.nd, nd.2, fun b hb c hc e => S.live b hb (e ▸ new c hc)⟩
  · rcases List.mem_append.mp hb with z | z
    · exact s.live b (S.live b z)
    · exact S'.live b (List.mem_append_right _ z)
  · by_cases hlt : n < m.length
    · rw [List.getElem?_append_left hlt] at h1
      rw [List.getElem?_append_left (by simp [← S.len]; exact hlt)] at h2
      by_cases hni : i = n
      · subst hni
        rw [hi] at h1; cases h1
        rw [List.getElem?_set_self (by rw [← S.len]; exact hlt)] at h2
        cases h2
        obtain ⟨r, bb⟩ := S'.obj 0 a o' (by simp) (by simp)
        have r' : OR K (a :: tm) B' H' a o' := r
        exact ⟨by rw [← S.len]; exact OR.shift1 hi r', fun q => bb (shift1_gone q)⟩
      · rw [List.getElem?_set_ne hni] at h2
        obtain ⟨r, bb⟩ := S.obj n b o h1 h2
        have lv := S.live b (List.mem_of_getElem? h1)
        have ne : b ∉ [a] := fun z => by
          have e : b = a := by simpa using z
          exact S.ne hi h1 hni e.symm
        exact ⟨r.up s.sub ⟨tm, rfl⟩ fun u e => s.keep b u e ne, fun q => s.sep b ⟨lv, r.ntup q⟩ (bb q) ne⟩
    · rw [List.getElem?_append_right (by omega)] at h1
      rw [List.getElem?_append_right (by simp [← S.len]; omega), List.length_set, ← S.len, List.getElem?_map] at h2
      cases e : l'[n - m.length]? with
      | none => rw [e] at h2; cases h2
      | some o2 =>
        rw [e] at h2
        cases h2
        obtain ⟨r, bb⟩ := S'.obj (n - m.length + 1) b o2 (by simpa using h1) (by simpa using e)
        have r' : OR K (a :: tm) B' H' b o2 := r
        exact ⟨OR.shift1 hi r', fun q => bb (shift1_gone q)⟩
  · rcases List.mem_append.mp hb with z | z
    · exact .inl z
    · exact .inr (new b z)
/-- a def is called with data alone -/
theorem e_call0 {S : Spec3} {X : XK} (h : EvA K ty ρ l fun ds l1 => NoRef ds ∧ S ds [] fun d l' => R (d.shift l1.length) (l1 ++ l'.map (O.shift l1.length))) : EvS K (tCall (P3 K S) [] X ty) ρ l R := fun m B H σ Sr e Q q => by
  refine h m B H σ Sr e _ fun vs m1 B1 H1 ds l1 s1 S1 r1 ⟨hn, h1⟩ => ?_
  rw [List.append_nil]
  refine ⟨[], B1, [], ds, _, ⟨S1.sub, rfl, List.nodup_nil, fun a ha => by simp at ha, fun n a o z => by simp at z⟩, noref_any hn r1, h1, fun v m2 B2 H2 d l2 s2 S2 r2 z => ?_⟩
  obtain ⟨S3, s3⟩ := S1.back0 s2 S2
  refine q v _ _ _ _ _ (s1.trans s3) S3 ?_ z
  rw [← S1.len]
  exact r2.shift
/-- the arguments as the callee sees them -/
def backs (i : Nat) : List D → Option (List D)
  | [] => some []
  | d :: r => match backs i r with
    | none => none
    | some xs => match d with
      | .own n => if n = i then some (.own 0 :: xs) else none
      | .f x => some (.f x :: xs)
      | .sq s => some (.sq s :: xs)
theorem backs_eq (i k : Nat) : ∀ {ds es : List D}, backs i ds = some es → ds = es.map (D.shift1 i k) ∧ ∀ d ∈ es, d = .own 0 ∨ NoRef [d]
  | [], es, h => by
    have e : [] = es := Option.some.inj h
    subst e; exact ⟨rfl, fun _ h => by cases h⟩
  | d :: r, es, h => by
    cases e : backs i r with
    | none =>
      simp only [backs, e] at h
      cases h
    | some gs =>
      simp only [backs, e] at h
      obtain ⟨h1, h2⟩ := backs_eq i k e
      have step : ∀ (x : D), some (x :: gs) = some es → d = x.shift1 i k → (x = .own 0 ∨ NoRef [x]) → (d :: r) = es.map (D.shift1 i k) ∧ ∀ d ∈ es, d = .own 0 ∨ NoRef [d] := fun x hx e1 e2 => by
        have e3 : x :: gs = es := Option.some.inj hx
        subst e3
        refine ⟨by rw [List.map_cons, ← e1, ← h1], fun y hy => ?_⟩
        rcases List.mem_cons.mp hy with rfl | hy
        · exact e2
        · exact h2 y hy
      cases d with
      | own n =>
        simp only at h
        by_cases hn : n = i
        · rw [if_pos hn] at h
          exact step (.own 0) h (by subst hn; rfl) (.inl rfl)
        · rw [if_neg hn] at h; cases h
      | f x => exact step (.f x) h rfl (.inr trivial)
      | sq s => exact step (.sq s) h rfl (.inr trivial)
/-- a def is called with data, and with our own object i as its own 0 -/
theorem e_call1 (i : Nat) {S : Spec3} {X : XK} (h : EvA K ty ρ l fun ds l1 => ∃ o ds', l1[i]? = some o ∧ o.free ∧ backs i ds = some ds' ∧
      S ds' [o] fun d l' => ∃ o' t', l' = o' :: t' ∧ R (d.shift1 i l1.length) (l1.set i (o'.shift1 i l1.length) ++ t'.map (O.shift1 i l1.length))) : EvS K (tCall (P3 K S) [] X ty) ρ l R := fun m B H σ Sr e Q q => by
  refine h m B H σ Sr e _ fun vs m1 B1 H1 ds l1 s1 S1 r1 ⟨o, ds', ho, hf, hbk, h1⟩ => ?_
  obtain ⟨hds, hd⟩ := backs_eq i l1.length hbk
  subst hds
  rw [List.append_nil]
  obtain ⟨a, ha, ro, hb⟩ := S1.get ho
  have pv : ∀ {us : List V} {es : List D}, (∀ d ∈ es, d = .own 0 ∨ NoRef [d]) → Paired (VR K m1 B1) us (es.map (D.shift1 i l1.length)) → Paired (VR K [a] B1) us es := by
    intro us es
    induction es generalizing us with
    | nil => intro _ h; cases h; exact .nil
    | cons d es ih =>
      intro hd h
      cases h with
      | cons h1 h2 =>
        refine .cons ?_ (ih (fun x hx => hd x (List.mem_cons_of_mem _ hx)) h2)
        rcases hd d List.mem_cons_self with rfl | hn
        · obtain ⟨b, e1, e2⟩ := h1
          have e3 : m1[i]? = some b := e2
          rw [ha] at e3; cases e3
          exact ⟨a, e1, rfl⟩
        · cases d with
          | own n => exact hn.elim
          | f d => exact h1
          | sq s => exact h1
  refine ⟨[a], B1, [o], ds', _, ⟨S1.sub, rfl, by simp, fun b hb => ?_, fun n b x z1 z2 => ?_⟩, pv hd r1, h1, fun v m2 B2 H2 d l2 s2 S2 r2 ⟨o', t', e2, z⟩ => ?_⟩
  · have e : b = a := by simpa using hb
    subst e; exact S1.live b (List.mem_of_getElem? ha)
  · have hn : n = 0 := by
      have := (List.getElem?_eq_some_iff.mp z1).1
      simp at this
      exact this
    subst hn
    have e1 : a = b := by simpa using z1
    have e2 : o = x := by simpa using z2
    subst e1 e2
    exact ⟨OR.free_any hf ro, hb⟩
  · subst e2
    obtain ⟨tm, rfl, S3, s3⟩ := S1.back1 ha s2 S2
    refine q v _ _ _ _ _ (s1.trans s3) S3 ?_ z
    rw [← S1.len]
    exact r2.shift1 ha
theorem er_start {N : List Str} {vs : List V} {ds : List D} (h : Paired (VR K m B) vs ds) : ER K m B (L2.start N vs) (st0 N ds) := by
  have hl := pair_len h
  refine ⟨by simp [L2.start, st0, hl], fun i d e => ?_⟩
  unfold st0 at e
  by_cases hi : i < ds.length
  · rw [List.getElem?_append_left (by simpa using hi), List.getElem?_map] at e
    have go : ∀ {vs : List V} {ds : List D} {i : Nat}, Paired (VR K m B) vs ds → (ds[i]?).map some = some (some d) → ∃ v, vs[i]? = some v ∧ VR K m B v d := by
      intro vs ds
      induction ds generalizing vs with
      | nil => intro i _ e; simp at e
      | cons x ds ih =>
        intro i h e
        cases h with
        | cons h1 h2 =>
          cases i with
          | zero => simp at e; subst e; exact ⟨_, rfl, h1⟩
          | succ i => obtain ⟨v, a, b⟩ := ih h2 (by simpa using e); exact ⟨v, by simpa using a, b⟩
    obtain ⟨v, a, b⟩ := go h e
    refine ⟨v, ?_, b⟩
    unfold L2.start
    rw [List.getElem?_append_left (by simpa using (List.getElem?_eq_some_iff.mp a).1), List.getElem?_map, a]
    rfl
  · rw [List.getElem?_append_right (by simpa using hi), List.getElem?_replicate] at e
    split at e <;> simp at e
end
end L3
/-! L3e: operators that serve every kind of value, and what they do in a frame's view -/
namespace L3
open PySem L2
/-! ### operators whatever the operands are -/
section
variable {X : Cx}
theorem OpR.or {f : Value → Value → Sem Value} {r r' : R2} (h : OpR X f r) (h' : OpR X f r') : OpR X f (fun x y H Q => r x y H Q ∨ r' x y H Q) := by
  intro pins s σ H x y v u Q I rx ry q
  rcases q with q | q
  · exact h pins s σ H x y v u Q I rx ry q
  · exact h' pins s σ H x y v u Q I rx ry q
def rAddS : R2 := fun x y H Q => ∃ i j, x = .str i ∧ y = .str j ∧ i.length + j.length ≤ sizeLine ∧ Q (.str (i ++ j)) H
def rAddU (K : PySem.W.Frag) : R2 := fun x y H Q => rI0 (fun i j => .int (i + j)) x y H Q ∨ rAddS x y H Q ∨ rCat x y H Q ∨ rCatA K x y H Q
theorem u_add {K : PySem.W.Frag} (hK : X.K = K) : OpR X (binaryOp .Add) (rAddU K) := by
  subst hK
  exact OpR.or op_add (OpR.or op_add_str (OpR.or op_cat op_catA))
def rMulU : R2 := fun x y H Q => rI CMul (fun i j => .int (i * j)) x y H Q ∨ rRep x y H Q
theorem u_mul : OpR X (binaryOp .Mult) rMulU := OpR.or op_mul op_rep
def rEqU (K : PySem.W.Frag) : R2 := fun x y H Q => rEq x y H Q ∨ rEqD K x y H Q
def rNeU (K : PySem.W.Frag) : R2 := fun x y H Q => rNe x y H Q ∨ rNeD K x y H Q
theorem u_eq {K : PySem.W.Frag} (hK : X.K = K) (hu : X.A.units + 64 < cLine) : OpR X (compareOp .Eq) (rEqU K) := by
  subst hK
  exact OpR.or op_eq (op_eqD hu)
theorem u_ne {K : PySem.W.Frag} (hK : X.K = K) (hu : X.A.units + 64 < cLine) : OpR X (compareOp .NotEq) (rNeU K) := by
  subst hK
  exact OpR.or op_ne (op_neD hu)
/-- x in d, d a dict -/
def rInD (neg : Bool) : R2 := fun y x H Q => ∃ a o, x = .ref a ∧ DGet H a y o ∧ Q (.bl (if neg then !o.isSome else o.isSome)) H
theorem op_inD (hu : X.A.units + 1 < cLine) : OpR X (compareOp .In) (rInD false) := by
  intro pins s σ H y x v u Q I ry rx ⟨a, o, ex, g, q⟩
  subst ex
  obtain rfl : u = Value.ref a := rx
  exact d_in hu I g ry fun s3 I3 => ⟨.bl o.isSome, H, I3, rfl, q⟩
theorem op_notInD (hu : X.A.units + 1 < cLine) : OpR X (compareOp .NotIn) (rInD true) := by
  intro pins s σ H y x v u Q I ry rx ⟨a, o, ex, g, q⟩
  subst ex
  obtain rfl : u = Value.ref a := rx
  exact d_notIn hu I g ry fun s3 I3 => ⟨.bl (!o.isSome), H, I3, rfl, q⟩
/-- x in xs, data of any depth -/
def rInP (K : PySem.W.Frag) (neg : Bool) : R2 := fun x y H Q => ∃ d ds, Dp K H x d ∧ (Dp K H y (.list ds) ∨ Dp K H y (.tuple ds)) ∧ SeqAt.shaped d = true ∧ PyData.canLayAll0 ds = true ∧
  Q (.bl (if neg then !(ds.any fun e => PyData.eqv e d) else ds.any fun e => PyData.eqv e d)) H
theorem room_p {A : Around} {xs : List PyData} {d : PyData} (hd : SeqAt.shaped d = true) (hu : A.units + 65 < cLine) : A.units + 1 + min (PyData.depthAll xs) d.depth < cLine := by
  have h1 := SeqAt.depth_of_shaped hd
  have h2 : min (PyData.depthAll xs) d.depth ≤ d.depth := Nat.min_le_right _ _
  omega
theorem op_inP (hu : X.A.units + 65 < cLine) : OpR X (compareOp .In) (rInP X.K false) := by
  intro pins s σ H x y v u Q I rx ry ⟨d, ds, hd, hs, h1, h2, q⟩
  obtain ⟨as, r1⟩ := Dp.reads I d x v hd rx
  rcases hs with hs | hs
  · obtain ⟨bs, r2⟩ := Dp.reads I _ y u hs ry
    exact SeqAt.in_list_reads r2 r1 h2 (SeqAt.canLay_of_shaped h1) (room_p h1 hu) ⟨.bl _, H, I, rfl, q⟩
  · obtain ⟨bs, r2⟩ := Dp.reads I _ y u hs ry
    exact SeqAt.in_tuple_reads r2 r1 h2 (SeqAt.canLay_of_shaped h1) (room_p h1 hu) ⟨.bl _, H, I, rfl, q⟩
theorem op_notInP (hu : X.A.units + 65 < cLine) : OpR X (compareOp .NotIn) (rInP X.K true) := by
  intro pins s σ H x y v u Q I rx ry ⟨d, ds, hd, hs, h1, h2, q⟩
  obtain ⟨as, r1⟩ := Dp.reads I d x v hd rx
  rcases hs with hs | hs
  · obtain ⟨bs, r2⟩ := Dp.reads I _ y u hs ry
    exact SeqAt.notIn_list_reads r2 r1 h2 (SeqAt.canLay_of_shaped h1) (room_p h1 hu) ⟨.bl _, H, I, rfl, q⟩
  · obtain ⟨bs, r2⟩ := Dp.reads I _ y u hs ry
    exact SeqAt.notIn_tuple_reads r2 r1 h2 (SeqAt.canLay_of_shaped h1) (room_p h1 hu) ⟨.bl _, H, I, rfl, q⟩
def rInS (neg : Bool) : R2 := fun x y H Q => ∃ i j, x = .str i ∧ y = .str j ∧ Q (.bl (if neg then !(!(Builtin.Str.occurrences j i 0 j.length 1).isEmpty) else !(Builtin.Str.occurrences j i 0 j.length 1).isEmpty)) H
def rInU (K : PySem.W.Frag) (neg : Bool) : R2 := fun x y H Q => rIn K neg x y H Q ∨ rInD neg x y H Q ∨ rInP K neg x y H Q ∨ rInS neg x y H Q
theorem u_in {K : PySem.W.Frag} (hK : X.K = K) (hu : X.A.units + 65 < cLine) : OpR X (compareOp .In) (rInU K false) := by
  subst hK
  exact OpR.or op_in_seq (OpR.or (op_inD (by omega)) (OpR.or (op_inP hu) op_in_str))
theorem u_notIn {K : PySem.W.Frag} (hK : X.K = K) (hu : X.A.units + 65 < cLine) : OpR X (compareOp .NotIn) (rInU K true) := by
  subst hK
  exact OpR.or op_notIn_seq (OpR.or (op_notInD (by omega)) (OpR.or (op_notInP hu) op_notIn_str))
/-- d[y] as a subscript -/
def rIxD : R2 := fun x y H Q => ∃ a v, x = .ref a ∧ DGet H a y (some v) ∧ Q v H
theorem ix_dict (hu : X.A.units + 1 < cLine) : IxR X rIxD := by
  intro value slice pins s σ H x y v u Q I rx ry ⟨a, w, ex, g, q⟩ hs
  subst ex
  obtain rfl : v = Value.ref a := rx
  exact PyProof.Rows.tail_any (dict_typeIs I g) PySem.F.slot_dict_getitem.lookup (d_getItem hu I g ry fun w' s3 I3 rw' => ⟨w, H, I3, rw', q⟩) hs
def rIxU (K : PySem.W.Frag) : R2 := fun x y H Q => rIx K x y H Q ∨ rIxD x y H Q
theorem u_ix {K : PySem.W.Frag} (hK : X.K = K) (hu : X.A.units + 1 < cLine) : IxR X (rIxU K) := by
  subst hK
  exact ix_seq.or (ix_dict hu)
/-- len of a list, a tuple, a text, a dict -/
def rLenU (K : PySem.W.Frag) : List V → Hp → VK → Prop := fun xs H Q => (∃ p ys, xs = [.ref p] ∧ (SqL K H p ys ∨ SqT K H p ys) ∧ Q (.int ys.length) H) ∨ (∃ z, xs = [.str z] ∧ z.length ≤ sizeLine ∧ Q (.int z.length) H) ∨ ∃ a kvs, xs = [V.ref a] ∧ H a = some (.dK kvs) ∧ Q (.int kvs.length) H
theorem u_len {K : PySem.W.Frag} (hK : X.K = K) : CallR X (.builtin "len") (rLenU K) := by
  subst hK
  exact CallR.or call_len_seq (CallR.or call_len_str call_lenD)
end
/-! ### in a frame's view -/
section
variable {K : PySem.W.Frag} {m m' m2 : List Addr} {B B' B2 H H' H2 : Hp} {l : List O} {σ : St} {ρ : List (Option D)} {R R' : D → List O → Prop} {E E' : E3} {ta tb te tc : TE} {tt tu : TT} {t u : TS} {ty tz : TA} {g : TG} {gs : TGs}
/-- x is a list of the data ds | a list or a tuple -/
def IsL (l : List O) (x : D) (ds : List PyData) : Prop := x = .f (.list ds) ∨ ∃ n, x = .own n ∧ l[n]? = some (.lst ds)
def IsQ (l : List O) (x : D) (ds : List PyData) : Prop := IsL l x ds ∨ x = .f (.tuple ds)
theorem IsL.at (S : SR K m B H l) {v : V} {x : D} {ds : List PyData} (r : VR K m B v x) (h : IsL l x ds) : ∃ a xs, v = .ref a ∧ H a = some (.lst xs) ∧ FRs K B xs ds := by
  rcases h with rfl | ⟨n, rfl, hn⟩
  · cases r with
    | lst h1 h2 => exact ⟨_, _, rfl, S.sub _ _ h1, h2⟩
  · obtain ⟨a, rfl, ha⟩ := r
    obtain ⟨⟨xs, e, q⟩, _⟩ := S.obj n a _ ha hn
    exact ⟨a, xs, rfl, e, q⟩
theorem IsQ.at (S : SR K m B H l) {v : V} {x : D} {ds : List PyData} (r : VR K m B v x) (h : IsQ l x ds) : ∃ a xs, v = .ref a ∧ (SqL K H a xs ∨ SqT K H a xs) ∧ FRs K B xs ds := by
  rcases h with h | rfl
  · obtain ⟨a, xs, e, e1, q⟩ := h.at S r
    exact ⟨a, xs, e, .inl (SqL.of e1), q⟩
  · cases r with
    | tup h1 h2 => exact ⟨_, _, rfl, .inr (sqT_same S.sub h1.sq), h2⟩
/-- what a frame's view of a value is as plain data -/
def Asd (l : List O) (x : D) (d : PyData) : Prop := x = .f d ∨ (∃ n ds, x = .own n ∧ l[n]? = some (.lst ds) ∧ d = .list ds)
theorem nod_s {d : PyData} (h : SeqAt.shaped d = true) : d.hasDict = false := PyData.hasDict_of_canLay d (SeqAt.canLay_of_shaped h)
theorem nod_l {ds : List PyData} (h : PyData.canLayAll0 ds = true) : PyData.hasDict (.list ds) = false := PyData.hasDict_of_canLay (.list ds) (by simpa [PyData.canLay0] using h)
theorem nod_t {ds : List PyData} (h : PyData.canLayAll0 ds = true) : PyData.hasDict (.tuple ds) = false := PyData.hasDict_of_canLay (.tuple ds) (by simpa [PyData.canLay0] using h)
theorem Asd.dp (S : SR K m B H l) {v : V} {x : D} {d : PyData} (r : VR K m B v x) (h : Asd l x d) (nd : d.hasDict = false) : Dp K H v d := by
  rcases h with rfl | ⟨n, ds, rfl, hn, rfl⟩
  · exact FR.dp d v nd (FR.same S.sub d v r)
  · obtain ⟨a, xs, rfl, e, q⟩ := (show IsL l (.own n) ds from .inr ⟨n, rfl, hn⟩).at S r
    exact .lst (SqL.of e) (FRs.dp ds xs (by simpa [PyData.hasDict] using nd) (FRs.same S.sub ds xs q))
theorem ret0 {Q : VK} {v : V} {d : D} (S : SR K m B H l) (q : Post K m B H R Q) (r : VR K m B v d) (z : R d l) : Q v H := q v m B H d l (Step.refl _ _ _) S r z
theorem retF {Q : VK} {v : V} {d : PyData} (S : SR K m B H l) (q : Post K m B H R Q) (r : FR K B v d) (z : R (.f d) l) : Q v H := q v m B H (.f d) l (Step.refl _ _ _) S r z
/-- a new list | the same, left as it is -/
theorem retL {Q : VK} {xs : List V} {ds : List PyData} {p : Addr} (S : SR K m B H l) (q : Post K m B H R Q) (hp : H p = none) (r : FRs K B xs ds) (z : R (.own l.length) (l ++ [.lst ds])) : Q (.ref p) (upd H p (.lst xs)) := by
  obtain ⟨S2, s2, r2⟩ := S.alloc (u := .lst xs) (o := .lst ds) hp ⟨xs, upd_same, r⟩
  exact q _ _ _ _ _ _ s2 S2 r2 z
theorem retLF {Q : VK} {xs : List V} {ds : List PyData} {p : Addr} (S : SR K m B H l) (q : Post K m B H R Q) (hp : H p = none) (r : FRs K B xs ds) (z : R (.f (.list ds)) l) : Q (.ref p) (upd H p (.lst xs)) := by
  obtain ⟨S2, s2, e2⟩ := S.allocF (u := .lst xs) hp
  exact q _ m _ _ (.f (.list ds)) l s2 S2 (FR.lst e2 (FRs.same s2.sub ds xs r)) z
theorem retT {Q : VK} {xs : List V} {ds : List PyData} {p : Addr} (S : SR K m B H l) (q : Post K m B H R Q) (hp : H p = none) (r : FRs K B xs ds) (z : R (.f (.tuple ds)) l) : Q (.ref p) (upd H p (.tup xs)) := by
  obtain ⟨S2, s2, e2⟩ := S.allocF (u := .tup xs) hp
  exact q _ m _ _ (.f (.tuple ds)) l s2 S2 (FR.tup (.inl e2) (FRs.same s2.sub ds xs r)) z
/-! operators -/
theorem o_I0i {g : Int → Int → Int} {i j : Int} (z : R (.f (.int (g i j))) l) : OpS K (rI0 fun i j => .int (g i j)) (.f (.int i)) (.f (.int j)) l R := fun m B H vx vy S r1 r2 Q q =>
  ⟨i, j, int_of r1, int_of r2, retF S q (FR.int _) z⟩
theorem o_I0b {g : Int → Int → Bool} {i j : Int} (z : R (.f (.bool (g i j))) l) : OpS K (rI0 fun i j => .bl (g i j)) (.f (.int i)) (.f (.int j)) l R := fun m B H vx vy S r1 r2 Q q =>
  ⟨i, j, int_of r1, int_of r2, retF S q (FR.bl _) z⟩
theorem o_Ii {C : Int → Int → Prop} {g : Int → Int → Int} {i j : Int} (hc : C i j) (z : R (.f (.int (g i j))) l) : OpS K (rI C fun i j => .int (g i j)) (.f (.int i)) (.f (.int j)) l R := fun m B H vx vy S r1 r2 Q q =>
  ⟨i, j, int_of r1, int_of r2, hc, retF S q (FR.int _) z⟩
theorem o_addI {i j : Int} (z : R (.f (.int (i + j))) l) : OpS K (rAddU K) (.f (.int i)) (.f (.int j)) l R := fun m B H vx vy S r1 r2 Q q => .inl (o_I0i z m B H vx vy S r1 r2 Q q)
theorem o_addS {x y : Str} (hl : x.length + y.length ≤ 100000) (z : R (.f (.str (x ++ y))) l) : OpS K (rAddU K) (.f (.str x)) (.f (.str y)) l R := fun m B H vx vy S r1 r2 Q q =>
  .inr (.inl ⟨x, y, str_of r1, str_of r2, small hl, retF S q (FR.str _) z⟩)
theorem o_addL {x y : D} {ds es : List PyData} (h1 : IsL l x ds) (h2 : IsL l y es) (hl : ds.length + es.length ≤ 100000) (z : R (.own l.length) (l ++ [.lst (ds ++ es)])) : OpS K (rAddU K) x y l R := fun m B H vx vy S r1 r2 Q q => by
  obtain ⟨a, xs, e1, e2, q1⟩ := h1.at S r1
  obtain ⟨b, ys, e3, e4, q2⟩ := h2.at S r2
  refine .inr (.inr (.inl ⟨a, b, xs, ys, e1, e3, e2, e4, by rw [q1.length, q2.length]; exact small hl, fun p hp => ?_⟩))
  exact retL S q hp (q1.append q2) z
theorem o_mulI {i j : Int} (hc : CMul i j) (z : R (.f (.int (i * j))) l) : OpS K rMulU (.f (.int i)) (.f (.int j)) l R := fun m B H vx vy S r1 r2 Q q => .inl (o_Ii hc z m B H vx vy S r1 r2 Q q)
theorem o_eqI {i j : Int} (z : R (.f (.bool (decide (i = j)))) l) : OpS K (rEqU K) (.f (.int i)) (.f (.int j)) l R := fun m B H vx vy S r1 r2 Q q => by
  refine .inl ?_
  rw [int_of r1, int_of r2]
  refine ⟨rfl, ?_⟩
  have e : decide (V.int i = V.int j) = decide (i = j) := decide_eq_decide.mpr ⟨fun h => V.int.inj h, fun h => by rw [h]⟩
  rw [e]
  exact retF S q (FR.bl _) z
theorem o_eqS {i j : Str} (z : R (.f (.bool (decide (i = j)))) l) : OpS K (rEqU K) (.f (.str i)) (.f (.str j)) l R := fun m B H vx vy S r1 r2 Q q => by
  refine .inl ?_
  rw [str_of r1, str_of r2]
  refine ⟨rfl, ?_⟩
  have e : decide (V.str i = V.str j) = decide (i = j) := decide_eq_decide.mpr ⟨fun h => V.str.inj h, fun h => by rw [h]⟩
  rw [e]
  exact retF S q (FR.bl _) z
theorem o_neI {i j : Int} (z : R (.f (.bool (!decide (i = j)))) l) : OpS K (rNeU K) (.f (.int i)) (.f (.int j)) l R := fun m B H vx vy S r1 r2 Q q => by
  refine .inl ?_
  rw [int_of r1, int_of r2]
  refine ⟨rfl, ?_⟩
  have e : decide (V.int i = V.int j) = decide (i = j) := decide_eq_decide.mpr ⟨fun h => V.int.inj h, fun h => by rw [h]⟩
  rw [e]
  exact retF S q (FR.bl _) z
theorem o_neS {i j : Str} (z : R (.f (.bool (!decide (i = j)))) l) : OpS K (rNeU K) (.f (.str i)) (.f (.str j)) l R := fun m B H vx vy S r1 r2 Q q => by
  refine .inl ?_
  rw [str_of r1, str_of r2]
  refine ⟨rfl, ?_⟩
  have e : decide (V.str i = V.str j) = decide (i = j) := decide_eq_decide.mpr ⟨fun h => V.str.inj h, fun h => by rw [h]⟩
  rw [e]
  exact retF S q (FR.bl _) z
/-! in -/
def sPy (xs : List Str) : List PyData := xs.map .str
theorem frs_str : ∀ {vs : List V} {xs : List Str}, FRs K B vs (sPy xs) → vs = xs.map V.str
  | _, [], h => by cases h; rfl
  | _, x :: xs, h => by
    cases h with
    | cons h1 h2 =>
      cases h1
      rw [frs_str (xs := xs) h2]; rfl
theorem inV_str (x : Str) (xs : List Str) : inV (.str x) (xs.map V.str) = decide (x ∈ xs) := by
  unfold inV
  rw [List.any_map]
  induction xs with
  | nil => simp
  | cons y ys ih =>
    rw [List.any_cons, ih]
    have e : ((fun z => eqV z (V.str x)) ∘ V.str) y = decide (y = x) := by
      show (y == x) = _
      by_cases h : y = x
      · subst h; simp
      · rw [decide_eq_false h]; exact beq_eq_false_iff_ne.mpr h
    rw [e]
    by_cases h : x = y
    · subst h; simp
    · have h' : ¬ y = x := fun e => h e.symm
      simp [h, h']
theorem flat_str (xs : List Str) : (xs.map V.str).all flatV = true := by
  induction xs with
  | nil => rfl
  | cons x xs ih => rw [List.map_cons, List.all_cons, ih]; rfl
theorem o_inQS {neg : Bool} {x : Str} {y : D} {xs : List Str} (h : IsQ l y (sPy xs)) (z : R (.f (.bool (if neg then !decide (x ∈ xs) else decide (x ∈ xs)))) l) : OpS K (rInU K neg) (.f (.str x)) y l R := fun m B H vx vy S r1 r2 Q q => by
  obtain ⟨a, us, e1, e2, q1⟩ := h.at S r2
  have eu := frs_str q1
  subst eu
  refine .inl ⟨a, _, e1, e2, by rw [str_of r1]; rfl, flat_str xs, ?_⟩
  rw [str_of r1, inV_str]
  exact retF S q (FR.bl _) z
theorem o_inP {neg : Bool} {x y : D} {d : PyData} {ds : List PyData} (h1 : Asd l x d) (h : IsQ l y ds) (s1 : SeqAt.shaped d = true) (s2 : PyData.canLayAll0 ds = true)
    (z : R (.f (.bool (if neg then !(ds.any fun e => PyData.eqv e d) else ds.any fun e => PyData.eqv e d))) l) : OpS K (rInU K neg) x y l R := fun m B H vx vy S r1 r2 Q q => by
  refine .inr (.inr (.inl ⟨d, ds, h1.dp S r1 (nod_s s1), ?_, s1, s2, retF S q (FR.bl _) z⟩))
  rcases h with h | rfl
  · refine .inl ?_
    rcases h with rfl | ⟨n, rfl, hn⟩
    · exact (show Asd l (.f (.list ds)) (.list ds) from .inl rfl).dp S r2 (nod_l s2)
    · exact (show Asd l (.own n) (.list ds) from .inr ⟨n, ds, rfl, hn, rfl⟩).dp S r2 (nod_l s2)
  · exact .inr ((show Asd l (.f (.tuple ds)) (.tuple ds) from .inl rfl).dp S r2 (nod_t s2))
/-! dicts: keys by value -/
def keyD : Key → PyData
  | .inl i => .int i
  | .inr x => .str x
theorem kv_of {v : V} {k : Key} (h : FR K B v (keyD k)) : v = kV k := by
  cases k with
  | inl i => cases h; rfl
  | inr x => cases h; rfl
def lookD {κ : Type} [DecidableEq κ] (kvs : List (κ × PyData)) (k : κ) : Option PyData := (kvs.find? fun p => decide (p.1 = k)).map (·.2)
theorem look_of {κ : Type} [DecidableEq κ] {ks : List (κ × V)} {kvs : List (κ × PyData)} (h : Paired (fun (p : κ × V) (q : κ × PyData) => p.1 = q.1 ∧ FR K B p.2 q.2) ks kvs) (k : κ) :
    (valV ks k = none ∧ lookD kvs k = none) ∨ ∃ v d, valV ks k = some v ∧ lookD kvs k = some d ∧ FR K B v d := by
  induction h with
  | nil => exact .inl ⟨rfl, rfl⟩
  | @cons p q ps qs h t ih =>
    by_cases e : p.1 = k
    · refine .inr ⟨p.2, q.2, valV_pos e, ?_, h.2⟩
      unfold lookD
      rw [List.find?_cons, decide_eq_true (h.1.symm.trans e)]
      rfl
    · have e' : ¬ q.1 = k := fun z => e (h.1.trans z)
      rw [valV_neg e]
      have : lookD (q :: qs) k = lookD qs k := by
        unfold lookD
        rw [List.find?_cons, decide_eq_false e']
      rw [this]
      exact ih
theorem o_inDk {neg : Bool} {n : Nat} {k : Key} {kvs : List (Key × PyData)} (h : l[n]? = some (.dct kvs)) (z : R (.f (.bool (if neg then !(lookD kvs k).isSome else (lookD kvs k).isSome))) l) : OpS K (rInU K neg) (.f (keyD k)) (.own n) l R := fun m B H vx vy S r1 r2 Q q => by
  obtain ⟨a, rfl, ha⟩ := r2
  obtain ⟨⟨ks, e, pr⟩, _⟩ := S.obj n a _ ha h
  rw [kv_of (k := k) r1]
  refine .inr (.inl ⟨a, _, rfl, DGet.k e, ?_⟩)
  have e3 : (valV ks k).isSome = (lookD kvs k).isSome := by
    rcases look_of pr k with ⟨e1, e2⟩ | ⟨v, d, e1, e2, _⟩ <;> rw [e1, e2] <;> rfl
  rw [e3]
  exact retF S q (FR.bl _) z
theorem o_ixDk {n : Nat} {k : Key} {d : PyData} {kvs : List (Key × PyData)} (h : l[n]? = some (.dct kvs)) (hk : lookD kvs k = some d) (z : R (.f d) l) : OpS K (rIxU K) (.own n) (.f (keyD k)) l R := fun m B H vx vy S r1 r2 Q q => by
  obtain ⟨a, rfl, ha⟩ := r1
  obtain ⟨⟨ks, e, pr⟩, _⟩ := S.obj n a _ ha h
  rw [kv_of (k := k) r2]
  rcases look_of pr k with ⟨e1, e2⟩ | ⟨v, d', e1, e2, r⟩
  · rw [hk] at e2; cases e2
  · rw [hk] at e2; cases e2
    exact .inr ⟨a, v, rfl, by rw [← e1]; exact DGet.k e, ret0 S q (show VR K m B v (.f d) from r) z⟩
/-! subscripts -/
theorem frs_at {vs : List V} {ds : List PyData} {i : Int} {d : PyData} (h : FRs K B vs ds) (e : atI ds i = some d) : ∃ v, atI vs i = some v ∧ FR K B v d := by
  unfold atI at e ⊢
  rw [h.length]
  cases e2 : ixN ds.length i with
  | none => rw [e2] at e; cases e
  | some j =>
    rw [e2] at e
    exact h.get e
theorem o_ixQ {x : D} {ds : List PyData} {i : Int} {d : PyData} (h : IsQ l x ds) (hd : atI ds i = some d) (z : R (.f d) l) : OpS K (rIxU K) x (.f (.int i)) l R := fun m B H vx vy S r1 r2 Q q => by
  obtain ⟨a, us, e1, e2, q1⟩ := h.at S r1
  obtain ⟨v, ev, rv⟩ := frs_at q1 hd
  have fin := ret0 (d := .f d) S q rv z
  rcases e2 with e2 | e2
  · exact .inl (.inl ⟨a, us, i, v, e1, int_of r2, e2, ev, fin⟩)
  · exact .inl (.inr (.inl ⟨a, us, i, v, e1, int_of r2, e2, ev, fin⟩))
theorem o_ixSq {s : List Int} {i : Int} {k : Int} (hd : atI s i = some k) (z : R (.f (.int k)) l) : OpS K (rIxU K) (.sq s) (.f (.int i)) l R := fun m B H vx vy S r1 r2 Q q => by
  obtain ⟨a, e, h⟩ := r1
  have h' := S.sub.seq h
  have ev : atI (s.map V.int) i = some (.int k) := by
    unfold atI at hd ⊢
    rw [List.length_map]
    cases e2 : ixN s.length i with
    | none => rw [e2] at hd; cases hd
    | some j =>
      rw [e2] at hd
      show (s.map V.int)[j]? = _
      rw [List.getElem?_map, show s[j]? = some k from hd]
      rfl
  exact .inl (.inl ⟨a, _, i, .int k, e, int_of r2, h', ev, retF S q (FR.int k) z⟩)
theorem pair_get : ∀ {vs : List V} {ds : List D} {j : Nat} {d : D}, Paired (VR K m B) vs ds → ds[j]? = some d → ∃ v, vs[j]? = some v ∧ VR K m B v d
  | _, [], _, _, h, e => by simp at e
  | _, _ :: _, 0, _, h, e => by
    cases h with
    | cons h1 h2 => simp at e; subst e; exact ⟨_, rfl, h1⟩
  | _, _ :: _, j + 1, _, h, e => by
    cases h with
    | cons h1 h2 =>
      obtain ⟨v, a, b⟩ := pair_get (j := j) h2 (by simpa using e)
      exact ⟨v, by simpa using a, b⟩
theorem pair_at {vs : List V} {ds : List D} {i : Int} {d : D} (h : Paired (VR K m B) vs ds) (e : atI ds i = some d) : ∃ v, atI vs i = some v ∧ VR K m B v d := by
  unfold atI at e ⊢
  rw [pair_len h]
  cases e2 : ixN ds.length i with
  | none => rw [e2] at e; cases e
  | some j =>
    rw [e2] at e
    exact pair_get h e
theorem o_ixR {n : Nat} {ds : List D} {i : Int} {d : D} (h : l[n]? = some (.rfs ds)) (hd : atI ds i = some d) (z : R d l) : OpS K (rIxU K) (.own n) (.f (.int i)) l R := fun m B H vx vy S r1 r2 Q q => by
  obtain ⟨a, rfl, ha⟩ := r1
  obtain ⟨⟨xs, e, pr⟩, _⟩ := S.obj n a _ ha h
  obtain ⟨v, ev, rv⟩ := pair_at pr hd
  exact .inl (.inl ⟨a, xs, i, v, rfl, int_of r2, SqL.of e, ev, ret0 S q rv z⟩)
theorem o_ixS {x : Str} {i : Int} {c : Nat} (hl : x.length ≤ 100000) (hd : atI x.cps.toList i = some c) (z : R (.f (.str ⟨#[c]⟩)) l) : OpS K (rIxU K) (.f (.str x)) (.f (.int i)) l R := fun m B H vx vy S r1 r2 Q q =>
  .inl (.inr (.inr ⟨x, i, c, str_of r1, int_of r2, small hl, hd, retF S q (FR.str _) z⟩))
/-! len -/
theorem c_lenQ {x : D} {ds : List PyData} (h : IsQ l x ds) (z : R (.f (.int ds.length)) l) : CaS K (rLenU K) [x] l R := fun m B H vs S r Q q => by
  cases r with
  | cons r1 r2 =>
    cases r2
    obtain ⟨a, us, e1, e2, q1⟩ := h.at S r1
    refine .inl ⟨a, us, by rw [e1], e2, ?_⟩
    rw [q1.length]
    exact retF S q (FR.int _) z
theorem c_lenS {x : Str} (hl : x.length ≤ 100000) (z : R (.f (.int x.length)) l) : CaS K (rLenU K) [.f (.str x)] l R := fun m B H vs S r Q q => by
  cases r with
  | cons r1 r2 =>
    cases r2
    exact .inr (.inl ⟨x, by rw [str_of r1], small hl, retF S q (FR.int _) z⟩)
theorem c_lenSq {s : List Int} (z : R (.f (.int s.length)) l) : CaS K (rLenU K) [.sq s] l R := fun m B H vs S r Q q => by
  cases r with
  | cons r1 r2 =>
    cases r2
    obtain ⟨a, e, h⟩ := r1
    refine .inl ⟨a, _, by rw [e], .inl (S.sub.seq h), ?_⟩
    rw [List.length_map]
    exact retF S q (FR.int _) z
theorem c_lenD {n : Nat} {kvs : List (Key × PyData)} (h : l[n]? = some (.dct kvs)) (z : R (.f (.int kvs.length)) l) : CaS K (rLenU K) [.own n] l R := fun m B H vs S r Q q => by
  cases r with
  | cons r1 r2 =>
    cases r2
    obtain ⟨a, e1, ha⟩ := r1
    obtain ⟨⟨ks, e, pr⟩, _⟩ := S.obj n a _ ha h
    refine .inr (.inr ⟨a, ks, by rw [e1], e, ?_⟩)
    rw [pr.length]
    exact retF S q (FR.int _) z
end
end L3
/-! L3f: what is walked, methods, slices, built-in calls -/
namespace L3
open PySem L2
/-! ### a list or a tuple is walked -/
section
variable {X : Cx} {tg : Expr}
def iSeq (K : PySem.W.Frag) (tl : TE) : TI := fun σ H R => tl σ H fun x H1 => ∃ a, x = .ref a ∧ (((∃ xs, SqL K H1 a xs) ∧ R (Itl K a) H1) ∨ ((∃ xs, SqT K H1 a xs) ∧ R (Itt K a) H1))
theorem u_seq {K : PySem.W.Frag} (hK : X.K = K) {e : Expr} {tl : TE} (he : PE X e tl) : PI X tg e (iSeq K tl) := by
  subst hK
  refine ⟨fun pins st σ H R I h => thn (he.run pins st σ H _ I h) fun v s1 ⟨x, H1, I1, r1, a, ex, q1⟩ => ?_⟩
  subst ex
  cases r1
  have fp : ∀ b ∈ [s1.heap.objs.size], FpOk X pins H1 b := fun b hb => by
    have eb : b = s1.heap.objs.size := by simpa using hb
    rw [eb]
    exact I1.fpOk (Nat.le_refl _) (I1.hok.fresh (Nat.le_refl _))
  rcases q1 with ⟨⟨xs, hq⟩, q1⟩ | ⟨⟨xs, hq⟩, q1⟩
  · obtain ⟨its, _, pl, _⟩ := I1.list hq
    exact wpAny_pyIter_list pl.isList ⟨_, _, _, _, H1, rfl, I1.kept (t' := s1.toks) fun _ _ z => Heap.get?_push_of_some _ z, turn_list a _, ⟨_, Heap.get?_push_size _ rfl, rfl, rfl⟩, fp, q1⟩
  · obtain ⟨its, _, pl, _⟩ := I1.tuple hq
    exact wpAny_pyIter_tuple (show s1.heap.IsTuple a its.toArray from pl) ⟨_, _, _, _, H1, rfl, I1.kept (t' := s1.toks) fun _ _ z => Heap.get?_push_of_some _ z, turn_tuple a _, ⟨_, Heap.get?_push_size _ rfl, rfl, rfl⟩, fp, q1⟩
/-- slices of lists, texts, tuples (a tuple's not the whole) -/
def rSlU (K : PySem.W.Frag) : V → Option Int → Option Int → Hp → VK → Prop := fun x lo hi H Q => rSlL K x lo hi H Q ∨ rSlS x lo hi H Q ∨ rSlT K x lo hi H Q
theorem u_sl {K : PySem.W.Frag} (hK : X.K = K) : SlR X (rSlU K) := by
  subst hK
  exact SlR.or sl_list (SlR.or sl_str sl_tup)
theorem u_tup {K : PySem.W.Frag} (hK : X.K = K) {es : List Expr} {k : Nat} {t : TGs} {n : Nat} {pos : Pos} (hc : X.calm = true) (h : PGs X es t)
    (hn : (assignEach es X.env).length = n := by rfl) (hst : (assignEach es X.env).findIdx? (·.1) = none := by rfl) : PG X (.Tuple es k pos) (gTup K n t) := by
  subst hK
  exact pg_tup hc h hn hst
theorem u_bm {K : PySem.W.Frag} (hK : X.K = K) {o e : Expr} {es : List Expr} {to : TE} {t : TA} {name : Str} {apos cpos : Pos} {T id : String} {r : V → List V → Hp → VK → Prop} (pa : PlainAttrs T) (slot : Slot T name id) (hty : typeOf (.builtin id) = pure (.type "method_descriptor")) (hm : MtR X id r) (ho : PE X o to) (ha : PA X (e :: es) t)
    (hbase : attributeBase o name X.env (eval o X.env) = eval o X.env := by rfl)
    (hfew : ((backTo cpos (starEach (e :: es) X.env)).all (fun x => !x.1) && (backToKw cpos (keywordEach [] X.env)).all (fun x => x.1.isSome)
      && decide ((e :: es).length + ([] : List Keyword).length + (if ([] : List Keyword).isEmpty then 0 else 1) < 30)) = true := by rfl)
    (hline : (apos.endLine == cpos.line) = true := by rfl) (hs : starEach (e :: es) X.env = (false, eval e X.env) :: starEach es X.env := by rfl) (hplain : (backTo cpos (starEach es X.env)).any (·.1) = false := by rfl) :
    PE X (.Call (.Attribute o name apos) (e :: es) [] cpos) (tBM K T r to t) := by
  subst hK
  exact pe_bm pa slot hty hm ho ha hbase hfew hline hs hplain
end
section
variable {K : PySem.W.Frag} {m m' m2 : List Addr} {B B' B2 H H' H2 : Hp} {l : List O} {σ : St} {ρ : List (Option D)} {R R' : D → List O → Prop} {E E' : E3} {ta tb te tc tl : TE} {tt tu : TT} {t u : TS} {ty tz : TA} {g : TG} {gs : TGs}
theorem itok_list {a : Addr} {xs : List V} {x : D} {ds : List PyData} (hx : VR K m B (.ref a) x) : (∀ l', IsL l' x ds → True) → ItOk K m B (Itl K a) (fun l' => IsL l' x ds) ds.length (fun i => .f (ds.getD i .none)) := fun _ i m' B' H' l' hs hp S P => by
  obtain ⟨a', us, e1, e2, q⟩ := P.at S (hx.up hs hp)
  cases e1
  have hl := q.length
  refine ⟨fun hi => ?_, fun hi => ⟨us, SqL.of e2, by omega⟩⟩
  have hd : ds[i]? = some ds[i] := by simp [hi]
  obtain ⟨v, hv, rv⟩ := q.get hd
  refine ⟨⟨us, v, SqL.of e2, hv⟩, fun y H3 ⟨eH, hy⟩ => ?_⟩
  subst eH
  have := hy us (SqL.of e2)
  rw [hv] at this; cases this
  refine ⟨B', Step.refl _ _ _, S, ?_⟩
  show FR K B' v (ds.getD i .none)
  rw [List.getD_eq_getElem?_getD, hd]
  exact rv
theorem itok_tup {a : Addr} {ds : List PyData} (hx : VR K m B (.ref a) (.f (.tuple ds))) : ItOk K m B (Itt K a) (fun l' => True) ds.length (fun i => .f (ds.getD i .none)) := fun i m' B' H' l' hs hp S _ => by
  have hx' := hx.up hs hp
  cases hx' with
  | @tup _ us _ h1 q =>
    have h1' := sqT_same S.sub h1.sq
    have hl := q.length
    refine ⟨fun hi => ?_, fun hi => ⟨us, h1', by omega⟩⟩
    have hd : ds[i]? = some ds[i] := by simp [hi]
    obtain ⟨v, hv, rv⟩ := q.get hd
    refine ⟨⟨us, v, h1', hv⟩, fun y H3 ⟨eH, hy⟩ => ?_⟩
    subst eH
    have := hy us h1'
    rw [hv] at this; cases this
    refine ⟨B', Step.refl _ _ _, S, ?_⟩
    show FR K B' v (ds.getD i .none)
    rw [List.getD_eq_getElem?_getD, hd]
    exact rv
theorem i_seq {R : (List O → Prop) → Nat → (Nat → D) → List O → Prop} (h : EvS K tl ρ l fun x l1 => ∃ ds, IsQ l1 x ds ∧ R (fun l' => IsQ l' x ds) ds.length (fun i => .f (ds.getD i .none)) l1) : EvI K (iSeq K tl) ρ l R := fun m B H σ S e Rt q => by
  refine h m B H σ S e _ fun v m1 B1 H1 x l1 s1 S1 r1 ⟨ds, hq, z⟩ => ?_
  rcases hq with hL | rfl
  · obtain ⟨a, us, rfl, e2, qq⟩ := hL.at S1 r1
    refine ⟨a, rfl, .inl ⟨⟨us, SqL.of e2⟩, q (Itl K a) m1 B1 H1 l1 _ _ _ s1 S1 (fun i m' B' H' l' hs hp S' P => ?_) z⟩⟩
    have P' : IsL l' x ds := by
      rcases P with P | rfl
      · exact P
      · rcases hL with e | ⟨n, e, _⟩ <;> cases e
    exact itok_list (xs := us) r1 (fun _ _ => trivial) i m' B' H' l' hs hp S' P'
  · obtain ⟨a, us, rfl, e2, qq⟩ := (show IsQ l1 (.f (.tuple ds)) ds from .inr rfl).at S1 r1
    refine ⟨a, rfl, .inr ⟨?_, q (Itt K a) m1 B1 H1 l1 _ _ _ s1 S1 (fun i m' B' H' l' hs hp S' P => itok_tup r1 i m' B' H' l' hs hp S' trivial) z⟩⟩
    cases r1 with
    | tup h1 h2 => exact ⟨_, sqT_same S1.sub h1.sq⟩
/-- FOR over a list or tuple of data -/
theorem x_forQ (h : EvS K tl ρ l fun x l1 => ∃ ds, IsQ l1 x ds ∧ ∃ I : Nat → List (Option D) → List O → Prop, I 0 ρ l1 ∧ (∀ i ρ' l', i ≤ ds.length → I i ρ' l' → IsQ l' x ds) ∧
      (∀ i d ρ' l', ds[i]? = some d → I i ρ' l' → AsS K g (.f d) ρ' l' fun ρ2 l2 => ExS K t ρ2 l2 ⟨I (i + 1), E.rt, E.nx, I (i + 1)⟩) ∧ ∀ ρ' l', I ds.length ρ' l' → E.nx ρ' l') : ExS K (tFor (iSeq K tl) g t) ρ l E :=
  x_for (i_seq (h.imp fun x l1 ⟨ds, hq, I, h0, hP, hs, hd⟩ => ⟨ds, hq, I, h0, hP, fun i ρ' l' hi z => by
    have e : ds[i]? = some (ds.getD i .none) := by rw [List.getD_eq_getElem?_getD]; simp [hi]
    exact hs i _ ρ' l' e z, hd⟩))
theorem i_rng1 {R : (List O → Prop) → Nat → (Nat → D) → List O → Prop} (h : EvA K ty ρ l fun ds l1 => ∃ j : Int, ds = [.f (.int j)] ∧ -(2 ^ 62) ≤ j ∧ j < 2 ^ 62 ∧ R (fun _ => True) j.toNat (fun i => .f (.int i)) l1) : EvI K (iRng1 ty) ρ l R := fun m B H σ S e Rt q => by
  refine h m B H σ S e _ fun vs m1 B1 H1 ds l1 s1 S1 r1 ⟨j, eds, h1, h2, z⟩ => ?_
  subst eds
  cases r1 with
  | cons r r' =>
    cases r'
    refine ⟨j, by rw [int_of r], h1, h2, q _ m1 B1 H1 l1 _ _ _ s1 S1 (fun i m' B' H' l' hs hp S' _ => ⟨fun hi => ⟨hi, fun y H3 ⟨eH, hy⟩ => ?_⟩, fun hi => Nat.le_of_eq hi.symm⟩) z⟩
    subst eH hy
    refine ⟨B', Step.refl _ _ _, S', ?_⟩
    rw [Int.zero_add]
    exact FR.int _
theorem i_rng2 {R : (List O → Prop) → Nat → (Nat → D) → List O → Prop} (h : EvA K ty ρ l fun ds l1 => ∃ a j : Int, ds = [.f (.int a), .f (.int j)] ∧ (-(2 ^ 62) ≤ a ∧ a < 2 ^ 62 ∧ -(2 ^ 62) ≤ j ∧ j < 2 ^ 62) ∧ R (fun _ => True) (j - a).toNat (fun i => .f (.int (a + i))) l1) : EvI K (iRng2 ty) ρ l R := fun m B H σ S e Rt q => by
  refine h m B H σ S e _ fun vs m1 B1 H1 ds l1 s1 S1 r1 ⟨a, j, eds, h1, z⟩ => ?_
  subst eds
  cases r1 with
  | cons r r' =>
    cases r' with
    | cons r2 r3 =>
      cases r3
      refine ⟨a, j, by rw [int_of r, int_of r2], h1, q _ m1 B1 H1 l1 _ _ _ s1 S1 (fun i m' B' H' l' hs hp S' _ => ⟨fun hi => ⟨hi, fun y H3 ⟨eH, hy⟩ => ?_⟩, fun hi => Nat.le_of_eq hi.symm⟩) z⟩
      subst eH hy
      exact ⟨B', Step.refl _ _ _, S', FR.int _⟩
/-- FOR over range(n) -/
theorem x_forR (h : EvA K ty ρ l fun ds l1 => ∃ j : Int, ds = [.f (.int j)] ∧ -(2 ^ 62) ≤ j ∧ j < 2 ^ 62 ∧ ∃ I : Nat → List (Option D) → List O → Prop, I 0 ρ l1 ∧
      (∀ (i : Nat) ρ' l', i < j.toNat → I i ρ' l' → AsS K g (.f (.int i)) ρ' l' fun ρ2 l2 => ExS K t ρ2 l2 ⟨I (i + 1), E.rt, E.nx, I (i + 1)⟩) ∧ ∀ ρ' l', I j.toNat ρ' l' → E.nx ρ' l') : ExS K (tFor (iRng1 ty) g t) ρ l E :=
  x_for (i_rng1 fun m B H σ S e Q q => h m B H σ S e Q fun vs m' B' H' ds l' s S' r ⟨j, e1, e2, e3, I, h0, hs, hd⟩ => q vs m' B' H' ds l' s S' r ⟨j, e1, e2, e3, I, h0, fun _ _ _ _ _ => trivial, hs, hd⟩)
/-- a comprehension over a list or tuple of data -/
theorem e_lcQ {vs : List Nat} (hg : GG g vs) (h : EvS K tl ρ l fun x l1 => ∃ ds, IsQ l1 x ds ∧ ∃ I : Nat → List PyData → List O → Prop, I 0 [] l1 ∧ (∀ i acc l', i ≤ ds.length → I i acc l' → IsQ l' x ds ∧ acc.length ≤ 100000) ∧
      (∀ i d acc l', ds[i]? = some d → I i acc l' → AsS K g (.f d) (wipe3 ρ vs) l' fun ρ2 l2 => EvT K tt ρ2 l2 fun b l3 => if b = true then EvS K te ρ2 l3 fun d l4 => ∃ y, d = .f y ∧ I (i + 1) (acc ++ [y]) l4 else I (i + 1) acc l3) ∧
      ∀ acc l', I ds.length acc l' → R (.own l'.length) (l' ++ [.lst acc])) : EvS K (tLc (iSeq K tl) g tt te vs) ρ l R :=
  e_lc (good_of hg) (i_seq (h.imp fun x l1 ⟨ds, hq, I, h0, hP, hs, hd⟩ => ⟨ds, hq, I, h0, hP, fun i acc l' hi z => by
    have e : ds[i]? = some (ds.getD i .none) := by rw [List.getD_eq_getElem?_getD]; simp [hi]
    exact hs i _ acc l' e z, hd⟩))
/-- .. over range(n) -/
theorem e_lcR {vs : List Nat} (hg : GG g vs) (h : EvA K ty ρ l fun ds l1 => ∃ j : Int, ds = [.f (.int j)] ∧ -(2 ^ 62) ≤ j ∧ j < 2 ^ 62 ∧ ∃ I : Nat → List PyData → List O → Prop, I 0 [] l1 ∧ (∀ i acc l', i ≤ j.toNat → I i acc l' → acc.length ≤ 100000) ∧
      (∀ (i : Nat) acc l', i < j.toNat → I i acc l' → AsS K g (.f (.int i)) (wipe3 ρ vs) l' fun ρ2 l2 => EvT K tt ρ2 l2 fun b l3 => if b = true then EvS K te ρ2 l3 fun d l4 => ∃ y, d = .f y ∧ I (i + 1) (acc ++ [y]) l4 else I (i + 1) acc l3) ∧
      ∀ acc l', I j.toNat acc l' → R (.own l'.length) (l' ++ [.lst acc])) : EvS K (tLc (iRng1 ty) g tt te vs) ρ l R :=
  e_lc (good_of hg) (i_rng1 fun m B H σ S e Q q => h m B H σ S e Q fun vs m' B' H' ds l' s S' r ⟨j, e1, e2, e3, I, h0, hP, hs, hd⟩ => q vs m' B' H' ds l' s S' r ⟨j, e1, e2, e3, I, h0, fun i acc l' hi z => ⟨trivial, hP i acc l' hi z⟩, hs, hd⟩)
theorem t_yes {R : Bool → List O → Prop} (r : R true l) : EvT K tYes ρ l R := fun m B H σ S e Q q => q m B H true l (Step.refl _ _ _) S r
theorem take_next {α : Type} {ds : List α} {i : Nat} {d : α} (h : ds[i]? = some d) : ds.take (i + 1) = ds.take i ++ [d] := by
  rw [List.take_succ, h]; rfl
/-- a comprehension that reads alone -/
theorem e_lcF {vs : List Nat} (F : PyData → Option PyData) (hg : GG g vs) (h : EvS K tl ρ l fun x l1 => ∃ ds, IsQ l1 x ds ∧ ds.length ≤ 100000 ∧
      (∀ d, d ∈ ds → AsS K g (.f d) (wipe3 ρ vs) l1 fun ρ2 l2 => EvT K tt ρ2 l2 fun b l3 => if b = true then EvS K te ρ2 l3 fun z l4 => ∃ y, z = .f y ∧ F d = some y ∧ l4 = l1 else F d = none ∧ l3 = l1) ∧
      R (.own l1.length) (l1 ++ [.lst (ds.filterMap F)])) : EvS K (tLc (iSeq K tl) g tt te vs) ρ l R := by
  refine e_lcQ hg (h.imp fun x l1 ⟨ds, hq, hl, hs, hd⟩ => ⟨ds, hq, fun i acc l' => l' = l1 ∧ acc = (ds.take i).filterMap F, ⟨rfl, by simp⟩, ?_, ?_, ?_⟩)
  · rintro i acc l' hi ⟨rfl, rfl⟩
    refine ⟨hq, Nat.le_trans (List.length_filterMap_le _ _) ?_⟩
    rw [List.length_take]; omega
  · rintro i d acc l' hd' ⟨rfl, rfl⟩
    intro m B H σ v S e hv Q q
    refine hs d (List.mem_of_getElem? hd') m B H σ v S e hv Q fun σ' ρ' m' B' H' l2 s S' e' z => q σ' ρ' m' B' H' l2 s S' e' (z.imp fun b l3 w => ?_)
    cases b with
    | true => exact w.imp fun z l4 ⟨y, e1, e2, e3⟩ => ⟨y, e1, e3, by rw [take_next hd', List.filterMap_append]; simp [e2]⟩
    | false =>
      obtain ⟨e1, e2⟩ := w
      exact ⟨e2, by rw [take_next hd', List.filterMap_append]; simp [e1]⟩
  · rintro acc l' ⟨rfl, rfl⟩
    rw [List.take_length]
    exact hd
/-! ### methods -/
theorem e_bmL {r : V → List V → Hp → VK → Prop} {to : TE} (h : EvS K to ρ l fun x l1 => (∃ ds, IsL l1 x ds) ∧ EvA K ty ρ l1 fun es l2 => MeS K r x es l2 R) : EvS K (tBM K "list" r to ty) ρ l R := fun m B H σ S e Q q => by
  refine h m B H σ S e _ fun v m1 B1 H1 x l1 s1 S1 r1 ⟨⟨ds, hL⟩, z⟩ => ?_
  obtain ⟨a, us, rfl, e2, qq⟩ := hL.at S1 r1
  refine ⟨.inl ⟨rfl, us, SqL.of e2⟩, z m1 B1 H1 σ S1 (e.step s1) _ fun vs m2 B2 H2 es l2 s2 S2 r2 z2 => ?_⟩
  exact z2 m2 B2 H2 _ vs S2 (r1.step s2) r2 Q (q.step (s1.trans s2))
theorem e_bmR {r : V → List V → Hp → VK → Prop} {to : TE} (h : EvS K to ρ l fun x l1 => (∃ n ds, x = .own n ∧ l1[n]? = some (.rfs ds)) ∧ EvA K ty ρ l1 fun es l2 => MeS K r x es l2 R) : EvS K (tBM K "list" r to ty) ρ l R := fun m B H σ S e Q q => by
  refine h m B H σ S e _ fun v m1 B1 H1 x l1 s1 S1 r1 ⟨⟨n, ds, ex, hn⟩, z⟩ => ?_
  subst ex
  obtain ⟨a, rfl, ha⟩ := id r1
  obtain ⟨⟨us, e2, _⟩, _⟩ := S1.obj n a _ ha hn
  refine ⟨.inl ⟨rfl, us, SqL.of e2⟩, z m1 B1 H1 σ S1 (e.step s1) _ fun vs m2 B2 H2 es l2 s2 S2 r2 z2 => ?_⟩
  exact z2 m2 B2 H2 _ vs S2 (r1.step s2) r2 Q (q.step (s1.trans s2))
theorem writeL {Q : VK} {n : Nat} {a : Addr} {xs : List V} {ds : List PyData} {v : V} {d : PyData} (S : SR K m B H l) (q : Post K m B H R Q) (hn : m[n]? = some a) (hb : B a = none) (r : FRs K B xs ds) (rv : FR K B v d)
    (z : R (.f d) (l.set n (.lst ds))) : Q v (upd H a (.lst xs)) := by
  obtain ⟨S2, s2⟩ := S.write (u := .lst xs) (o := .lst ds) hn hb ⟨xs, upd_same, r⟩
  exact q _ _ _ _ (.f d) _ s2 S2 rv z
theorem m_append {n : Nat} {ds : List PyData} {d : PyData} (h : l[n]? = some (.lst ds)) (hl : ds.length ≤ 100000) (z : R (.f .none) (l.set n (.lst (ds ++ [d])))) : MeS K rAppend (.own n) [.f d] l R := fun m B H vx vs S r1 r2 Q q => by
  obtain ⟨a, rfl, ha⟩ := r1
  obtain ⟨⟨xs, e, pr⟩, hb⟩ := S.obj n a _ ha h
  cases r2 with
  | cons r2 r3 =>
    cases r3
    exact ⟨a, xs, _, rfl, rfl, e, small' (by rw [pr.length]; exact hl), writeL S q ha (hb (by simp)) (pr.append (FRs.one r2)) FR.non z⟩
/-- a reference put behind a list with references -/
theorem m_appendR {n : Nat} {ds : List D} {d : D} (h : l[n]? = some (.rfs ds)) (hl : ds.length ≤ 100000) (z : R (.f .none) (l.set n (.rfs (ds ++ [d])))) : MeS K rAppend (.own n) [d] l R := fun m B H vx vs S r1 r2 Q q => by
  obtain ⟨a, rfl, ha⟩ := r1
  obtain ⟨⟨xs, e, pr⟩, hb⟩ := S.obj n a _ ha h
  cases r2 with
  | cons r2 r3 =>
    cases r3
    have app : ∀ {us : List V} {es : List D} {w : V}, Paired (VR K m B) us es → VR K m B w d → Paired (VR K m B) (us ++ [w]) (es ++ [d]) := fun {us es w} p r => by
      induction p with
      | nil => exact .cons r .nil
      | cons h t ih => exact .cons h ih
    obtain ⟨S2, s2⟩ := S.write (u := .lst (xs ++ [_])) (o := .rfs (ds ++ [d])) ha (hb (by simp)) ⟨_, upd_same, app pr r2⟩
    exact ⟨a, xs, _, rfl, rfl, e, small' (by rw [pair_len pr]; exact hl), q _ _ _ _ (.f .none) _ s2 S2 FR.non z⟩
def rInsert : V → List V → Hp → VK → Prop := fun x vs H Q => ∃ (l : Addr) (xs : List V) (i : Int) (y : V), x = .ref l ∧ vs = [.int i, y] ∧ H l = some (.lst xs) ∧ xs.length < sizeLine ∧ 0 ≤ i ∧ i < 2 ^ 63 ∧
    Q .non (upd H l (.lst (xs.take i.toNat ++ [y] ++ xs.drop i.toNat)))
theorem u_insert {X : Cx} : MtR X "list.insert" rInsert := mt_insert
theorem m_insert {n : Nat} {ds : List PyData} {i : Int} {d : PyData} (h : l[n]? = some (.lst ds)) (hl : ds.length ≤ 100000) (h0 : 0 ≤ i) (h1 : i < 2 ^ 63) (z : R (.f .none) (l.set n (.lst (ds.take i.toNat ++ [d] ++ ds.drop i.toNat)))) :
    MeS K rInsert (.own n) [.f (.int i), .f d] l R := fun m B H vx vs S r1 r2 Q q => by
  obtain ⟨a, rfl, ha⟩ := r1
  obtain ⟨⟨xs, e, pr⟩, hb⟩ := S.obj n a _ ha h
  cases r2 with
  | cons r2 r3 =>
    cases r3 with
    | cons r3 r4 =>
      cases r4
      exact ⟨a, xs, i, _, rfl, by rw [int_of r2], e, small' (by rw [pr.length]; exact hl), h0, h1, writeL S q ha (hb (by simp)) (((pr.take _).append (FRs.one r3)).append (pr.drop _)) FR.non z⟩
theorem m_extend {n : Nat} {ds es : List PyData} {y : D} (h : l[n]? = some (.lst ds)) (hy : IsL l y es) (hl : ds.length + es.length ≤ 100000) (z : R (.f .none) (l.set n (.lst (ds ++ es)))) : MeS K rExtend (.own n) [y] l R := fun m B H vx vs S r1 r2 Q q => by
  obtain ⟨a, rfl, ha⟩ := r1
  obtain ⟨⟨xs, e, pr⟩, hb⟩ := S.obj n a _ ha h
  cases r2 with
  | cons r2 r3 =>
    cases r3
    obtain ⟨b, us, rfl, e2, pr2⟩ := hy.at S r2
    exact ⟨a, b, xs, us, rfl, rfl, e, e2, small (by rw [pr.length, pr2.length]; exact hl), writeL S q ha (hb (by simp)) (pr.append pr2) FR.non z⟩
/-! texts -/
theorem e_m1 {r : V → List V → Hp → VK → Prop} (h : EvS K ta ρ l fun x l1 => (∃ s, x = .f (.str s)) ∧ EvS K tb ρ l1 fun y l2 => MeS K r x [y] l2 R) : EvS K (tM1 r ta tb) ρ l R := fun m B H σ S e Q q => by
  refine h m B H σ S e _ fun v m1 B1 H1 x l1 s1 S1 r1 ⟨⟨s, ex⟩, z⟩ => ?_
  subst ex
  refine ⟨⟨s, str_of r1⟩, z m1 B1 H1 σ S1 (e.step s1) _ fun w m2 B2 H2 y l2 s2 S2 r2 z2 => ?_⟩
  exact z2 m2 B2 H2 v [w] S2 (r1.step s2) (.cons r2 .nil) Q (q.step (s1.trans s2))
def rJoin (K : PySem.W.Frag) : V → List V → Hp → VK → Prop := fun x xs H Q => ∃ a p, ∃ ys : List Str, x = .str a ∧ xs = [.ref p] ∧ (SqL K H p (ys.map V.str) ∨ SqT K H p (ys.map V.str)) ∧
    (ys.map (·.length)).sum + ys.length * a.length ≤ 16777216 ∧ Q (.str (Txt.join a ys)) H
theorem m_join {s : Str} {y : D} {ys : List Str} (hy : IsQ l y (sPy ys)) (hl : (ys.map (·.length)).sum + ys.length * s.length ≤ 16777216) (z : R (.f (.str (Txt.join s ys))) l) : MeS K (rJoin K) (.f (.str s)) [y] l R := fun m B H vx vs S r1 r2 Q q => by
  cases r2 with
  | cons r2 r3 =>
    cases r3
    obtain ⟨a, us, rfl, e2, pr⟩ := hy.at S r2
    have eu := frs_str pr
    subst eu
    exact ⟨s, a, ys, str_of r1, rfl, e2, hl, retF S q (FR.str _) z⟩
/-! ### slices -/
def cutD (ds : List PyData) (lo hi : Option Int) : List PyData := (ds.drop (HT.sIx ds.length 0 lo)).take (HT.sIx ds.length ds.length hi - HT.sIx ds.length 0 lo)
theorem frs_cut {vs : List V} {ds : List PyData} {lo hi : Option Int} (h : FRs K B vs ds) : FRs K B (cutV vs lo hi) (cutD ds lo hi) := by
  unfold cutV cutD
  rw [h.length]
  exact (h.drop _).take _
def SlS (K : PySem.W.Frag) (r : V → Option Int → Option Int → Hp → VK → Prop) (x : D) (lo hi : Option Int) (l : List O) (R : D → List O → Prop) : Prop :=
  ∀ m B H vx, SR K m B H l → VR K m B vx x → ∀ Q : VK, Post K m B H R Q → r vx lo hi H Q
theorem e_sl {r : V → Option Int → Option Int → Hp → VK → Prop} {th tk : TO} (h : EvS K te ρ l fun x l1 => EvO K th ρ l1 fun lo l2 => EvO K tk ρ l2 fun hi l3 => SlS K r x lo hi l3 R) : EvS K (tSl r te th tk) ρ l R := fun m B H σ S e Q q => by
  refine h m B H σ S e _ fun v m1 B1 H1 x l1 s1 S1 r1 z1 => ?_
  refine z1 m1 B1 H1 σ S1 (e.step s1) _ fun m2 B2 H2 lo l2 s2 S2 z2 => ?_
  refine z2 m2 B2 H2 σ S2 (e.step (s1.trans s2)) _ fun m3 B3 H3 hi l3 s3 S3 z3 => ?_
  exact z3 m3 B3 H3 v S3 (r1.step (s2.trans s3)) Q (q.step ((s1.trans s2).trans s3))
theorem s_listF {x : D} {ds : List PyData} {lo hi : Option Int} (h : IsL l x ds) (z : R (.f (.list (cutD ds lo hi))) l) : SlS K (rSlU K) x lo hi l R := fun m B H vx S r1 Q q => by
  obtain ⟨a, us, rfl, e2, pr⟩ := h.at S r1
  exact .inl ⟨a, us, rfl, SqL.of e2, fun p hp => retLF S q hp (frs_cut pr) z⟩
theorem s_str {x : Str} {lo hi : Option Int} (hl : x.length ≤ 100000) (z : R (.f (.str (cutS x lo hi))) l) : SlS K (rSlU K) (.f (.str x)) lo hi l R := fun m B H vx S r1 Q q =>
  .inr (.inl ⟨x, str_of r1, small hl, retF S q (FR.str _) z⟩)
theorem s_tup {ds : List PyData} {lo hi : Option Int} (hw : ¬ (HT.sIx ds.length 0 lo = 0 ∧ HT.sIx ds.length ds.length hi = ds.length)) (z : R (.f (.tuple (cutD ds lo hi))) l) : SlS K (rSlU K) (.f (.tuple ds)) lo hi l R := fun m B H vx S r1 Q q => by
  cases r1 with
  | @tup a us _ h1 pr => exact .inr (.inr ⟨a, us, rfl, sqT_same S.sub h1.sq, by rw [pr.length]; exact hw, fun p hp => retT S q hp (frs_cut pr) z⟩)
/-! ### built-in calls -/
def rAbs : List V → Hp → VK → Prop := fun xs H Q => ∃ i, xs = [.int i] ∧ Q (.int (if i < 0 then -i else i)) H
theorem c_abs {i : Int} (z : R (.f (.int (if i < 0 then -i else i))) l) : CaS K rAbs [.f (.int i)] l R := fun m B H vs S r Q q => by
  cases r with
  | cons r1 r2 =>
    cases r2
    exact ⟨i, by rw [int_of r1], retF S q (FR.int _) z⟩
def rMin2 : List V → Hp → VK → Prop := fun xs H Q => ∃ i j, xs = [.int i, .int j] ∧ Q (.int (if j < i then j else i)) H
def rMax2 : List V → Hp → VK → Prop := fun xs H Q => ∃ i j, xs = [.int i, .int j] ∧ Q (.int (if j > i then j else i)) H
theorem c_min2 {i j : Int} (z : R (.f (.int (if j < i then j else i))) l) : CaS K rMin2 [.f (.int i), .f (.int j)] l R := fun m B H vs S r Q q => by
  cases r with
  | cons r1 r2 =>
    cases r2 with
    | cons r2 r3 =>
      cases r3
      exact ⟨i, j, by rw [int_of r1, int_of r2], retF S q (FR.int _) z⟩
theorem c_max2 {i j : Int} (z : R (.f (.int (if j > i then j else i))) l) : CaS K rMax2 [.f (.int i), .f (.int j)] l R := fun m B H vs S r Q q => by
  cases r with
  | cons r1 r2 =>
    cases r2 with
    | cons r2 r3 =>
      cases r3
      exact ⟨i, j, by rw [int_of r1, int_of r2], retF S q (FR.int _) z⟩
def rInt1 : List V → Hp → VK → Prop := fun xs H Q => (∃ i, xs = [.int i] ∧ Q (.int i) H) ∨ ∃ k, xs = [.bl k] ∧ Q (.int (if k then 1 else 0)) H
theorem c_intB {b : Bool} (z : R (.f (.int (if b then 1 else 0))) l) : CaS K rInt1 [.f (.bool b)] l R := fun m B H vs S r Q q => by
  cases r with
  | cons r1 r2 =>
    cases r2
    exact .inr ⟨b, by rw [bl_of r1], retF S q (FR.int _) z⟩
theorem u_join {X : Cx} {K : PySem.W.Frag} (hK : X.K = K) {o e : Expr} {to te : TE} {apos pos : Pos} (ho : PE X o to) (he : PE X e te) (hs : starEach [e] X.env = [(false, eval e X.env)] := by rfl) (hbase : attributeBase o "join" X.env (eval o X.env) = eval o X.env := by rfl) (hline : (apos.endLine == pos.line) = true := by rfl) :
    PE X (.Call (.Attribute o "join" apos) [e] [] pos) (tM1 (rJoin K) to te) := by
  subst hK
  exact pe_join ho he hs hbase hline
def rListOf (K : PySem.W.Frag) : List V → Hp → VK → Prop := fun xs H Q => ∃ p ys, xs = [.ref p] ∧ (SqL K H p ys ∨ SqT K H p ys) ∧ ∀ l, H l = none → Q (.ref l) (upd H l (.lst ys))
def rTupleOf (K : PySem.W.Frag) : List V → Hp → VK → Prop := fun xs H Q => ∃ p ys, xs = [.ref p] ∧ ((SqL K H p ys ∧ ∀ l, H l = none → Q (.ref l) (upd H l (.tup ys))) ∨ (SqT K H p ys ∧ Q (.ref p) H))
theorem u_list {X : Cx} {K : PySem.W.Frag} (hK : X.K = K) : CallR X (.type "list") (rListOf K) := by
  subst hK
  exact call_list_of
theorem u_tuple {X : Cx} {K : PySem.W.Frag} (hK : X.K = K) : CallR X (.type "tuple") (rTupleOf K) := by
  subst hK
  exact call_tuple_of
theorem u_abs {X : Cx} : CallR X (.builtin "abs") rAbs := call_abs
theorem u_min2 {X : Cx} (hc : X.calm = true) : CallR X (.builtin "min") rMin2 := call_min2 hc
theorem u_int {X : Cx} : CallR X (.type "int") rInt1 := call_int1
theorem c_tuple {x : D} {ds : List PyData} (h : IsQ l x ds) (z : R (.f (.tuple ds)) l) : CaS K (rTupleOf K) [x] l R := fun m B H vs S r Q q => by
  cases r with
  | cons r1 r2 =>
    cases r2
    rcases h with h | rfl
    · obtain ⟨a, us, rfl, e2, pr⟩ := h.at S r1
      exact ⟨a, us, rfl, .inl ⟨SqL.of e2, fun p hp => retT S q hp pr z⟩⟩
    · cases r1 with
      | tup h1 h2 => exact ⟨_, _, rfl, .inr ⟨sqT_same S.sub h1.sq, retF S q (FR.tup h1 h2) z⟩⟩
end
end L3
/-! L3g: a def of the text that keeps its promise, and its call -/
namespace L3
open PySem L2 PySem.Spec PyProof.Rows PySem.W
/-- what a def hands back: as it is; one own object, the rest forgotten; data, the rest forgotten; a tuple of two own lists -/
def Res (k : Nat) (R : D → List O → Prop) : D → List O → Prop := fun d l => R d l ∨
  (∃ n o, d = .own n ∧ l[n]? = some o ∧ o.free ∧ o ≠ .gone ∧ k ≤ n ∧ (∀ x ∈ l.take k, x.under k) ∧ R (.own k) (l.take k ++ [o])) ∨
  ((∃ x, d = .f x) ∧ (∀ x ∈ l.take k, x.under k) ∧ R d (l.take k))
theorem Res.own {k n : Nat} {o : O} {R : D → List O → Prop} {l : List O} (h : l[n]? = some o) (hf : o.free) (hg : o ≠ .gone) (hk : k ≤ n) (hu : ∀ x ∈ l.take k, x.under k) (z : R (.own k) (l.take k ++ [o])) : Res k R (.own n) l := .inr (.inl ⟨n, o, rfl, h, hf, hg, hk, hu, z⟩)
theorem Res.dat {k : Nat} {x : PyData} {R : D → List O → Prop} {l : List O} (hu : ∀ x ∈ l.take k, x.under k) (z : R (.f x) (l.take k)) : Res k R (.f x) l := .inr (.inr ⟨⟨x, rfl⟩, hu, z⟩)
section
variable {K : PySem.W.Frag} {m m' : List Addr} {B B' H H' : Hp} {l l' : List O} {R : D → List O → Prop}
theorem res_ok {Q : VK} {v : V} {d : D} (h4 : Post K m B H R Q) (s : Step m B H m' B' H') (S' : SR K m' B' H' l') (r : VR K m' B' v d) (z : Res m.length R d l') : Q v H' := by
  rcases z with z | ⟨n, o, rfl, hn, hf, hg, hk, hu, z⟩ | ⟨⟨x, rfl⟩, hu, z⟩
  · exact h4 v m' B' H' d l' s S' r z
  · obtain ⟨a, rfl, ha⟩ := r
    obtain ⟨ro, hb⟩ := S'.obj n a o ha hn
    have S2 := S'.cut m.length hu
    have s2 := s.cut S' (Nat.le_refl _)
    have hnot : a ∉ m'.take m.length := fun hm => by
      obtain ⟨j, hj⟩ := List.getElem?_of_mem hm
      have hjl : j < m.length := by
        have := (List.getElem?_eq_some_iff.mp hj).1
        rw [List.length_take] at this; omega
      rw [List.getElem?_take_of_lt hjl] at hj
      exact S'.ne hj ha (by omega) rfl
    have hl : H' a ≠ none := S'.live a (List.mem_of_getElem? ha)
    obtain ⟨S3, r3⟩ := S2.join (o := o) hnot hb hl (OR.free_any hf ro)
    have hH : H a = none := by
      cases e : H a with
      | none => rfl
      | some u =>
        obtain ⟨t, et⟩ := s.pre
        rcases s.new a (List.mem_of_getElem? ha) with w | w
        · exact absurd (by rw [et, List.take_left]; exact w) hnot
        · rw [w] at e; cases e
    have hlen : (l'.take m.length).length = m.length := by
      rw [List.length_take, ← S'.len]
      obtain ⟨t, et⟩ := s.pre
      rw [et, List.length_append]; omega
    refine h4 (.ref a) _ B' H' (.own m.length) _ (s2.join hH) S3 ?_ z
    rw [hlen] at r3
    exact r3
  · have S2 := S'.cut m.length hu
    have s2 := s.cut S' (Nat.le_refl _)
    exact h4 v _ B' H' (.f x) _ s2 S2 r z
end
/-- room for k more levels, and no guarded call below (what repr asks) -/
structure RoomG (k : Nat) (A : Around) : Prop where
  r : Room k A
  g : A.guards = some []
theorem RoomG.mono {j k : Nat} {A : Around} (h : RoomG k A) (hjk : j ≤ k) : RoomG j A := ⟨h.r.mono hjk, h.g⟩
theorem RoomG.units {k : Nat} {A : Around} (h : RoomG k A) : A.units + 64 < cLine := h.r.units
theorem RoomG.un {k : Nat} {A : Around} (h : RoomG k A) : A.units + 16 * k + 200 < cLine := h.r.un
/-- as the hand layer's FnOk, where no guarded call is below -/
structure FnG (P : Program) (w : World) (K : PySem.W.Frag) (mg : Str → Option Value) (base : Heap) (CX : CXT) (k : Nat) (f : Addr) (fd : FuncData) (ps : List Str) (sp : Sp) : Prop where
  size : ∀ {vs : List V} {H : Hp} {Q : VK} {E : XK}, sp vs H Q E → vs.length = ps.length
  go : ∀ {A : Around} {outer : List Env} {s : Shared} {H : Hp} {args : Args} {us : List Value} {vs : List V} {Q : VK} {E : XK},
    RoomG k A → Env0 P w K mg base A outer s H → BindsTo s fd args (ps.zip us) → Vals vs us → sp vs H Q E → codeAny (model P w) A (.call (.ref f) args) (CR CX outer P w H s Q E) s
theorem FnG.mono {P : Program} {w : World} {K : PySem.W.Frag} {mg : Str → Option Value} {base : Heap} {CX : CXT} {j k : Nat} {f : Addr} {fd : FuncData} {ps : List Str} {sp : Sp} (F : FnG P w K mg base CX j f fd ps sp) (hjk : j ≤ k) : FnG P w K mg base CX k f fd ps sp :=
  ⟨F.size, fun hr e b v z => F.go (hr.mono hjk) e b v z⟩
/-- a def of the text, by the reading of its body -/
theorem fnG {CX : CXT} {P : Program} {w : World} {K : PySem.W.Frag} {mg : Str → Option Value} {base : Heap} {k : Nat} {x qual : Str} {st : Stmt} {f : Addr} {fd : FuncData} {N ps : List Str} {sp : Sp} (F : Fun K x qual st f fd) (sc : FnScope N ps (defScope st))
    (size : ∀ {vs : List V} {H : Hp} {Q : VK} {E : XK}, sp vs H Q E → vs.length = ps.length)
    (body : ∀ (cdv : Value) (A : Around) (outer : List Env) (s : Shared) (H : Hp) (vs : List V) (Q : VK) (E : XK), RoomG k (A.deeper (PyProof.Rows.envOfC qual (defScope st) s.heap.objs.size f cdv)) → sp vs H Q E →
      ∃ t, PSs (cxOf CX P w K mg base N qual (defScope st) f cdv A outer s H E) (defBody st) t ∧ t { nx := fun _ H' => Q .non H', rt := Q } (start N vs) H) : FnG P w K mg base CX (k + 1) f fd ps sp := by
  obtain ⟨oc, od, kV, doc, pm, an, cdv, ct, osl, efd, lk, hcd⟩ := F.ex
  cases efd
  refine ⟨size, ?_⟩
  intro A outer s H args us vs Q E hr e0 hb rv hsp
  have inB : ∀ b o, base.get? b = some o → s.heap.get? b = some o := fun b o e => (e0.bs b o e).1
  have inK : K.In s.heap := e0.mod.kin.keeps inB
  have hkind : ∀ y, y ∈ ps.zip us → (defScope st).names.lookup y.1 = some .local ∨ ((defScope st).names.lookup y.1 = some .cell ∧ ((cellsFrom (s.heap.objs.size + 1) (defScope st).names []).lookup y.1).isSome = true) := by
    rintro ⟨n, v⟩ hy
    have hn := (List.of_mem_zip hy).1
    exact (sc.par n hn).imp id fun c => ⟨c, PySem.W.cellsFrom_some _ _ _ (Or.inl c)⟩
  apply codeAny_call_function hr.r.depth (inK f _ lk) rfl sc.co sc.gen rfl (PySem.W.codeRec_of inK hcd)
  apply hb
  refine wpAny_newFunctionEnv_cells sc.kind hkind ?_
  intro env henv s1 ic
  cases henv
  refine ⟨(e0.mod.nolimit.keeps inB).keeps ic.toInCall.keep, codeAny_func ?_⟩
  have hr2 : RoomG k (A.deeper (PyProof.Rows.envOfC qual (defScope st) s.heap.objs.size f cdv)) := ⟨hr.r.deeper _, hr.g⟩
  obtain ⟨t, ht, z⟩ := body cdv A outer s H vs Q E hr2 hsp
  refine wpAny_mono (ht.run [] s1 (start N vs) H _ (inv_start (E := E) sc hr.r.hd e0 (size hsp) rv ic) z) ?_ fun e s' h => h
  intro fl s' h
  cases fl with
  | next => obtain ⟨σ', H', J, q⟩ := h; exact ⟨.non, H', J.os, J.bare, J.base, J.hok, rfl, q⟩
  | ret u => obtain ⟨v, σ', H', J, r2, q⟩ := h; exact ⟨v, H', J.os, J.bare, J.base, J.hok, r2, q⟩
  | brk => exact h.elim fun _ h => h.elim fun _ h => h.2.elim
  | cont => exact h.elim fun _ h => h.elim fun _ h => h.2.elim
/-- the def at x keeps the promise S, by at most level k -/
structure Cal (P : Program) (w : World) (K : PySem.W.Frag) (mg : Str → Option Value) (base : Heap) (k : Nat) (x : Str) (ps : List Str) (S : Spec3) : Prop where
  ex : ∃ a fd, mg x = some (.ref a) ∧ PySem.W.keepIn K (.ref a) = true ∧ Binds K fd ps [] ∧ FnG P w K mg base CX0 k a fd ps (P3 K S)
/-- the def st stands at x -/
structure DefAt (K : PySem.W.Frag) (mg : Str → Option Value) (x : Str) (st : Stmt) (ps : List Str) : Prop where
  ex : ∃ f fd, mg x = some (.ref f) ∧ Fun K x x st f fd ∧ Binds K fd ps []
section
variable {P : Program} {w : World} {K : PySem.W.Frag} {mg : Str → Option Value} {base : Heap}
theorem ok4F {x : Str} {st : Stmt} {f : Addr} {fd : FuncData} {N ps : List Str} {k : Nat} {S : Spec3} (F : Fun K x x st f fd) (sc : FnScope N ps (defScope st)) (len : ∀ ds g R, S ds g R → ds.length = ps.length)
    (h : ∀ (cdv : Value) (A : Around) (outer : List Env) (s : Shared) (H : Hp) (E : XK), RoomG k (A.deeper (PyProof.Rows.envOfC x (defScope st) s.heap.objs.size f cdv)) →
      ∃ t, PSs (cxOf CX0 P w K mg base N x (defScope st) f cdv A outer s H E).nox (defBody st) t ∧ ∀ ds g R, S ds g R → ExS K t (st0 N ds) g ⟨fun _ l => Res g.length R (.f .none) l, Res g.length R, fun _ _ => False, fun _ _ => False⟩) : FnG P w K mg base CX0 (k + 1) f fd ps (P3 K S) := by
  refine fnG F sc (fun ⟨m, B, g, ds, R, h1, h2, h3, h4⟩ => by rw [pair_len h2]; exact len ds g R h3) (fun cdv A outer s H vs Q E hr ⟨m, B, g, ds, R, h1, h2, h3, h4⟩ => ?_)
  obtain ⟨t, ht, hx⟩ := h cdv A outer s H E hr
  have hg : g.length = m.length := h1.len.symm
  refine ⟨t, ht.nox, hx ds g R h3 m B H _ h1 (er_start h2) _ ⟨fun σ' ρ' m' B' H' l' s S' e z => ?_, fun v m' B' H' d l' s S' r z => ?_, fun _ _ _ _ _ _ _ _ _ z => z.elim, fun _ _ _ _ _ _ _ _ _ z => z.elim⟩⟩
  · rw [hg] at z
    exact res_ok (d := .f .none) h4 s S' FR.non z
  · rw [hg] at z
    exact res_ok h4 s S' r z
theorem ok4 {x : Str} {st : Stmt} {N ps : List Str} {k : Nat} {S : Spec3} (Df : DefAt K mg x st ps) (sc : FnScope N ps (defScope st)) (len : ∀ ds g R, S ds g R → ds.length = ps.length)
    (h : ∀ (cdv : Value) (A : Around) (outer : List Env) (s : Shared) (H : Hp) (E : XK) (f : Addr), RoomG k (A.deeper (PyProof.Rows.envOfC x (defScope st) s.heap.objs.size f cdv)) →
      ∃ t, PSs (cxOf CX0 P w K mg base N x (defScope st) f cdv A outer s H E).nox (defBody st) t ∧ ∀ ds g R, S ds g R → ExS K t (st0 N ds) g ⟨fun _ l => Res g.length R (.f .none) l, Res g.length R, fun _ _ => False, fun _ _ => False⟩) : Cal P w K mg base (k + 1) x ps S := by
  obtain ⟨f, fd, hm, F, b⟩ := Df.ex
  exact ⟨f, fd, hm, F.kp, b, ok4F F sc len fun cdv A outer s H E hr => h cdv A outer s H E f hr⟩
theorem Cal.mono {j k : Nat} {x : Str} {ps : List Str} {S : Spec3} (C : Cal P w K mg base j x ps S) (h : j ≤ k) : Cal P w K mg base k x ps S := by
  obtain ⟨a, fd, h1, h2, h3, h4⟩ := C.ex
  exact ⟨a, fd, h1, h2, h3, h4.mono h⟩
end
section
variable {X : Cx} {k : Nat} {ps : List Str} {S : Spec3} {x : Str} {p pos : Pos} {e : Expr} {es : List Expr} {t : TA}
/-- the call of a def with arguments -/
theorem pe_cal {K : PySem.W.Frag} (hK : X.K = K) (C : Cal X.prog X.w X.K X.mg X.base k x ps S) (hr : RoomG k X.A) (hg : Gl X x) (ha : PA X (e :: es) t) (hdb : (x == ("__debug__" : Str)) = false := by decide) (he : starEach (e :: es) X.env = (false, eval e X.env) :: starEach es X.env := by rfl)
    (hpl : (backTo pos (starEach es X.env)).any (·.1) = false := by rfl) : PE X (.Call (.Name x p) (e :: es) [] pos) (tCall (P3 K S) [] E0 t) := by
  subst hK
  obtain ⟨a, fd, hm, hk, hb, F⟩ := C.ex
  constructor
  intro pins s σ H Q I h
  apply wpAny_Call_Name_kw
  apply ld_glob I hg hm _ hdb
  refine PySem.W.callWith_K (h₀ := X.base) I.ok.mod.kin hk (thn (ha.run pos pins s σ H _ I h) ?_) he hpl
  rintro us s1 ⟨vs, H1, I1, r, q⟩
  refine ⟨I1.kIn, wpAny_call ?_⟩
  rw [List.append_nil] at q
  have hl : us.length = ps.length := by rw [← r.length]; exact F.size q
  have b := hb s1 us I1.kIn (by rw [List.append_nil]; exact hl)
  rw [List.append_nil] at b
  refine codeAny_mono (F.go hr I1.env0 b r q) ?_
  intro res s2 z
  match res, z with
  | .error _, z => exact z.elim
  | .ok (.ret u), z => exact I1.after z
end
/-- the law's def is called, at the heap behind the top -/
theorem law_callG {P : Program} {w : World} {K : PySem.W.Frag} {mg mb : Str → Option Value} {k : Nat} {fa a : Addr} {fd : FuncData} {x : Str} {sp : Sp} {s₁ : Shared} {vs : List Value} {ns : List Int} (KX : K.In s₁.heap) (hns : s₁.heap.Ns mainGlobals mg) (hb : s₁.heap.Ns builtinsNs mb)
    (hbb : ∀ y : Str, y ≠ "__name__" → mb y = bootBuiltins y) (hlim : s₁.heap.NoLimit) (hg : s₁.gens = #[]) (ha : s₁.heap.get? a = some { cls := .type "list", data := .seq vs.toArray }) (hi : IntsAre vs ns) (hl : ns.length ≤ sizeLine) (hr : Room k callerA)
    (F : ∀ base : Heap, K.In base → base.Ns mainGlobals mg → FnG P w K mg base CX0 k fa fd [x] sp) (hbind : ∀ (s : Shared) (u : Value), BindsTo s fd ⟨[u], []⟩ [(x, u)]) (hsp : ∀ H : Hp, SqL K H a (ns.map V.int) → sp [.ref a] H (fun v _ => v = .bl true) fun _ _ _ => False) :
    codeAny (model P w) callerA (.call (.ref fa) ⟨[.ref a], []⟩) (fun r s' => r = .ok (.ret (.bool true)) ∧ OldK s₁.heap s'.heap ∧ s'.os = s₁.os ∧ AllBare s'.gens) s₁ := by
  -- H tracks nothing, or the script alone
  have core : ∀ H : Hp, SqL K H a (ns.map V.int) → HOk P w H s₁.heap → (∀ b u, H b = some u → b = a ∧ K.lookup a = none ∧ ∃ ob xs, u = .frz ob (.lst xs)) →
      codeAny (model P w) callerA (.call (.ref fa) ⟨[.ref a], []⟩) (fun r s' => r = .ok (.ret (.bool true)) ∧ OldK s₁.heap s'.heap ∧ s'.os = s₁.os ∧ AllBare s'.gens) s₁ := by
    intro H hS hok only
    have inK : K.In (hidT s₁.heap H) := by
      intro b o e
      cases q : H b with
      | none => exact hidT_get (KX b o e) q
      | some u =>
        obtain ⟨rfl, hn, _⟩ := only b u q
        rw [hn] at e; cases e
    have nsOff : ∀ {b : Addr} {m : Str → Option Value}, s₁.heap.Ns b m → (hidT s₁.heap H).Ns b m := by
      rintro b m ⟨o, es, ep, e, d, r⟩
      refine ⟨o, es, ep, hidT_get e ?_, d, r⟩
      cases q : H b with
      | none => rfl
      | some u =>
        obtain ⟨rfl, _, _⟩ := only b u q
        rw [ha] at e; cases e; cases (show Data.seq vs.toArray _ = Data.dict es ep from d)
    obtain ⟨mc, lim1, lim2⟩ := hlim
    have e0 : Env0 P w K mg (hidT s₁.heap H) callerA [] s₁ H :=
      { frames := rfl, mod := ⟨inK, nsOff hns, ⟨mb, nsOff hb, hbb⟩, ⟨mc, nsOff lim1, lim2⟩⟩, bs := fun b o e => of_hidT e, bsz := Nat.le_of_eq (hidT_size _ _), funs := trivial,
        frf := fun b hm => (List.not_mem_nil hm).elim, hok := hok, bare := .of_eq hg }
    refine codeAny_mono ((F _ inK (nsOff hns)).go (us := [.ref a]) (vs := [.ref a]) ⟨hr, rfl⟩ e0 (hbind s₁ (.ref a)) (.cons rfl .nil) (hsp H hS)) ?_
    intro res s2 z
    match res, z with
    | .error _, z => exact z.elim
    | .ok (.ret u), z =>
      obtain ⟨v, H', os, bare, un, hok', rv, q⟩ := z
      cases (show v = .bl true from q)
      cases (show u = Value.bool true from rv)
      refine ⟨rfl, OldK.of_keep ?_, os, bare⟩
      intro b o e
      cases q2 : H b with
      | none => exact un.keep b o e q2 (fun hm => (List.not_mem_nil hm).elim) (fun hm => (List.not_mem_nil hm).elim)
      | some u =>
        obtain ⟨_, _, ob, xs, eu⟩ := only b u q2
        subst eu
        have h1 := (hok b _ q2).1
        have h2 := (hok' b _ (un.frzs b ob _ q2)).1
        rw [e] at h1; cases h1
        exact h2
  cases hk : K.lookup a with
  | some o =>
    have e := KX a o hk
    rw [ha] at e
    cases e
    refine core (fun _ => none) (.inr ⟨_, vs.toArray, _, hk, rfl, rfl, rfl, ?_, by simpa using vals_ints hi⟩) (fun b u z => ?_) fun b u z => ?_
    · rw [List.size_toArray, hi.length]; exact hl
    · cases (show (none : Option HO) = some u from z)
    · cases (show (none : Option HO) = some u from z)
  | none =>
    have sol : ∀ {b : Addr} {u : HO}, (if b = a then some (HO.frz { cls := .type "list", data := .seq vs.toArray } (.lst (ns.map V.int))) else none) = some u → b = a ∧ u = HO.frz { cls := .type "list", data := .seq vs.toArray } (.lst (ns.map V.int)) := by
      intro b u z
      by_cases hb : b = a
      · rw [if_pos hb] at z; exact ⟨hb, (Option.some.inj z).symm⟩
      · rw [if_neg hb] at z; cases z
    refine core (fun b => if b = a then some (.frz { cls := .type "list", data := .seq vs.toArray } (.lst (ns.map V.int))) else none) (.inl (.inr ⟨_, if_pos rfl⟩)) (fun b u z => ?_) fun b u z => ?_
    · obtain ⟨rfl, rfl⟩ := sol z
      exact ⟨ha, by rw [List.length_map]; exact hl, vs, _, vals_ints hi, ha⟩
    · obtain ⟨rfl, rfl⟩ := sol z
      exact ⟨rfl, hk, _, _, rfl⟩
end L3
/-! L3h: statements in a row, dicts written -/
namespace L3
open PySem L2
section
variable {K : PySem.W.Frag} {m m' m2 : List Addr} {B B' B2 H H' H2 : Hp} {l : List O} {σ : St} {ρ : List (Option D)} {R R' : D → List O → Prop} {E E' : E3} {ta tb te tc tl : TE} {tt tu : TT} {t u v w : TS} {ty tz : TA} {g : TG} {gs : TGs}
theorem xs_set {i : Nat} (h : EvS K te ρ l fun d l1 => ExS K u (ρ.set i (some d)) l1 E) : ExS K (tSeq (tAsg te (gName i)) u) ρ l E := x_seq (x_asg (h.imp fun d l1 z => g_name z))
theorem xs_asg (h : EvS K te ρ l fun d l1 => AsS K g d ρ l1 fun ρ2 l2 => ExS K u ρ2 l2 E) : ExS K (tSeq (tAsg te g) u) ρ l E := x_seq (x_asg h)
theorem x_set {i : Nat} (h : EvS K te ρ l fun d l1 => E.nx (ρ.set i (some d)) l1) : ExS K (tAsg te (gName i)) ρ l E := x_asg (h.imp fun d l1 z => g_name z)
theorem xs_drop (h : EvS K te ρ l fun _ l1 => ExS K u ρ l1 E) : ExS K (tSeq (tDrop te) u) ρ l E := x_seq (x_drop h)
theorem xs_next (h : ExS K u ρ l E) : ExS K (tSeq tNext u) ρ l E := x_seq (x_next h)
theorem xs_ret (h : EvS K te ρ l E.rt) : ExS K (tSeq (tRet te) u) ρ l E := x_seq (x_ret h)
theorem xs_seq (h : ExS K (tSeq t (tSeq u v)) ρ l E) : ExS K (tSeq (tSeq t u) v) ρ l E := fun m B H σ S e Dn F => h m B H σ S e Dn F
theorem xs_if (h : EvT K tt ρ l fun b l1 => if b = true then ExS K (tSeq t v) ρ l1 E else ExS K (tSeq u v) ρ l1 E) : ExS K (tSeq (tIfS tt t u) v) ρ l E := fun m B H σ S e Dn F => by
  refine h m B H σ S e _ fun m1 B1 H1 b l1 s1 S1 h1 => ?_
  cases b with
  | true => exact h1 m1 B1 H1 σ S1 (e.step s1) Dn (F.step s1)
  | false => exact h1 m1 B1 H1 σ S1 (e.step s1) Dn (F.step s1)
theorem o_ipI {f : Int → Int → Int} {i j : Int} (z : R (.f (.int (f i j))) l) : OpS K (ipI f) (.f (.int i)) (.f (.int j)) l R := fun m B H vx vy S r1 r2 Q q => ⟨i, j, int_of r1, int_of r2, retF S q (FR.int _) z⟩
/-- FOR over a list or tuple of data, then u -/
theorem xs_forQ (h : EvS K tl ρ l fun x l1 => ∃ ds, IsQ l1 x ds ∧ ∃ I : Nat → List (Option D) → List O → Prop, I 0 ρ l1 ∧ (∀ i ρ' l', i ≤ ds.length → I i ρ' l' → IsQ l' x ds) ∧
      (∀ i d ρ' l', ds[i]? = some d → I i ρ' l' → AsS K g (.f d) ρ' l' fun ρ2 l2 => ExS K t ρ2 l2 ⟨I (i + 1), E.rt, fun ρ3 l3 => ExS K u ρ3 l3 E, I (i + 1)⟩) ∧ ∀ ρ' l', I ds.length ρ' l' → ExS K u ρ' l' E) : ExS K (tSeq (tFor (iSeq K tl) g t) u) ρ l E :=
  x_seq (x_forQ h)
theorem xs_forR (h : EvA K ty ρ l fun ds l1 => ∃ j : Int, ds = [.f (.int j)] ∧ -(2 ^ 62) ≤ j ∧ j < 2 ^ 62 ∧ ∃ I : Nat → List (Option D) → List O → Prop, I 0 ρ l1 ∧
      (∀ (i : Nat) ρ' l', i < j.toNat → I i ρ' l' → AsS K g (.f (.int i)) ρ' l' fun ρ2 l2 => ExS K t ρ2 l2 ⟨I (i + 1), E.rt, fun ρ3 l3 => ExS K u ρ3 l3 E, I (i + 1)⟩) ∧ ∀ ρ' l', I j.toNat ρ' l' → ExS K u ρ' l' E) : ExS K (tSeq (tFor (iRng1 ty) g t) u) ρ l E :=
  x_seq (x_forR h)
theorem xs_while (I : List (Option D) → List O → Prop) (μ : List (Option D) → List O → Nat) (h0 : I ρ l)
    (hs : ∀ ρ' l', I ρ' l' → EvT K tt ρ' l' fun b l1 => if b = true then ExS K t ρ' l1 ⟨fun ρ2 l2 => I ρ2 l2 ∧ μ ρ2 l2 < μ ρ' l', E.rt, fun ρ3 l3 => ExS K u ρ3 l3 E, fun ρ2 l2 => I ρ2 l2 ∧ μ ρ2 l2 < μ ρ' l'⟩ else ExS K u ρ' l1 E) : ExS K (tSeq (tWhile tt t) u) ρ l E :=
  x_seq (x_while I μ h0 hs)
/-- if test: .. return: the rest stands once -/
theorem xs_gate (h1 : EvT K tt ρ l fun b l1 => if b = true then ExS K t ρ l1 ⟨fun _ _ => False, E.rt, E.bk, E.ct⟩ else l1 = l) (h2 : ExS K u ρ l E) : ExS K (tSeq (tIfS tt t tNext) u) ρ l E :=
  x_seq (x_if (h1.imp fun b l1 z => by
    cases b with
    | true => exact ExS.imp z (fun _ _ q => q.elim) (fun _ _ q => q) (fun _ _ q => q) fun _ _ q => q
    | false =>
      have e : l1 = l := z
      subst e
      exact x_next h2))
/-- what holds between two statements -/
theorem xs_mid (M : List (Option D) → List O → Prop) (h1 : ExS K t ρ l ⟨M, E.rt, E.bk, E.ct⟩) (h2 : ∀ ρ' l', M ρ' l' → ExS K u ρ' l' E) : ExS K (tSeq t u) ρ l E :=
  x_seq (h1.imp h2 (fun _ _ z => z) (fun _ _ z => z) fun _ _ z => z)
theorem b_both {b : Bool} {A A' : Prop} (h1 : b = true → A) (h2 : b = false → A') : if b = true then A else A' := by
  cases b with
  | true => exact h1 rfl
  | false => exact h2 rfl
theorem d_both {c : Prop} [Decidable c] {A A' : Prop} (h1 : c → A) (h2 : ¬ c → A') : if decide c = true then A else A' := by
  by_cases h : c
  · rw [decide_eq_true h]; exact h1 h
  · rw [decide_eq_false h]; exact h2 h
theorem nd_both {c : Prop} [Decidable c] {A A' : Prop} (h1 : ¬ c → A) (h2 : c → A') : if (!decide c) = true then A else A' := by
  by_cases h : c
  · rw [decide_eq_true h]; exact h2 h
  · rw [decide_eq_false h]; exact h1 h
/-! dicts -/
def putD {κ : Type} [DecidableEq κ] (kvs : List (κ × PyData)) (k : κ) (v : PyData) : List (κ × PyData) :=
  if (kvs.any fun kv => decide (kv.1 = k)) = true then kvs.map (fun kv => if kv.1 = k then (kv.1, v) else kv) else kvs ++ [(k, v)]
theorem put_any {κ : Type} [DecidableEq κ] {ks : List (κ × V)} {kvs : List (κ × PyData)} (h : Paired (fun (p : κ × V) (q : κ × PyData) => p.1 = q.1 ∧ FR K B p.2 q.2) ks kvs) (k : κ) :
    (ks.any fun kv => decide (kv.1 = k)) = kvs.any fun kv => decide (kv.1 = k) := by
  induction h with
  | nil => rfl
  | cons h t ih => rw [List.any_cons, List.any_cons, ih, h.1]
theorem put_map {κ : Type} [DecidableEq κ] (k : κ) {x : V} {d : PyData} (r : FR K B x d) : ∀ {ps : List (κ × V)} {qs : List (κ × PyData)}, Paired (fun (p : κ × V) (q : κ × PyData) => p.1 = q.1 ∧ FR K B p.2 q.2) ps qs →
    Paired (fun (p : κ × V) (q : κ × PyData) => p.1 = q.1 ∧ FR K B p.2 q.2) (ps.map fun kv => if kv.1 = k then (kv.1, x) else kv) (qs.map fun kv => if kv.1 = k then (kv.1, d) else kv)
  | _, _, .nil => .nil
  | _, _, @Paired.cons _ _ _ p q _ _ h t => by
    refine .cons ?_ (put_map k r t)
    by_cases e : p.1 = k
    · have e' : q.1 = k := h.1.symm.trans e
      simp only [e, e', if_true]
      exact ⟨trivial, r⟩
    · have e' : ¬ q.1 = k := fun z => e (h.1.trans z)
      simp only [e, e', if_false]
      exact h
theorem put_app {κ : Type} {k : κ} {x : V} {d : PyData} (r : FR K B x d) : ∀ {ps : List (κ × V)} {qs : List (κ × PyData)}, Paired (fun (p : κ × V) (q : κ × PyData) => p.1 = q.1 ∧ FR K B p.2 q.2) ps qs → Paired (fun (p : κ × V) (q : κ × PyData) => p.1 = q.1 ∧ FR K B p.2 q.2) (ps ++ [(k, x)]) (qs ++ [(k, d)])
  | _, _, .nil => .cons ⟨rfl, r⟩ .nil
  | _, _, .cons h t => .cons h (put_app r t)
theorem put_of {κ : Type} [DecidableEq κ] {ks : List (κ × V)} {kvs : List (κ × PyData)} (h : Paired (fun (p : κ × V) (q : κ × PyData) => p.1 = q.1 ∧ FR K B p.2 q.2) ks kvs) (k : κ) {x : V} {d : PyData} (r : FR K B x d) :
    Paired (fun (p : κ × V) (q : κ × PyData) => p.1 = q.1 ∧ FR K B p.2 q.2) (putK ks k x) (putD kvs k d) := by
  unfold putK putD
  rw [put_any h k]
  split
  · exact put_map k r h
  · exact put_app r h
/-- d[k] = v, k an int or a text -/
theorem x_dput (h : EvS K tc ρ l fun x l1 => EvS K ta ρ l1 fun o l2 => EvS K tb ρ l2 fun y l3 => ∃ n kvs k d, x = .f d ∧ o = .own n ∧ y = .f (keyD k) ∧ l3[n]? = some (.dct kvs) ∧ kvs.length ≤ 100000 ∧ E.nx ρ (l3.set n (.dct (putD kvs k d)))) : ExS K (sDPut ta tb tc) ρ l E := fun m B H σ S e Dn F => by
  refine h m B H σ S e _ fun vx m1 B1 H1 x l1 s1 S1 r1 z1 => ?_
  refine z1 m1 B1 H1 σ S1 (e.step s1) _ fun vo m2 B2 H2 o l2 s2 S2 r2 z2 => ?_
  refine z2 m2 B2 H2 σ S2 (e.step (s1.trans s2)) _ fun vy m3 B3 H3 y l3 s3 S3 r3 ⟨n, kvs, k, d, ex, eo, ey, hn, hl, z3⟩ => ?_
  subst ex eo ey
  have r1' : FR K B3 vx d := r1.step (s2.trans s3)
  obtain ⟨a, rfl, ha⟩ := r2.step s3
  obtain ⟨⟨ks, e1, pr⟩, hb⟩ := S3.obj n a _ ha hn
  have pr' := put_of pr k r1'
  obtain ⟨S4, s4⟩ := S3.write (u := .dK (putK ks k vx)) (o := .dct (putD kvs k d)) ha (hb (by simp)) ⟨_, upd_same, pr'⟩
  refine ⟨a, upd H3 a (.dK (putK ks k vx)), rfl, ?_, F.nx _ _ _ _ _ _ (((s1.trans s2).trans s3).trans s4) S4 (e.step (((s1.trans s2).trans s3).trans s4)) z3⟩
  rw [kv_of (k := k) r3]
  exact DPut.k e1 (small' (by rw [pr.length]; exact hl))
theorem xs_dput (h : EvS K tc ρ l fun x l1 => EvS K ta ρ l1 fun o l2 => EvS K tb ρ l2 fun y l3 => ∃ n kvs k d, x = .f d ∧ o = .own n ∧ y = .f (keyD k) ∧ l3[n]? = some (.dct kvs) ∧ kvs.length ≤ 100000 ∧ ExS K u ρ (l3.set n (.dct (putD kvs k d))) E) : ExS K (tSeq (sDPut ta tb tc) u) ρ l E := x_seq (x_dput h)
theorem pairs_set {vs : List V} {ds : List D} {v : V} {d : D} (j : Nat) (hv : VR K m B v d) (h : Paired (VR K m B) vs ds) : Paired (VR K m B) (vs.set j v) (ds.set j d) := by
  induction h generalizing j with
  | nil => exact .nil
  | cons h t ih =>
    cases j with
    | zero => exact .cons hv t
    | succ j => exact .cons h (ih j)
/-- .. with references -/
theorem g_setR {d : D} {R : List (Option D) → List O → Prop} (h : EvS K ta ρ l fun o l1 => EvS K tb ρ l1 fun y l2 => ∃ n ds i j, o = .own n ∧ y = .f (.int i) ∧ l2[n]? = some (.rfs ds) ∧ ixN ds.length i = some j ∧ R ρ (l2.set n (.rfs (ds.set j d)))) : AsS K (gSub ta tb rSetL) d ρ l R := fun m B H σ v S e hv Q q => by
  refine h m B H σ S e _ fun vo m1 B1 H1 o l1 s1 S1 r1 z1 => ?_
  refine z1 m1 B1 H1 σ S1 (e.step s1) _ fun vy m2 B2 H2 y l2 s2 S2 r2 ⟨n, ds, i, j, eo, ey, hn, hj, z2⟩ => ?_
  subst eo ey
  obtain ⟨a, rfl, ha⟩ := r1.step s2
  obtain ⟨⟨xs, e1, pr⟩, hb⟩ := S2.obj n a _ ha hn
  have hv' := hv.step (s1.trans s2)
  obtain ⟨S4, s4⟩ := S2.write (u := .lst (xs.set j v)) (o := .rfs (ds.set j d)) ha (hb (by simp)) ⟨_, upd_same, pairs_set j hv' pr⟩
  exact ⟨a, xs, i, j, rfl, int_of r2, e1, by rw [pair_len pr]; exact hj, q _ _ _ _ _ _ ((s1.trans s2).trans s4) S4 (e.step ((s1.trans s2).trans s4)) z2⟩
end
end L3
/-! L3i: plain laws of the data: dicts, encodings -/
namespace L3
open PySem L2
section
variable {κ : Type} [DecidableEq κ]
theorem lookD_nil (k : κ) : lookD ([] : List (κ × PyData)) k = none := rfl
theorem lookD_cons (p : κ × PyData) (r : List (κ × PyData)) (k : κ) : lookD (p :: r) k = if p.1 = k then some p.2 else lookD r k := by
  unfold lookD
  rw [List.find?_cons]
  by_cases h : p.1 = k
  · rw [decide_eq_true h, if_pos h]; rfl
  · rw [decide_eq_false h, if_neg h]
theorem lookD_any (r : List (κ × PyData)) (k : κ) : (r.any fun kv => decide (kv.1 = k)) = (lookD r k).isSome := by
  induction r with
  | nil => rfl
  | cons p r ih =>
    rw [List.any_cons, lookD_cons, ih]
    by_cases h : p.1 = k
    · rw [decide_eq_true h, if_pos h]; rfl
    · rw [decide_eq_false h, if_neg h]; rfl
theorem lookD_app (r : List (κ × PyData)) (p : κ × PyData) (k : κ) : lookD (r ++ [p]) k = match lookD r k with | some d => some d | none => if p.1 = k then some p.2 else none := by
  induction r with
  | nil => rw [List.nil_append, lookD_cons]; rfl
  | cons q r ih =>
    rw [List.cons_append, lookD_cons, lookD_cons, ih]
    by_cases h : q.1 = k
    · rw [if_pos h, if_pos h]
    · rw [if_neg h, if_neg h]
theorem lookD_map (r : List (κ × PyData)) (k k' : κ) (d : PyData) : lookD (r.map fun kv => if kv.1 = k then (kv.1, d) else kv) k' = if k = k' then (lookD r k').map fun _ => d else lookD r k' := by
  induction r with
  | nil => simp [lookD_nil]
  | cons q r ih =>
    rw [List.map_cons, lookD_cons, ih]
    by_cases h : q.1 = k
    · rw [if_pos h]
      by_cases h2 : k = k'
      · have h3 : q.1 = k' := h.trans h2
        simp [lookD_cons, h2, h3]
      · have h3 : ¬ q.1 = k' := fun z => h2 (h.symm.trans z)
        simp [lookD_cons, h2, h3]
    · rw [if_neg h]
      by_cases h2 : k = k'
      · have h3 : ¬ q.1 = k' := fun z => h (z.trans h2.symm)
        simp [lookD_cons, h2, h3]
      · simp [lookD_cons, h2]
theorem lookD_put (r : List (κ × PyData)) (k k' : κ) (d : PyData) : lookD (putD r k d) k' = if k = k' then some d else lookD r k' := by
  unfold putD
  rw [lookD_any]
  by_cases h : (lookD r k).isSome = true
  · rw [if_pos h, lookD_map]
    by_cases h2 : k = k'
    · subst h2
      rw [if_pos rfl, if_pos rfl]
      cases e : lookD r k with
      | none => rw [e] at h; cases h
      | some x => rfl
    · rw [if_neg h2, if_neg h2]
  · rw [if_neg h, lookD_app]
    have hn : lookD r k = none := by simpa using h
    by_cases h2 : k = k'
    · subst h2
      rw [hn, if_pos rfl]
    · cases e : lookD r k' with
      | none => simp [h2]
      | some x => simp [h2]
theorem putD_len (r : List (κ × PyData)) (k : κ) (d : PyData) : (putD r k d).length ≤ r.length + 1 := by
  unfold putD
  split
  · rw [List.length_map]; omega
  · rw [List.length_append]; simp
theorem putD_keys (r : List (κ × PyData)) (k : κ) (d : PyData) : (putD r k d).map (·.1) = if (lookD r k).isSome = true then r.map (·.1) else r.map (·.1) ++ [k] := by
  unfold putD
  rw [lookD_any]
  by_cases h : (lookD r k).isSome = true
  · rw [if_pos h, if_pos h, List.map_map]
    refine List.map_congr_left fun p _ => ?_
    show (if p.1 = k then (p.1, d) else p).1 = p.1
    split <;> rfl
  · rw [if_neg h, if_neg h, List.map_append]; rfl
end
/-! encodings -/
def pPy (es : List (Str × Str)) : List PyData := es.map fun e => .tuple [.str e.1, .str e.2]
def webD (ts : List Str) (es : List (Str × Str)) : PyData := .tuple [.tuple (sPy ts), .tuple (pPy es)]
theorem map_get {α β : Type} {f : α → β} {xs : List α} {i : Nat} {d : β} (h : (xs.map f)[i]? = some d) : ∃ x, xs[i]? = some x ∧ d = f x := by
  rw [List.getElem?_map] at h
  cases e : xs[i]? with
  | none => rw [e] at h; cases h
  | some x => rw [e] at h; exact ⟨x, rfl, (Option.some.inj h).symm⟩
theorem sPy_get {xs : List Str} {i : Nat} {d : PyData} (h : (sPy xs)[i]? = some d) : ∃ x, xs[i]? = some x ∧ d = .str x := map_get h
theorem pPy_get {xs : List (Str × Str)} {i : Nat} {d : PyData} (h : (pPy xs)[i]? = some d) : ∃ x, xs[i]? = some x ∧ d = .tuple [.str x.1, .str x.2] := map_get h
theorem sPy_mem {xs : List Str} {d : PyData} (h : d ∈ sPy xs) : ∃ x, x ∈ xs ∧ d = .str x := by
  obtain ⟨x, h1, h2⟩ := List.mem_map.mp h
  exact ⟨x, h1, h2.symm⟩
theorem sPy_len (xs : List Str) : (sPy xs).length = xs.length := List.length_map ..
theorem pPy_len (xs : List (Str × Str)) : (pPy xs).length = xs.length := List.length_map ..
def strF (p : Str → Bool) : PyData → Option PyData
  | .str x => if p x = true then some (.str x) else none
  | _ => none
theorem sPy_filter (f : Str → Bool) (xs : List Str) : (sPy xs).filterMap (strF f) = sPy (xs.filter f) := by
  induction xs with
  | nil => rfl
  | cons x xs ih =>
    show (PyData.str x :: sPy xs).filterMap _ = _
    rw [List.filterMap_cons, List.filter_cons, ih]
    cases h : f x <;> simp [strF, h, sPy]
end L3
/-! L3j: the pen of a law, and what is drawn -/
namespace L3
open PySem L2
/-- the pen: the script, the place, the digits left -/
def penO (s : List Int) (at_ dg : Int) : O := .rfs [.sq s, .f (.int at_), .f (.int dg)]
structure IsPen (o : O) : Prop where
  ex : ∃ s at_ dg, o = penO s at_ dg ∧ s.length ≤ 63 ∧ 0 ≤ at_ ∧ 0 ≤ dg
theorem IsPen.under {o : O} {k : Nat} (h : IsPen o) : o.under k := by
  obtain ⟨s, a, b, rfl, _⟩ := h.ex
  intro d hd
  simp only [List.mem_cons, List.not_mem_nil, or_false] at hd
  rcases hd with rfl | rfl | rfl <;> trivial
theorem IsPen.free {o : O} (h : IsPen o) : o.free := by
  obtain ⟨s, a, b, rfl, _⟩ := h.ex
  trivial
theorem IsPen.shift1 {o : O} (h : IsPen o) (i k : Nat) : o.shift1 i k = o := by
  obtain ⟨s, a, b, rfl, _⟩ := h.ex
  rfl
def S_pen : Spec3 := fun ds g R => ∃ s, ds = [.sq s] ∧ g = [] ∧ s.length ≤ 63 ∧ ∀ o, IsPen o → R (.own 0) [o]
def S_draw : Spec3 := fun ds g R => ∃ o most, ds = [.own 0, .f (.int most)] ∧ g = [o] ∧ IsPen o ∧ 0 < most ∧ most < 1000000000000000000000000 ∧ ∀ r o', 0 ≤ r → r < most → IsPen o' → R (.f (.int r)) [o']
theorem at_mod {s : List Int} {i : Int} (h : 0 < (s.length : Int)) : ∃ k, atI s (i % (s.length : Int)) = some k := by
  have h1 := Int.emod_nonneg i (Int.ne_of_gt h)
  have h2 := Int.emod_lt_of_pos i h
  obtain ⟨j, hj⟩ := Int.eq_ofNat_of_zero_le h1
  have hl : j < s.length := by omega
  refine ⟨s[j], ?_⟩
  rw [hj]
  exact atI_nat (by simp [hl])
section
variable {K : PySem.W.Frag} {l : List O} {ρ : List (Option D)} {R : D → List O → Prop} {ty : TA}
theorem e_draw (i : Nat) {X : XK} (h : EvA K ty ρ l fun ds l1 => ∃ most o, ds = [.own i, .f (.int most)] ∧ l1[i]? = some o ∧ IsPen o ∧ 0 < most ∧ most < 1000000000000000000000000 ∧ ∀ r o', 0 ≤ r → r < most → IsPen o' → R (.f (.int r)) (l1.set i o')) :
    EvS K (tCall (P3 K S_draw) [] X ty) ρ l R := e_call1 i fun m B H σ S e Q q => h m B H σ S e Q fun vs m' B' H' ds l' s S' r z => q vs m' B' H' ds l' s S' r (by
  obtain ⟨most, o, rfl, ho, hp, h1, h2, z⟩ := z
  refine ⟨o, [.own 0, .f (.int most)], ho, hp.free, by simp [backs], o, most, rfl, rfl, hp, h1, h2, fun r o' h3 h4 h5 => ⟨o', [], rfl, ?_⟩⟩
  rw [h5.shift1]
  have w := z r o' h3 h4 h5
  rw [List.map_nil, List.append_nil]
  exact w)
end
end L3
/-! L3k: texts of small letters -/
namespace L3
open PySem L2
def cs (x : Str) : List Nat := x.cps.toList
theorem cs_app (x y : Str) : cs (x ++ y) = cs x ++ cs y := TL.tl_append x y
theorem cs_len (x : Str) : (cs x).length = x.length := by simp [cs, Str.length]
theorem cs_ext {x y : Str} (h : cs x = cs y) : x = y := Str.ext' (Array.toList_inj.mp h)
theorem len_app (x y : Str) : (x ++ y).length = x.length + y.length := by rw [← cs_len, cs_app, List.length_append, cs_len, cs_len]
def Low (x : Str) : Prop := ∀ c ∈ cs x, 97 ≤ c ∧ c ≤ 122
instance lowDec (x : Str) : Decidable (Low x) := inferInstanceAs (Decidable (∀ c ∈ cs x, 97 ≤ c ∧ c ≤ 122))
theorem Low.app {x y : Str} (h1 : Low x) (h2 : Low y) : Low (x ++ y) := fun c h => by
  rw [cs_app] at h
  rcases List.mem_append.mp h with h | h
  · exact h1 c h
  · exact h2 c h
theorem cs_cut (x : Str) (lo hi : Option Int) : cs (cutS x lo hi) = ((cs x).drop (HT.sIx x.length 0 lo)).take (HT.sIx x.length x.length hi - HT.sIx x.length 0 lo) := by
  show (List.toArray _).toList = _
  rfl
theorem Low.cut {x : Str} (h : Low x) (lo hi : Option Int) : Low (cutS x lo hi) := fun c hc => by
  rw [cs_cut] at hc
  exact h c (List.mem_of_mem_drop (List.mem_of_mem_take hc))
theorem cut_len (x : Str) (lo hi : Option Int) : (cutS x lo hi).length ≤ x.length := cutS_length x lo hi
theorem Low.one {c : Nat} (h1 : 97 ≤ c) (h2 : c ≤ 122) : Low ⟨#[c]⟩ := fun d hd => by
  have e : d = c := by simpa [cs] using hd
  subst e; exact ⟨h1, h2⟩
theorem one_len (c : Nat) : (⟨#[c]⟩ : Str).length = 1 := rfl
theorem Low.ok {x : Str} (h : Low x) : PyData.strOk x = true := by
  unfold PyData.strOk
  rw [Array.all_eq_true']
  intro c hc
  have := h c (by simpa [cs] using hc)
  exact decide_eq_true (by omega)
def lets : Str := "abcdefghijklmnopqrstuvwxyz"
theorem lets_len : lets.length = 26 := by decide +kernel
theorem lets_all : ∀ j : Fin 26, (cs lets)[j.val]? = some (97 + j.val) := by decide +kernel
theorem lets_at {r : Int} (h0 : 0 ≤ r) (h1 : r < 26) : atI lets.cps.toList r = some (97 + r.toNat) := by
  obtain ⟨j, rfl⟩ := Int.eq_ofNat_of_zero_le h0
  exact atI_nat (lets_all ⟨j, by omega⟩)
theorem join_cons (x y : Str) (r : List Str) : Txt.join "" (x :: y :: r) = x ++ Str.ofString "" ++ Txt.join "" (y :: r) := by
  rw [TL.join_eq, TL.join_eq]; rfl
theorem join_one (x : Str) : Txt.join "" [x] = x := by rw [TL.join_eq]; rfl
theorem cs_join : ∀ ys : List Str, cs (Txt.join "" ys) = (ys.map cs).flatten
  | [] => by rfl
  | [x] => by
    rw [join_one]; simp
  | x :: y :: r => by
    rw [join_cons, cs_app, cs_app, cs_join (y :: r)]
    have e : cs (Str.ofString "") = [] := by decide +kernel
    rw [e]
    simp
theorem Low.join {ys : List Str} (h : ∀ y ∈ ys, Low y) : Low (Txt.join "" ys) := fun c hc => by
  rw [cs_join] at hc
  obtain ⟨l, hl, hc⟩ := List.mem_flatten.mp hc
  obtain ⟨y, hy, rfl⟩ := List.mem_map.mp hl
  exact h y hy c hc
theorem join_len (ys : List Str) (k : Nat) (h : ∀ y ∈ ys, y.length = k) : (Txt.join "" ys).length = k * ys.length := by
  rw [← cs_len, cs_join]
  induction ys with
  | nil => rfl
  | cons y r ih =>
    rw [List.map_cons, List.flatten_cons, List.length_append, ih fun z hz => h z (List.mem_cons_of_mem _ hz), cs_len, h y List.mem_cons_self, List.length_cons, Nat.mul_add]
    omega
theorem sum_len (ys : List Str) (k : Nat) (h : ∀ y ∈ ys, y.length = k) : (ys.map (·.length)).sum = k * ys.length := by
  induction ys with
  | nil => rfl
  | cons y r ih =>
    rw [List.map_cons, List.sum_cons, ih fun z hz => h z (List.mem_cons_of_mem _ hz), h y List.mem_cons_self, List.length_cons, Nat.mul_add]
    omega
theorem sPy_app (xs ys : List Str) : sPy (xs ++ ys) = sPy xs ++ sPy ys := List.map_append ..
theorem pPy_app (xs ys : List (Str × Str)) : pPy (xs ++ ys) = pPy xs ++ pPy ys := List.map_append ..
end L3
/-! L3l: comprehensions whose items are told by what holds of them -/
namespace L3
open PySem L2
section
variable {K : PySem.W.Frag} {l : List O} {ρ : List (Option D)} {R : D → List O → Prop} {te tl : TE} {tt : TT} {ty : TA} {g : TG}
/-- over a range; the store stays -/
theorem e_lcRp {vs : List Nat} (G : Nat → PyData → Prop) (hg : GG g vs) (h : EvA K ty ρ l fun ds l1 => ∃ j : Int, ds = [.f (.int j)] ∧ -(2 ^ 62) ≤ j ∧ j ≤ 100000 ∧
      (∀ i : Nat, i < j.toNat → AsS K g (.f (.int i)) (wipe3 ρ vs) l1 fun ρ2 l2 => EvT K tt ρ2 l2 fun b l3 => b = true ∧ EvS K te ρ2 l3 fun d l4 => ∃ y, d = .f y ∧ G i y ∧ l4 = l1) ∧
      ∀ acc, acc.length = j.toNat → (∀ (i : Nat) d, acc[i]? = some d → G i d) → R (.own l1.length) (l1 ++ [.lst acc])) : EvS K (tLc (iRng1 ty) g tt te vs) ρ l R :=
  e_lcR hg fun m B H σ S e Q q => h m B H σ S e Q fun us m' B' H' ds l' s S' r ⟨j, e1, e2, e3, hs, hd⟩ => q us m' B' H' ds l' s S' r ⟨j, e1, e2, by omega, fun i acc l2 => l2 = l' ∧ acc.length = i ∧ ∀ (k : Nat) d, acc[k]? = some d → G k d, ⟨rfl, rfl, fun _ _ h => by simp at h⟩,
    fun i acc l2 hi ⟨_, z, _⟩ => by omega,
    fun i acc l2 hi ⟨e4, e5, e6⟩ => by
      subst e4
      intro m B H σ v S e hv Q q
      refine hs i hi m B H σ v S e hv Q fun σ' ρ' m' B' H' l3 s S' e' z => q σ' ρ' m' B' H' l3 s S' e' (z.imp fun b l4 ⟨hb, w⟩ => ?_)
      subst hb
      exact w.imp fun d l5 ⟨y, ey, hG, el⟩ => ⟨y, ey, el, by rw [List.length_append, e5]; rfl, fun k d hk => by
        by_cases hki : k < acc.length
        · rw [List.getElem?_append_left hki] at hk; exact e6 k d hk
        · have hlt := (List.getElem?_eq_some_iff.mp hk).1
          rw [List.length_append] at hlt
          have hk2 : k = acc.length := by simp at hlt; omega
          subst hk2
          rw [List.getElem?_append_right (Nat.le_refl _)] at hk
          have : y = d := by simpa using hk
          subst this
          rw [e5]; exact hG⟩,
    fun acc l2 ⟨e4, e5, e6⟩ => by subst e4; exact hd acc e5 e6⟩
/-- over a list or tuple; the store stays -/
theorem e_lcQp {vs : List Nat} (G : PyData → PyData → Prop) (hg : GG g vs) (h : EvS K tl ρ l fun x l1 => ∃ ds, IsQ l1 x ds ∧ ds.length ≤ 100000 ∧
      (∀ d, d ∈ ds → AsS K g (.f d) (wipe3 ρ vs) l1 fun ρ2 l2 => EvT K tt ρ2 l2 fun b l3 => b = true ∧ EvS K te ρ2 l3 fun z l4 => ∃ y, z = .f y ∧ G d y ∧ l4 = l1) ∧
      ∀ acc, acc.length = ds.length → (∀ (i : Nat) d y, ds[i]? = some d → acc[i]? = some y → G d y) → R (.own l1.length) (l1 ++ [.lst acc])) : EvS K (tLc (iSeq K tl) g tt te vs) ρ l R :=
  e_lcQ hg (h.imp fun x l' ⟨ds, hq, e3, hs, hd⟩ => ⟨ds, hq, fun i acc l2 => l2 = l' ∧ acc.length = i ∧ ∀ (k : Nat) d y, ds[k]? = some d → acc[k]? = some y → G d y, ⟨rfl, rfl, fun _ _ _ _ h => by simp at h⟩,
    fun i acc l2 hi ⟨z0, z, _⟩ => ⟨by subst z0; exact hq, by omega⟩,
    fun i d acc l2 hdi ⟨e4, e5, e6⟩ => by
      subst e4
      intro m B H σ v S e hv Q q
      refine hs d (List.mem_of_getElem? hdi) m B H σ v S e hv Q fun σ' ρ' m' B' H' l3 s S' e' z => q σ' ρ' m' B' H' l3 s S' e' (z.imp fun b l4 ⟨hb, w⟩ => ?_)
      subst hb
      exact w.imp fun d' l5 ⟨y, ey, hG, el⟩ => ⟨y, ey, el, by rw [List.length_append, e5]; rfl, fun k dk yk hdk hk => by
        by_cases hki : k < acc.length
        · rw [List.getElem?_append_left hki] at hk; exact e6 k dk yk hdk hk
        · have hlt := (List.getElem?_eq_some_iff.mp hk).1
          rw [List.length_append] at hlt
          have hk2 : k = acc.length := by simp at hlt; omega
          subst hk2
          rw [List.getElem?_append_right (Nat.le_refl _)] at hk
          have e7 : y = yk := by simpa using hk
          subst e7
          rw [e5] at hdk
          rw [hdi] at hdk
          cases hdk
          exact hG⟩,
    fun acc l2 ⟨e4, e5, e6⟩ => by subst e4; exact hd acc e5 e6⟩)
end
end L3
/-! L3m: an own list is left as it is from now on -/
namespace L3
open PySem L2
section
variable {K : PySem.W.Frag} {m : List Addr} {B H : Hp} {l : List O} {ρ : List (Option D)} {R : D → List O → Prop} {te : TE}
theorem SR.frz (S : SR K m B H l) {n : Nat} {a : Addr} {xs : List V} {ds : List PyData} (ha : m[n]? = some a) (hl : l[n]? = some (.lst ds)) (hH : H a = some (.lst xs)) (r : FRs K B xs ds) :
    SR K m (upd B a (.lst xs)) H (l.set n .gone) ∧ Step m B H m (upd B a (.lst xs)) H ∧ FR K (upd B a (.lst xs)) (.ref a) (.list ds) := by
  have hb : B a = none := (S.obj n a _ ha hl).2 (by simp)
  have hsame : Same B (upd B a (.lst xs)) := same_new hb
  refine ⟨⟨fun b o e => ?_, by simp [S.len], S.nd, S.live, fun j b o h1 h2 => ?_⟩, ⟨hsame, ⟨[], by simp⟩, fun _ _ h _ => h, fun _ h => h, fun b h1 h2 h3 => ?_, fun _ h => .inl h⟩, FR.lst upd_same (FRs.same hsame ds xs r)⟩
  · by_cases h : b = a
    · subst h; rw [upd_same] at e; rw [← e]; exact hH
    · rw [upd_ne h] at e; exact S.sub b o e
  · by_cases hj : n = j
    · subst hj
      have hlen : n < l.length := (List.getElem?_eq_some_iff.mp hl).1
      rw [List.getElem?_set_self hlen] at h2
      cases h2
      exact ⟨trivial, fun h => absurd rfl h.1⟩
    · rw [List.getElem?_set_ne hj] at h2
      obtain ⟨q, c⟩ := S.obj j b o h1 h2
      have ne : b ≠ a := fun z => S.ne ha h1 hj z.symm
      exact ⟨q.up hsame ⟨[], by simp⟩ fun _ e => e, fun z => by rw [upd_ne ne]; exact c z⟩
  · have ne : b ≠ a := fun z => h3 (z ▸ List.mem_of_getElem? ha)
    rw [upd_ne ne]; exact h2
/-- what comes out as an own list is data from now on -/
theorem e_frz (h : EvS K te ρ l fun d l1 => ∃ n ds, d = .own n ∧ l1[n]? = some (.lst ds) ∧ R (.f (.list ds)) (l1.set n .gone)) : EvS K te ρ l R := fun m B H σ S e Q q => by
  refine h m B H σ S e _ fun v m1 B1 H1 d l1 s1 S1 r1 ⟨n, ds, ed, hn, z⟩ => ?_
  subst ed
  obtain ⟨a, rfl, ha⟩ := r1
  obtain ⟨⟨xs, e1, r⟩, _⟩ := S1.obj n a _ ha hn
  obtain ⟨S2, s2, r2⟩ := S1.frz ha hn e1 r
  exact q (.ref a) m1 _ H1 (.f (.list ds)) _ (s1.trans s2) S2 r2 z
end
end L3
/-! L3n: small words -/
namespace L3
open PySem L2
theorem iteNT {A A' : Prop} (h : A') : if (!true) = true then A else A' := h
theorem iteNF {A A' : Prop} (h : A) : if (!false) = true then A else A' := h
theorem IsPen.shift {o : O} (h : IsPen o) (k : Nat) : o.shift k = o := by
  obtain ⟨s, a, b, rfl, _⟩ := h.ex
  rfl
theorem isq_list {l : List O} {ds : List PyData} : IsQ l (.f (.list ds)) ds := .inl (.inl rfl)
theorem isq_tup {l : List O} {ds : List PyData} : IsQ l (.f (.tuple ds)) ds := .inr rfl
theorem isq_own {l : List O} {n : Nat} {ds : List PyData} (h : l[n]? = some (.lst ds)) : IsQ l (.own n) ds := .inl (.inr ⟨n, rfl, h⟩)
theorem isl_list {l : List O} {ds : List PyData} : IsL l (.f (.list ds)) ds := .inl rfl
theorem isl_own {l : List O} {n : Nat} {ds : List PyData} (h : l[n]? = some (.lst ds)) : IsL l (.own n) ds := .inr ⟨n, rfl, h⟩
theorem asd_f {l : List O} {d : PyData} : Asd l (.f d) d := .inl rfl
theorem sPy_at {xs : List Str} {i : Int} (h0 : 0 ≤ i) (h1 : i < xs.length) : ∃ x, x ∈ xs ∧ atI (sPy xs) i = some (.str x) := by
  obtain ⟨j, rfl⟩ := Int.eq_ofNat_of_zero_le h0
  have hj : j < xs.length := by omega
  refine ⟨xs[j], List.getElem_mem hj, atI_nat ?_⟩
  show (xs.map PyData.str)[j]? = _
  rw [List.getElem?_map]
  simp [hj]
theorem lay_pPy : ∀ {es : List (Str × Str)}, (∀ e ∈ es, PyData.strOk e.1 = true ∧ PyData.strOk e.2 = true) → PyData.canLayAll0 (pPy es) = true
  | [], _ => by simp [pPy, PyData.canLayAll0]
  | x :: xs, h => by
    have ih := lay_pPy (es := xs) fun y hy => h y (List.mem_cons_of_mem _ hy)
    have e : pPy (x :: xs) = .tuple [.str x.1, .str x.2] :: pPy xs := rfl
    rw [e]
    simp [PyData.canLayAll0, PyData.canLay0, ih, h x List.mem_cons_self]
theorem dep_sPy : ∀ xs : List Str, PyData.depthAll (sPy xs) = 0
  | [] => by simp [sPy, PyData.depthAll]
  | x :: xs => by
    have ih := dep_sPy xs
    have e : sPy (x :: xs) = .str x :: sPy xs := rfl
    rw [e]
    simp [PyData.depthAll, PyData.depth, ih]
theorem dep_pPy : ∀ es : List (Str × Str), PyData.depthAll (pPy es) ≤ 1
  | [] => by simp [pPy, PyData.depthAll]
  | x :: xs => by
    have ih := dep_pPy xs
    have e : pPy (x :: xs) = .tuple [.str x.1, .str x.2] :: pPy xs := rfl
    rw [e]
    simp [PyData.depthAll, PyData.depth]
    omega
theorem shape_pair {a b : Str} (h1 : PyData.strOk a = true) (h2 : PyData.strOk b = true) : SeqAt.shaped (.tuple [.str a, .str b]) = true := by
  simp [SeqAt.shaped, PyData.canLayAll0, PyData.canLay0, PyData.depth, PyData.depthAll, h1, h2]
end L3
/-! L3o: dict(list of pairs), keys that are tuples, isinstance, lists with references -/
namespace L3
open PySem L2
section
variable {X : Cx}
def mergeT (kvs more : List (List Key × V)) : List (List Key × V) := more.foldl (fun acc kv => putK acc kv.1 kv.2) kvs
theorem KT.merge {H : Hp} : ∀ {more : List (List Key × V)} {rs : List (List Key × Addr × Value)} {kvs : List (List Key × V)} {vs : List (List Key × Addr × Value)}, KT H more rs → KT H kvs vs → KT H (mergeT kvs more) (storedAllH vs rs) := by
  intro more rs kvs vs r
  induction r generalizing kvs vs with
  | nil => exact fun h => h
  | @cons p q ps qs h t ih =>
    intro h2
    have e : KT H (putK kvs p.1 p.2) (storedH vs q.1 q.2.1 q.2.2) := by
      rw [← h.1]
      exact L2.KT.put h2 p.1 h.2.1 h.2.2
    exact ih e
end
section
variable {K : PySem.W.Frag} {m m' : List Addr} {B B' H H' : Hp} {l : List O} {ρ : List (Option D)} {R : D → List O → Prop} {E : E3} {te tl : TE} {tt : TT} {t u : TS} {ty : TA} {g : TG}
def mergeD {κ : Type} [DecidableEq κ] (kvs more : List (κ × PyData)) : List (κ × PyData) := more.foldl (fun acc kv => putD acc kv.1 kv.2) kvs
theorem merge_of {κ : Type} [DecidableEq κ] : ∀ {ms : List (κ × V)} {ns : List (κ × PyData)} {ks : List (κ × V)} {kvs : List (κ × PyData)},
    Paired (fun (p : κ × V) (q : κ × PyData) => p.1 = q.1 ∧ FR K B p.2 q.2) ms ns → Paired (fun (p : κ × V) (q : κ × PyData) => p.1 = q.1 ∧ FR K B p.2 q.2) ks kvs →
    Paired (fun (p : κ × V) (q : κ × PyData) => p.1 = q.1 ∧ FR K B p.2 q.2) (ms.foldl (fun acc kv => putK acc kv.1 kv.2) ks) (mergeD kvs ns)
  | _, _, _, _, .nil, h => h
  | _, _, _, _, .cons (a := p) (b := q) h t, h2 => by
    have e := put_of h2 p.1 h.2
    have := merge_of t e
    rw [List.foldl_cons]
    show Paired _ _ (mergeD (putD _ q.1 q.2) _)
    rw [← h.1]
    exact this
theorem frs_keys : ∀ {ks : List Key} {vs : List V}, FRs K B vs (ks.map keyD) → vs = ks.map kV
  | [], _, h => by cases h; rfl
  | k :: ks, _, h => by
    cases h with
    | cons h1 h2 => rw [kv_of h1, frs_keys (ks := ks) h2]; rfl
def prK (q : Key × PyData) : PyData := .tuple [keyD q.1, q.2]
theorem prK_of (sub : Same B H) : ∀ {prs : List (Key × PyData)} {vs : List V}, FRs K B vs (prs.map prK) →
    ∃ (ps : List Addr) (kvs : List (Key × V)), vs = ps.map V.ref ∧ Paired (fun p kv => SqT K H p [kV kv.1, kv.2]) ps kvs ∧ Paired (fun (p : Key × V) (q : Key × PyData) => p.1 = q.1 ∧ FR K B p.2 q.2) kvs prs
  | [], _, h => by cases h; exact ⟨[], [], rfl, .nil, .nil⟩
  | q :: prs, _, h => by
    cases h with
    | cons h1 h2 =>
      obtain ⟨ps, kvs, e1, e2, e3⟩ := prK_of sub (prs := prs) h2
      cases h1 with
      | @tup a xs _ t1 f1 =>
        cases f1 with
        | cons f1 f2 =>
          cases f2 with
          | cons f2 f3 =>
            cases f3
            rw [kv_of f1] at t1
            exact ⟨a :: ps, (q.1, _) :: kvs, by rw [e1]; rfl, .cons (sqT_same sub t1.sq) e2, .cons ⟨rfl, f2⟩ e3⟩
/-- a pair in a dict of pairs -/
theorem o_inDt {neg : Bool} {n : Nat} {k : List Key} {kvs : List (List Key × PyData)} (h : l[n]? = some (.dctT kvs)) (hk : k.length = 2) (z : R (.f (.bool (if neg then !(lookD kvs k).isSome else (lookD kvs k).isSome))) l) : OpS K (rInU K neg) (.f (.tuple (k.map keyD))) (.own n) l R := fun m B H vx vy S r1 r2 Q q => by
  obtain ⟨a, rfl, ha⟩ := r2
  obtain ⟨⟨ks, e, pr⟩, _⟩ := S.obj n a _ ha h
  cases r1 with
  | @tup b ys _ t1 f1 =>
    have ey := frs_keys f1
    subst ey
    have eb : H b = some (.tup (k.map kV)) := by
      rcases t1 with t1 | t1
      · exact S.sub _ _ t1
      · exact (t1.1.no hk).elim
    refine .inr (.inl ⟨a, _, rfl, DGet.t e eb, ?_⟩)
    have e3 : (valV ks k).isSome = (lookD kvs k).isSome := by
      rcases look_of pr k with ⟨e1, e2⟩ | ⟨v, d, e1, e2, _⟩ <;> rw [e1, e2] <;> rfl
    rw [e3]
    exact retF S q (FR.bl _) z
/-! isinstance -/
def tyF : PyData → String
  | .none => "NoneType"
  | .bool _ => "bool"
  | .int _ => "int"
  | .str _ => "str"
  | .list _ => "list"
  | .tuple _ => "tuple"
  | .dict [(.none, _)] => "tuple"
  | .dict _ => "dict"
def TyD (l : List O) : D → String → Prop
  | .f (.dict [(.tuple _, _)]), _ => False
  | .f d, t => t = tyF d
  | .own n, t => (∃ o, l[n]? = some o ∧ match o with | .lst _ => t = "list" | .rfs _ => t = "list" | .tpr _ => t = "tuple" | .dct _ => t = "dict" | .dctT _ => t = "dict" | _ => False)
  | .sq _, _ => False
theorem ty_of {v : V} {d : D} {t : String} (S : SR K m B H l) (r : VR K m B v d) (h : TyD l d t) : TyX K H v (.type t) := by
  cases d with
  | f d =>
    cases d with
    | none => cases (show t = _ from h); cases r; exact .base .non
    | bool b => cases (show t = _ from h); cases r; exact .base (.bl _)
    | int i => cases (show t = _ from h); cases r; exact .base (.int _)
    | str x => cases (show t = _ from h); cases r; exact .base (.str _)
    | list ds =>
      cases r with
      | lst h1 h2 => cases (show t = _ from h); exact .base (.lst (S.sub _ _ h1))
    | tuple ds =>
      cases r with
      | tup h1 h2 =>
        cases (show t = _ from h)
        rcases sqT_same S.sub h1.sq with (h3 | ⟨o, h3⟩) | ⟨o, its, n, h3, h4, _⟩
        · exact .base (.tup h3)
        · exact .fTuple h3
        · exact .kTuple h3 h4
    | dict kvs =>
      cases r with
      | plt h1 h2 =>
        cases (show t = _ from h)
        obtain ⟨o, h3, _⟩ := h1
        exact .fTuple (S.sub _ _ h3)
      | dk0 h1 => cases (show t = _ from h); exact .base (.dK (S.sub _ _ h1))
      | dk1 h1 h2 => cases (show t = _ from h); exact .base (.dK (S.sub _ _ h1))
      | dki h1 h2 => cases (show t = _ from h); exact .base (.dK (S.sub _ _ h1))
      | dkn h1 => cases (show t = _ from h); exact .base (.dK (S.sub _ _ h1))
      | exc h0 h1 h2 h3 h4 => exact h.elim
  | own n =>
    obtain ⟨o, ho, hm⟩ := h
    obtain ⟨a, rfl, ha⟩ := r
    obtain ⟨ro, _⟩ := S.obj n a _ ha ho
    cases o with
    | lst ds => cases (show t = _ from hm); obtain ⟨xs, e, _⟩ := ro; exact .base (.lst e)
    | rfs ds => cases (show t = _ from hm); obtain ⟨xs, e, _⟩ := ro; exact .base (.lst e)
    | tpr ds => cases (show t = _ from hm); obtain ⟨xs, e, _⟩ := ro; exact .base (.tup e)
    | dct ds => cases (show t = _ from hm); obtain ⟨xs, e, _⟩ := ro; exact .base (.dK e)
    | dctT ds => cases (show t = _ from hm); obtain ⟨xs, e, _⟩ := ro; exact .base (.dT e)
    | dctL od ks ds => exact hm.elim
    | ins C fs => exact hm.elim
    | dctD kvs => exact hm.elim
    | dctM P w kvs => exact hm.elim
    | gone => exact hm.elim
  | sq s => exact h.elim
def rIsiU (K : PySem.W.Frag) : List V → Hp → VK → Prop := fun xs H Q => rIsi K xs H Q ∨ rIsiT K xs H Q
theorem u_isi {X : Cx} {K : PySem.W.Frag} (hK : X.K = K) : CallR X (.builtin "isinstance") (rIsiU K) := by
  subst hK
  exact CallR.or call_isi call_isiT
theorem e_isi {n : String} (h : EvS K te ρ l fun x l1 => ∃ t b, TyD l1 x t ∧ kitB t n = some b ∧ R (.f (.bool b)) l1) : EvS K (tCB (rIsiU K) (tCons te (tCons (tC (.ty n)) tNil))) ρ l R := fun m B H σ S e Q q => by
  refine h m B H σ S e _ fun v m1 B1 H1 x l1 s1 S1 r1 ⟨t, b, ht, hk, z⟩ => ?_
  exact .inl ⟨v, .ty n, _, _, b, rfl, .ty n, ty_of S1 r1 ht, kit_ty hk, q _ _ _ _ (.f (.bool b)) _ s1 S1 (FR.bl b) z⟩
/-! a list with references, as data -/
def Asdd (l : List O) (x : D) (d : PyData) : Prop := Asd l x d ∨ ∃ n ys es, x = .own n ∧ l[n]? = some (.rfs ys) ∧ d = .list es ∧ Paired (Asd l) ys es
theorem dps_of (S : SR K m B H l) : ∀ {vs : List V} {ys : List D} {es : List PyData}, Paired (VR K m B) vs ys → Paired (Asd l) ys es → PyData.hasDictAll es = false → DpAll K H vs es
  | _, _, _, .nil, h, _ => by cases h; exact .nil
  | _, _, e :: es, .cons h1 t1, h, nd => by
    have n' : e.hasDict = false ∧ PyData.hasDictAll es = false := by simpa [PyData.hasDictAll] using nd
    cases h with
    | cons h2 t2 => exact .cons (h2.dp S h1 n'.1) (dps_of S t1 t2 n'.2)
  | _, _, [], .cons h1 t1, h, nd => by cases h
theorem Asdd.dp (S : SR K m B H l) {v : V} {x : D} {d : PyData} (r : VR K m B v x) (h : Asdd l x d) (nd : d.hasDict = false) : Dp K H v d := by
  rcases h with h | ⟨n, ys, es, rfl, hn, rfl, hp⟩
  · exact h.dp S r nd
  · obtain ⟨a, rfl, ha⟩ := r
    obtain ⟨⟨xs, e, pr⟩, _⟩ := S.obj n a _ ha hn
    exact .lst (SqL.of e) (dps_of S pr hp (by simpa [PyData.hasDict] using nd))
/-! a list with references is walked -/
theorem i_seqR {R : (List O → Prop) → Nat → (Nat → D) → List O → Prop} (h : EvS K tl ρ l fun x l1 => ∃ n ds, x = .own n ∧ l1[n]? = some (.rfs ds) ∧ R (fun l' => l'[n]? = some (.rfs ds)) ds.length (fun i => ds.getD i (.f .none)) l1) : EvI K (iSeq K tl) ρ l R := fun m B H σ S e Rt q => by
  refine h m B H σ S e _ fun v m1 B1 H1 x l1 s1 S1 r1 ⟨n, ds, ex, hn, z⟩ => ?_
  subst ex
  obtain ⟨a, rfl, ha⟩ := r1
  obtain ⟨⟨us, e2, pr⟩, _⟩ := S1.obj n a _ ha hn
  refine ⟨a, rfl, .inl ⟨⟨us, SqL.of e2⟩, q (Itl K a) m1 B1 H1 l1 _ _ _ s1 S1 (fun i m' B' H' l' hs hp S' P => ?_) z⟩⟩
  have ha' : m'[n]? = some a := get_pre hp ha
  obtain ⟨⟨ws, e3, pr'⟩, _⟩ := S'.obj n a _ ha' P
  have hl : ws.length = ds.length := pr'.length
  refine ⟨fun hi => ?_, fun hi => ⟨ws, SqL.of e3, by omega⟩⟩
  have hd : ds[i]? = some ds[i] := by simp [hi]
  obtain ⟨v, hv, rv⟩ := pair_get pr' hd
  refine ⟨⟨ws, v, SqL.of e3, hv⟩, fun y H3 ⟨eH, hy⟩ => ?_⟩
  subst eH
  have := hy ws (SqL.of e3)
  rw [hv] at this; cases this
  refine ⟨B', Step.refl _ _ _, S', ?_⟩
  show VR K m' B' v (ds.getD i (.f .none))
  rw [List.getD_eq_getElem?_getD, hd]
  exact rv
/-- a comprehension over a list with references -/
theorem e_lcRf {vs : List Nat} (hg : GG g vs) (h : EvS K tl ρ l fun x l1 => ∃ n ds, x = .own n ∧ l1[n]? = some (.rfs ds) ∧ ∃ I : Nat → List PyData → List O → Prop, I 0 [] l1 ∧ (∀ i acc l', i ≤ ds.length → I i acc l' → l'[n]? = some (.rfs ds) ∧ acc.length ≤ 100000) ∧
      (∀ i d acc l', ds[i]? = some d → I i acc l' → AsS K g d (wipe3 ρ vs) l' fun ρ2 l2 => EvT K tt ρ2 l2 fun b l3 => if b = true then EvS K te ρ2 l3 fun d l4 => ∃ y, d = .f y ∧ I (i + 1) (acc ++ [y]) l4 else I (i + 1) acc l3) ∧
      ∀ acc l', I ds.length acc l' → R (.own l'.length) (l' ++ [.lst acc])) : EvS K (tLc (iSeq K tl) g tt te vs) ρ l R :=
  e_lc (good_of hg) (i_seqR (h.imp fun x l1 ⟨n, ds, ex, hq, I, h0, hP, hs, hd⟩ => ⟨n, ds, ex, hq, I, h0, hP, fun i acc l' hi z => by
    have e : ds[i]? = some (ds.getD i (.f .none)) := by rw [List.getD_eq_getElem?_getD]; simp [hi]
    exact hs i _ acc l' e z, hd⟩))
/-- FOR over a list with references -/
theorem x_forRf (h : EvS K tl ρ l fun x l1 => ∃ n ds, x = .own n ∧ l1[n]? = some (.rfs ds) ∧ ∃ I : Nat → List (Option D) → List O → Prop, I 0 ρ l1 ∧ (∀ i ρ' l', i ≤ ds.length → I i ρ' l' → l'[n]? = some (.rfs ds)) ∧
      (∀ i d ρ' l', ds[i]? = some d → I i ρ' l' → AsS K g d ρ' l' fun ρ2 l2 => ExS K t ρ2 l2 ⟨I (i + 1), E.rt, E.nx, I (i + 1)⟩) ∧ ∀ ρ' l', I ds.length ρ' l' → E.nx ρ' l') : ExS K (tFor (iSeq K tl) g t) ρ l E :=
  x_for (i_seqR (h.imp fun x l1 ⟨n, ds, ex, hq, I, h0, hP, hs, hd⟩ => ⟨n, ds, ex, hq, I, h0, hP, fun i ρ' l' hi z => by
    have e : ds[i]? = some (ds.getD i (.f .none)) := by rw [List.getD_eq_getElem?_getD]; simp [hi]
    exact hs i _ ρ' l' e z, hd⟩))
/-! the store is cut, slots are forgotten -/
theorem wipe3_get {ρ : List (Option D)} {i : Nat} {d : D} : ∀ {vs : List Nat}, (wipe3 ρ vs)[i]? = some (some d) → ρ[i]? = some (some d)
  | [], h => h
  | j :: vs, h => by
    unfold wipe3 at h
    by_cases e : j = i
    · subst e
      have hl : j < (wipe3 ρ vs).length := by simpa using (List.getElem?_eq_some_iff.mp h).1
      rw [List.getElem?_set_self hl] at h; cases h
    · rw [List.getElem?_set_ne e] at h; exact wipe3_get h
def UndS (k : Nat) : List (Option D) → Prop
  | [] => True
  | none :: r => UndS k r
  | some d :: r => d.under k ∧ UndS k r
def UndO (k : Nat) : List O → Prop
  | [] => True
  | o :: r => o.under k ∧ UndO k r
theorem UndS.elim2 {k : Nat} {x y : Option D} (h : UndS k [x, y]) : UndS k [y] := by
  cases x with
  | none => exact h
  | some d => exact h.2
theorem UndS.all {k : Nat} : ∀ {ρ : List (Option D)}, UndS k ρ → ∀ (i : Nat) (d : D), ρ[i]? = some (some d) → d.under k
  | [], _, _, _, h => by simp at h
  | none :: r, u, 0, _, h => by simp at h
  | none :: r, u, i + 1, d, h => UndS.all (ρ := r) u i d (by simpa using h)
  | some e :: r, u, 0, d, h => by
    have : e = d := by simpa using h
    subst this; exact u.1
  | some e :: r, u, i + 1, d, h => UndS.all (ρ := r) u.2 i d (by simpa using h)
theorem UndO.all {k : Nat} : ∀ {l : List O}, UndO k l → ∀ o ∈ l, o.under k
  | [], _, _, h => by cases h
  | e :: r, u, o, h => by
    rcases List.mem_cons.mp h with rfl | h
    · exact u.1
    · exact UndO.all (l := r) u.2 o h
def Tidy (k : Nat) (vs : List Nat) (P : List (Option D) → List O → Prop) (ρ : List (Option D)) (l : List O) : Prop := UndS k (wipe3 ρ vs) ∧ UndO k (l.take k) ∧ P (wipe3 ρ vs) (l.take k)
theorem x_tidy (k : Nat) (vs : List Nat) (hk : l.length ≤ k) (h : ExS K t ρ l ⟨Tidy k vs E.nx, E.rt, Tidy k vs E.bk, Tidy k vs E.ct⟩) : ExS K t ρ l E := fun m B H σ S e Dn F => by
  have key : ∀ {σ' : St} {ρ' : List (Option D)} {m' : List Addr} {B' H' : Hp} {l' : List O}, Step m B H m' B' H' → SR K m' B' H' l' → ER K m' B' σ' ρ' → UndS k (wipe3 ρ' vs) → UndO k (l'.take k) →
      Step m B H (m'.take k) B' H' ∧ SR K (m'.take k) B' H' (l'.take k) ∧ ER K (m'.take k) B' σ' (wipe3 ρ' vs) := fun s S' e' hd hb =>
    ⟨s.cut S' (by rw [S.len]; exact hk), S'.cut k hb.all, by rw [wipe3_len]; exact e'.1, fun i d z => let ⟨v, a, b⟩ := e'.2 i d (wipe3_get z); ⟨v, a, b.cut (hd.all i d z)⟩⟩
  refine h m B H σ S e Dn ⟨fun σ' ρ' m' B' H' l' s S' e' ⟨hd, hb, z⟩ => ?_, F.rt, fun σ' ρ' m' B' H' l' s S' e' ⟨hd, hb, z⟩ => ?_, fun σ' ρ' m' B' H' l' s S' e' ⟨hd, hb, z⟩ => ?_⟩
  · obtain ⟨a, b, c⟩ := key s S' e' hd hb
    exact F.nx _ _ _ _ _ _ a b c z
  · obtain ⟨a, b, c⟩ := key s S' e' hd hb
    exact F.bk _ _ _ _ _ _ a b c z
  · obtain ⟨a, b, c⟩ := key s S' e' hd hb
    exact F.ct _ _ _ _ _ _ a b c z
end
end L3
/-! L3p: repr of data -/
namespace L3
open PySem L2 PySem.Spec PyProof.Rows
mutual
/-- data whose text is short by its size: texts of real signs, ints of at most forty figures, no dict -/
def brief : PyData → Bool
  | .none | .bool _ => true
  | .int i => decide (i.natAbs < 10 ^ 40)
  | .str x => PyData.strOk x
  | .list xs | .tuple xs => briefAll xs
  | .dict _ => false
def briefAll : List PyData → Bool
  | [] => true
  | x :: xs => brief x && briefAll xs
end
mutual
def wt : PyData → Nat
  | .none | .bool _ => 5
  | .int _ => 42
  | .str x => 10 * x.length + 2
  | .list xs | .tuple xs => 3 + wtAll xs
  | .dict _ => 0
def wtAll : List PyData → Nat
  | [] => 0
  | x :: xs => wt x + 2 + wtAll xs
end
theorem str_len_add (x y : Str) : (x ++ y).length = x.length + y.length := len_app x y
theorem textFrom_le : ∀ (ts : List Str) (k : Nat) (acc : Str), (textFrom k acc ts).length ≤ acc.length + piled ts
  | [], k, acc => by show acc.length ≤ _; omega
  | t :: r, k, acc => by
    have h := textFrom_le r (k + 1) (acc ++ (if k > 0 then ", " else "" : String) ++ t)
    have e : (acc ++ (if k > 0 then ", " else "" : String) ++ t).length ≤ acc.length + 2 + t.length := by
      rw [str_len_add, str_len_add]
      have : (Str.ofString (if k > 0 then ", " else "" : String)).length ≤ 2 := by split <;> decide
      omega
    rw [piled_cons]
    show (textFrom (k + 1) _ r).length ≤ _
    omega
theorem listText_le (ts : List Str) : (listText ts).length ≤ 2 + piled ts := by
  unfold listText
  rw [str_len_add]
  have h := textFrom_le ts 0 "["
  have e1 : (Str.ofString "[").length = 1 := by decide
  have e2 : (Str.ofString "]").length = 1 := by decide
  omega
theorem tupleText_le (ts : List Str) : (tupleText ts).length ≤ 3 + piled ts := by
  unfold tupleText
  rw [str_len_add, str_len_add]
  have e1 : (Str.ofString "(").length = 1 := by decide
  have e2 : (Str.ofString (if ts.length == 1 then ",)" else ")" : String)).length ≤ 2 := by split <;> decide
  cases ts with
  | nil =>
    have e3 : (Str.join ", " ([] : List Str)).length = 0 := by decide
    omega
  | cons t r =>
    have h := join_length_add (t :: r) (by simp)
    omega
mutual
theorem shown_le : ∀ d : PyData, brief d = true → d.shown.length ≤ wt d
  | .none, _ => by decide
  | .bool b, _ => by cases b <;> decide
  | .int i, h => by
    have h' : i.natAbs < 10 ^ 40 := of_decide_eq_true (by simpa [brief] using h)
    have e := int_text_length_le10 (k := 40) (by decide) h'
    show (Str.ofString (toString i)).length ≤ 42
    rw [PySem.ofString_length]
    omega
  | .str x, h => by
    have h' : PyData.strOk x = true := by simpa [brief] using h
    show (reprText x).length ≤ 10 * x.length + 2
    refine StrLaws.reprText_len x fun c hc => ?_
    unfold PyData.strOk at h'
    rw [Array.all_eq_true'] at h'
    have := of_decide_eq_true (h' c (by simpa using hc))
    omega
  | .list xs, h => by
    have ih := shownAll_le xs (by simpa [brief] using h)
    have := listText_le (PyData.shownAll xs)
    simp only [PyData.shown, wt]
    omega
  | .tuple xs, h => by
    have ih := shownAll_le xs (by simpa [brief] using h)
    have := tupleText_le (PyData.shownAll xs)
    simp only [PyData.shown, wt]
    omega
  | .dict _, h => by simp [brief] at h
theorem shownAll_le : ∀ xs : List PyData, briefAll xs = true → piled (PyData.shownAll xs) ≤ wtAll xs
  | [], _ => by simp [PyData.shownAll, piled, wtAll]
  | x :: xs, h => by
    have h' : brief x = true ∧ briefAll xs = true := by simpa [briefAll] using h
    have h1 := shown_le x h'.1
    have h2 := shownAll_le xs h'.2
    simp only [PyData.shownAll, wtAll, piled_cons]
    omega
end
mutual
theorem brief_shows : ∀ d : PyData, brief d = true → d.showable = true ∧ d.hasDict = false
  | .none, _ => ⟨rfl, rfl⟩
  | .bool b, _ => ⟨rfl, rfl⟩
  | .int i, h => by
    have h' : i.natAbs < 10 ^ 40 := of_decide_eq_true (by simpa [brief] using h)
    refine ⟨?_, rfl⟩
    have : i.natAbs.log2 < 1920 := by
      by_cases h0 : i.natAbs = 0
      · rw [h0]; decide
      · exact (Nat.log2_lt h0).mpr (Nat.lt_trans h' (by decide +kernel))
    simpa [PyData.showable] using this
  | .str x, _ => ⟨rfl, rfl⟩
  | .list xs, h => by
    have ih := briefAll_shows xs (by simpa [brief] using h)
    simpa [PyData.showable, PyData.hasDict] using ih
  | .tuple xs, h => by
    have ih := briefAll_shows xs (by simpa [brief] using h)
    simpa [PyData.showable, PyData.hasDict] using ih
  | .dict _, h => by simp [brief] at h
theorem briefAll_shows : ∀ xs : List PyData, briefAll xs = true → PyData.showableAll xs = true ∧ PyData.hasDictAll xs = false
  | [], _ => ⟨rfl, rfl⟩
  | x :: xs, h => by
    have h' : brief x = true ∧ briefAll xs = true := by simpa [briefAll] using h
    have h1 := brief_shows x h'.1
    have h2 := briefAll_shows xs h'.2
    simp [PyData.showableAll, PyData.hasDictAll, h1.1, h1.2, h2.1, h2.2]
end
/-- repr(x) of data -/
def rRepr (K : PySem.W.Frag) : List V → Hp → VK → Prop := fun xs H Q => ∃ x d, xs = [x] ∧ Dp K H x d ∧ brief d = true ∧ wt d ≤ 1000000 ∧ d.depth ≤ 60 ∧ Q (.str d.shown) H
theorem u_repr {X : Cx} {K : PySem.W.Frag} (hK : X.K = K) (hg : X.A.guards = some []) (hu : X.A.units + 64 < cLine) : CallR X (.builtin "repr") (rRepr K) := by
  subst hK
  rintro pins s σ H xs us Q I r ⟨x, d, rfl, hd, hb, hw, hdp, q⟩
  obtain ⟨u, rfl, rx⟩ := vals1 r
  have hsz : d.shown.length ≤ sizeLine := Nat.le_trans (shown_le d hb) (Nat.le_trans hw (by decide))
  obtain ⟨hs, hn⟩ := brief_shows d hb
  have fin : ∀ t tk, EP X pins σ Q (.str d.shown t) { s with toks := tk } := fun t tk => ⟨.str d.shown, H, I.tok tk, ⟨t, rfl⟩, q⟩
  have byRef : ∀ a, u = .ref a → wpAny (model X.prog X.w) X.A (call (.builtin "repr") [u]) (EP X pins σ Q) X.xe s := by
    rintro a rfl
    obtain ⟨as, rd⟩ := Dp.reads I d x _ hd rx
    refine repr_of_reads' rd hs (fun z => by rw [hn] at z; cases z) hg (by omega) (fun _ _ e => e) (fun h' u tk hk => ?_) hsz
    exact ⟨.str d.shown, H, I.kept (t' := tk) hk, ⟨u, rfl⟩, q⟩
  cases hd with
  | non => cases (show u = Value.none from rx); exact PySem.P.repr_of_none (fin _ _)
  | bl b => cases (show u = Value.bool b from rx); exact PySem.P.repr_of_bool (by cases b <;> exact fin _ _)
  | int i =>
    obtain ⟨t, rfl⟩ := rx
    have h' : i.natAbs.log2 < 1920 := by simpa [PyData.showable] using hs
    exact PySem.P.repr_of_int h' (fin _ _)
  | str y => obtain ⟨t, rfl⟩ := rx; exact PySem.P.repr_of_str (fin _ _) hsz
  | lst _ _ => exact byRef _ rx
  | tup _ _ => exact byRef _ rx
/-! the sizes of lists of texts -/
theorem brief_sPy {xs : List Str} (h : ∀ x ∈ xs, PyData.strOk x = true) : briefAll (sPy xs) = true := by
  induction xs with
  | nil => rfl
  | cons x xs ih =>
    show briefAll (.str x :: sPy xs) = true
    simp [briefAll, brief, h x List.mem_cons_self, ih fun y hy => h y (List.mem_cons_of_mem _ hy)]
theorem wt_sPy {xs : List Str} {k : Nat} (h : ∀ x ∈ xs, x.length ≤ k) : wtAll (sPy xs) ≤ (10 * k + 4) * xs.length := by
  induction xs with
  | nil => simp [sPy, wtAll]
  | cons x xs ih =>
    have i1 := ih fun y hy => h y (List.mem_cons_of_mem _ hy)
    have i2 := h x List.mem_cons_self
    show wtAll (.str x :: sPy xs) ≤ _
    simp only [wtAll, wt, List.length_cons, Nat.mul_add]
    omega
theorem brief_pPy {es : List (Str × Str)} (h : ∀ e ∈ es, PyData.strOk e.1 = true ∧ PyData.strOk e.2 = true) : briefAll (pPy es) = true := by
  induction es with
  | nil => rfl
  | cons e es ih =>
    show briefAll (.tuple [.str e.1, .str e.2] :: pPy es) = true
    simp [briefAll, brief, h e List.mem_cons_self, ih fun y hy => h y (List.mem_cons_of_mem _ hy)]
theorem wt_pPy {es : List (Str × Str)} {k : Nat} (h : ∀ e ∈ es, e.1.length ≤ k ∧ e.2.length ≤ k) : wtAll (pPy es) ≤ (20 * k + 13) * es.length := by
  induction es with
  | nil => simp [pPy, wtAll]
  | cons e es ih =>
    have i1 := ih fun y hy => h y (List.mem_cons_of_mem _ hy)
    have i2 := h e List.mem_cons_self
    show wtAll (.tuple [.str e.1, .str e.2] :: pPy es) ≤ _
    simp only [wtAll, wt, List.length_cons, Nat.mul_add]
    omega
end L3
/-! L3q: is None, list(range(..)), sorted, slices of the script, dict displays, numbers -/
namespace L3
open PySem L2
section
variable {K : PySem.W.Frag} {m m' : List Addr} {B B' H H' : Hp} {l : List O} {σ : St} {ρ : List (Option D)} {R : D → List O → Prop} {E : E3} {ta te tl : TE} {tt : TT} {t u : TS} {ty : TA} {g : TG}
def isNon : D → Bool
  | .f .none => true
  | _ => false
theorem isNon_iff {v : V} {x : D} (r : VR K m B v x) : decide (v = .non) = isNon x := by
  cases x with
  | own n => obtain ⟨a, rfl, _⟩ := r; rfl
  | sq s => obtain ⟨a, rfl, _⟩ := r; rfl
  | f d => cases d <;> cases r <;> rfl
theorem o_isN {x : D} (z : R (.f (.bool (isNon x))) l) : OpS K rIsN x (.f .none) l R := fun m B H vx vy S r1 r2 Q q => by
  refine ⟨by cases r2; rfl, ?_⟩
  rw [isNon_iff r1]
  exact retF S q (FR.bl _) z
theorem o_notN {x : D} (z : R (.f (.bool (!isNon x))) l) : OpS K rNotN x (.f .none) l R := fun m B H vx vy S r1 r2 Q q => by
  refine ⟨by cases r2; rfl, ?_⟩
  rw [isNon_iff r1]
  exact retF S q (FR.bl _) z
/-- as xs_gate, and what is known where the test fails -/
theorem xs_gateC (C : Prop) (h1 : EvT K tt ρ l fun b l1 => if b = true then ExS K t ρ l1 ⟨fun _ _ => False, E.rt, E.bk, E.ct⟩ else l1 = l ∧ C) (h2 : C → ExS K u ρ l E) : ExS K (tSeq (tIfS tt t tNext) u) ρ l E :=
  x_seq (x_if (h1.imp fun b l1 z => by
    cases b with
    | true => exact ExS.imp z (fun _ _ q => q.elim) (fun _ _ q => q) (fun _ _ q => q) fun _ _ q => q
    | false =>
      obtain ⟨e, c⟩ := z
      subst e
      exact x_next (h2 c)))
/-! numbers -/
/-- 0, 1, .. below n -/
def upto (n : Nat) : List Int := (List.range n).map fun i : Nat => (Int.ofNat i)
theorem upto_len (n : Nat) : (upto n).length = n := by simp [upto]
/-! dict displays -/
def EvP (K : PySem.W.Frag) : List (TE × TE) → List (Option D) → List O → (List (Key × PyData) → List O → Prop) → Prop
  | [], _, l, R => R [] l
  | (tk, tv) :: r, ρ, l, R => EvS K tk ρ l fun x l1 => EvS K tv ρ l1 fun y l2 => ∃ k d, x = .f (keyD k) ∧ y = .f d ∧ EvP K r ρ l2 fun ps l3 => R ((k, d) :: ps) l3
theorem evp_run : ∀ {trs : List (TE × TE)} {R : List (Key × PyData) → List O → Prop} {l : List O} {m : List Addr} {B H : Hp}, EvP K trs ρ l R → SR K m B H l → ER K m B σ ρ → ∀ Q : List (V × V) → Hp → Prop,
    (∀ (m' : List Addr) (B' H' : Hp) (l' : List O) (kvs : List (Key × V)) (ps : List (Key × PyData)), Step m B H m' B' H' → SR K m' B' H' l' → Paired (fun (p : Key × V) (q : Key × PyData) => p.1 = q.1 ∧ FR K B' p.2 q.2) kvs ps → R ps l' → Q (kvs.map fun kv => (kV kv.1, kv.2)) H') → tPairs trs σ H Q
  | [], R, l, m, B, H, h, S, e, Q, q => q m B H l [] [] (Step.refl _ _ _) S .nil h
  | (tk, tv) :: r, R, l, m, B, H, h, S, e, Q, q => by
    refine h m B H σ S e _ fun vx m1 B1 H1 x l1 s1 S1 r1 z1 => ?_
    refine z1 m1 B1 H1 σ S1 (e.step s1) _ fun vy m2 B2 H2 y l2 s2 S2 r2 ⟨k, d, ex, ey, z2⟩ => ?_
    subst ex ey
    refine evp_run z2 S2 (e.step (s1.trans s2)) _ fun m3 B3 H3 l3 kvs ps s3 S3 pr z3 => ?_
    have ek := kv_of (k := k) (r1.step (s2.trans s3))
    have := q m3 B3 H3 l3 ((k, vy) :: kvs) ((k, d) :: ps) ((s1.trans s2).trans s3) S3 (.cons ⟨rfl, r2.step s3⟩ pr) z3
    rw [ek]
    exact this
theorem e_disp {trs : List (TE × TE)} (hn : trs.length ≤ 15) (h : EvP K trs ρ (l ++ [.dct []]) fun ps l1 => ps.length ≤ 15 ∧ l1[l.length]? = some (.dct []) ∧ R (.own l.length) (l1.set l.length (.dct (mergeD [] ps)))) : EvS K (tDisp trs) ρ l R := fun m B H σ S e Q q => by
  intro p hp
  obtain ⟨S1, s1, r1⟩ := S.alloc (u := .dK []) (o := .dct []) hp ⟨[], upd_same, .nil⟩
  refine evp_run h S1 (e.step s1) _ fun m2 B2 H2 l2 kvs ps s2 S2 pr ⟨h15, hd, z⟩ => ?_
  obtain ⟨a, ea, ha⟩ := r1.step s2
  cases ea
  obtain ⟨⟨ks, e3, pr3⟩, hb⟩ := S2.obj l.length p _ ha hd
  cases pr3
  refine ⟨e3, kvs, rfl, by rw [pr.length]; exact h15, ?_⟩
  have mg := merge_of pr (ks := []) (kvs := []) .nil
  obtain ⟨S4, s4⟩ := S2.write (u := .dK (mergeK [] kvs)) (o := .dct (mergeD [] ps)) ha (hb (by simp)) ⟨_, upd_same, mg⟩
  exact q (.ref p) m2 B2 _ (.own l.length) _ ((s1.trans s2).trans s4) S4 ⟨p, rfl, ha⟩ z
end
/-! pairs of numbers -/
def nPy (es : List (Int × Int)) : List PyData := es.map fun e => .tuple [.int e.1, .int e.2]
theorem mem_ins {α : Type} {xs : List α} {x y : α} {n : Nat} (h : y ∈ xs.take n ++ [x] ++ xs.drop n) : y ∈ xs ∨ y = x := by
  rcases List.mem_append.mp h with h | h
  · rcases List.mem_append.mp h with h | h
    · exact .inl (List.mem_of_mem_take h)
    · exact .inr (by simpa using h)
  · exact .inl (List.mem_of_mem_drop h)
theorem len_ins {α : Type} {xs : List α} {x : α} {n : Nat} : (xs.take n ++ [x] ++ xs.drop n).length = xs.length + 1 := by
  rw [List.length_append, List.length_append, List.length_take, List.length_drop]
  simp
  omega
theorem lets_le : lets.length ≤ 100000 := by rw [lets_len]; decide
theorem sPy_get_of {xs : List Str} {i : Nat} {x : Str} (h : xs[i]? = some x) : (sPy xs)[i]? = some (.str x) := by
  show (xs.map PyData.str)[i]? = _
  rw [List.getElem?_map, h]; rfl
end L3
/-! L3r: what a thing reaches: the search in rounds, as plain lists -/
namespace L3
open PySem L2
/-- the number in a slot -/
def slotI (ρ : List (Option D)) (i : Nat) : Nat := match ρ[i]? with
  | some (some (D.f (PyData.int a))) => a.toNat
  | _ => 0
def nextsM (ts : List Str) (es : List (Str × Str)) (one : Str) : List Str := ts.filter fun n => es.any fun e => decide (e.1 = one) && decide (e.2 = n)
def priorsM (ts : List Str) (es : List (Str × Str)) (one : Str) : List Str := ts.filter fun n => es.any fun e => decide (e.2 = one) && decide (e.1 = n)
theorem mem_nextsM {ts : List Str} {es : List (Str × Str)} {one n : Str} : n ∈ nextsM ts es one ↔ n ∈ ts ∧ (one, n) ∈ es := by
  unfold nextsM
  rw [List.mem_filter, List.any_eq_true]
  constructor
  · rintro ⟨h, e, he, h2⟩
    simp only [Bool.and_eq_true, decide_eq_true_eq] at h2
    refine ⟨h, ?_⟩
    have : e = (one, n) := Prod.ext h2.1 h2.2
    rw [← this]; exact he
  · rintro ⟨h, he⟩
    exact ⟨h, (one, n), he, by simp⟩
theorem mem_priorsM {ts : List Str} {es : List (Str × Str)} {one n : Str} : n ∈ priorsM ts es one ↔ n ∈ ts ∧ (n, one) ∈ es := by
  unfold priorsM
  rw [List.mem_filter, List.any_eq_true]
  constructor
  · rintro ⟨h, e, he, h2⟩
    simp only [Bool.and_eq_true, decide_eq_true_eq] at h2
    refine ⟨h, ?_⟩
    have : e = (n, one) := Prod.ext h2.2 h2.1
    rw [← this]; exact he
  · rintro ⟨h, he⟩
    exact ⟨h, (n, one), he, by simp⟩
/-- the things come to, in order, each with the one it was come to from -/
abbrev Came := List (Str × Option Str)
def hasK (c : Came) (o : Str) : Bool := c.any fun p => decide (p.1 = o)
def metAdd (x : Str) (c : Came) (o : Str) : Came := if hasK c o = true then c else c ++ [(o, some x)]
def metGo (nx : Str → List Str) : Nat → Came → Nat → Came
  | 0, c, _ => c
  | n + 1, c, a => match c[a]? with
    | none => c
    | some p => metGo nx n ((nx p.1).foldl (metAdd p.1) c) (a + 1)
def stepM (ts : List Str) (es : List (Str × Str)) (back : Bool) (x : Str) : List Str := if back = true then priorsM ts es x else nextsM ts es x
def metM (ts : List Str) (es : List (Str × Str)) (one : Str) (back : Bool) : Came := metGo (stepM ts es back) (ts.length + 2) [(one, none)] 0
def fromD : Option Str → PyData
  | none => .none
  | some x => .str x
def camePy (c : Came) : List (Key × PyData) := c.map fun p => (.inr p.1, fromD p.2)
theorem camePy_len (c : Came) : (camePy c).length = c.length := List.length_map ..
theorem came_any (c : Came) (o : Str) : ((camePy c).any fun p => decide (p.1 = (Sum.inr o : Key))) = hasK c o := by
  unfold camePy hasK
  rw [List.any_map]
  congr 1
  funext p
  show decide ((Sum.inr p.1 : Key) = Sum.inr o) = _
  exact decide_eq_decide.mpr ⟨fun h => Sum.inr.inj h, fun h => by rw [h]⟩
theorem came_look (c : Came) (o : Str) : (lookD (camePy c) (.inr o)).isSome = hasK c o := by
  rw [← came_any]
  unfold lookD
  rw [Option.isSome_map]
  induction camePy c with
  | nil => rfl
  | cons p ps ih =>
    rw [List.find?_cons, List.any_cons]
    cases decide (p.1 = (Sum.inr o : Key)) with
    | true => rfl
    | false => simpa using ih
theorem came_put (c : Came) (o x : Str) (h : hasK c o = false) : putD (camePy c) (.inr o) (.str x) = camePy (c ++ [(o, some x)]) := by
  unfold putD
  rw [came_any, h]
  simp [camePy, fromD]
theorem hasK_iff {c : Came} {o : Str} : hasK c o = true ↔ o ∈ c.map (·.1) := by
  unfold hasK
  rw [List.any_eq_true, List.mem_map]
  constructor
  · rintro ⟨p, h, e⟩; exact ⟨p, h, of_decide_eq_true e⟩
  · rintro ⟨p, h, e⟩; exact ⟨p, h, decide_eq_true e⟩
theorem nodup_le {α : Type} [DecidableEq α] : ∀ {xs ys : List α}, xs.Nodup → (∀ x ∈ xs, x ∈ ys) → xs.length ≤ ys.length
  | [], _, _, _ => Nat.zero_le _
  | x :: xs, ys, h, hs => by
    rw [List.nodup_cons] at h
    have hx := hs x List.mem_cons_self
    have ih := nodup_le (ys := ys.erase x) h.2 fun y hy => (List.mem_erase_of_ne (fun (e : y = x) => h.1 (by rw [← e]; exact hy))).mpr (hs y (List.mem_cons_of_mem _ hy))
    rw [List.length_erase_of_mem hx] at ih
    have : 0 < ys.length := List.length_pos_of_mem hx
    rw [List.length_cons]
    omega
structure CameOk (one : Str) (ts : List Str) (c : Came) : Prop where
  nd : (c.map (·.1)).Nodup
  sub : ∀ p ∈ c, p.1 = one ∨ p.1 ∈ ts
theorem CameOk.len {one : Str} {ts : List Str} {c : Came} (h : CameOk one ts c) : c.length ≤ ts.length + 1 := by
  have := nodup_le (ys := one :: ts) h.nd fun x hx => by
    obtain ⟨p, hp, rfl⟩ := List.mem_map.mp hx
    exact List.mem_cons.mpr (h.sub p hp)
  simpa using this
theorem CameOk.snoc {one : Str} {ts : List Str} {c : Came} (h : CameOk one ts c) {x o : Str} (ho : o ∈ ts) (hk : hasK c o = false) : CameOk one ts (c ++ [(o, some x)]) := by
  refine ⟨?_, fun p hp => ?_⟩
  · rw [List.map_append, List.nodup_append]
    refine ⟨h.nd, by simp, fun a ha b hb e => ?_⟩
    have : b = o := by simpa using hb
    subst this e
    rw [hasK_iff.mpr ha] at hk; cases hk
  · rcases List.mem_append.mp hp with hp | hp
    · exact h.sub p hp
    · have : p = (o, some x) := by simpa using hp
      subst this; exact .inr ho
theorem CameOk.add {one : Str} {ts : List Str} {c : Came} (h : CameOk one ts c) {x o : Str} (ho : o ∈ ts) : CameOk one ts (metAdd x c o) := by
  unfold metAdd
  cases hk : hasK c o with
  | true => simpa using h
  | false => simpa using h.snoc ho hk
theorem hasK_app {c d : Came} {o : Str} : hasK (c ++ d) o = (hasK c o || hasK d o) := List.any_append ..
theorem metAdd_has (x : Str) (c : Came) (o : Str) : hasK (metAdd x c o) o = true := by
  unfold metAdd
  cases hk : hasK c o with
  | true => simpa using hk
  | false => simp [hasK]
theorem metAdd_pre (x : Str) (c : Came) (o : Str) : ∃ t, metAdd x c o = c ++ t ∧ ∀ p ∈ t, p = (o, some x) := by
  unfold metAdd
  cases hk : hasK c o with
  | true => exact ⟨[], by simp, nofun⟩
  | false => exact ⟨[(o, some x)], by simp, fun p hp => by simpa using hp⟩
theorem metFold {x : Str} : ∀ {os : List Str} {c : Came}, ∃ t, os.foldl (metAdd x) c = c ++ t ∧ (∀ p ∈ t, p.1 ∈ os ∧ p.2 = some x) ∧ ∀ o ∈ os, hasK (os.foldl (metAdd x) c) o = true
  | [], c => ⟨[], by simp, nofun, nofun⟩
  | o :: os, c => by
    obtain ⟨t1, e1, h1⟩ := metAdd_pre x c o
    obtain ⟨t2, e2, h2, h3⟩ := metFold (x := x) (os := os) (c := metAdd x c o)
    refine ⟨t1 ++ t2, by rw [List.foldl_cons, e2, e1, List.append_assoc], fun p hp => ?_, fun p hp => ?_⟩
    · rcases List.mem_append.mp hp with hp | hp
      · rw [h1 p hp]; exact ⟨List.mem_cons_self, rfl⟩
      · exact ⟨List.mem_cons_of_mem _ (h2 p hp).1, (h2 p hp).2⟩
    · rw [List.foldl_cons]
      rcases List.mem_cons.mp hp with rfl | hp
      · rw [e2, hasK_app, metAdd_has]; rfl
      · exact h3 p hp
theorem CameOk.fold {one : Str} {ts : List Str} {x : Str} : ∀ {os : List Str} {c : Came}, CameOk one ts c → (∀ o ∈ os, o ∈ ts) → CameOk one ts (os.foldl (metAdd x) c)
  | [], _, h, _ => h
  | o :: os, c, h, ho => by
    rw [List.foldl_cons]
    exact CameOk.fold (h.add (ho o List.mem_cons_self)) fun p hp => ho p (List.mem_cons_of_mem _ hp)
/-- going along ties -/
inductive Goes (nx : Str → List Str) : Str → Str → Prop
  | refl (a : Str) : Goes nx a a
  | tail {a b c : Str} : Goes nx a b → c ∈ nx b → Goes nx a c
theorem metGo_ok {nx : Str → List Str} {one : Str} {ts : List Str} (hs : ∀ x o, o ∈ nx x → o ∈ ts) : ∀ (fuel : Nat) (c : Came) (a : Nat), CameOk one ts c → (∀ p ∈ c, Goes nx one p.1) → (∀ (i : Nat) p, i < a → c[i]? = some p → ∀ o ∈ nx p.1, hasK c o = true) →
    ts.length + 1 < fuel + a → a ≤ c.length → hasK c one = true →
    CameOk one ts (metGo nx fuel c a) ∧ (∀ p ∈ metGo nx fuel c a, Goes nx one p.1) ∧ (∀ p ∈ metGo nx fuel c a, ∀ o ∈ nx p.1, hasK (metGo nx fuel c a) o = true) ∧ hasK (metGo nx fuel c a) one = true
  | 0, c, a, hc, hg, hd, hf, ha, h1 => by have := hc.len; omega
  | n + 1, c, a, hc, hg, hd, hf, ha, h1 => by
    unfold metGo
    cases e : c[a]? with
    | none =>
      refine ⟨hc, hg, fun p hp => ?_, h1⟩
      have hp : p ∈ c := hp
      obtain ⟨i, hi⟩ := List.getElem?_of_mem hp
      have hl := (List.getElem?_eq_some_iff.mp hi).1
      have := List.getElem?_eq_none_iff.mp e
      exact hd i p (by omega) hi
    | some p =>
      have hl := (List.getElem?_eq_some_iff.mp e).1
      obtain ⟨t, et, ht, hh⟩ := metFold (x := p.1) (os := nx p.1) (c := c)
      refine metGo_ok hs n _ (a + 1) (hc.fold fun o ho => hs _ o ho) (fun q hq => ?_) (fun i q hi hq o ho => ?_) (by omega) (by rw [et, List.length_append]; omega) (by rw [et, hasK_app, h1]; rfl)
      · rw [et] at hq
        rcases List.mem_append.mp hq with hq | hq
        · exact hg q hq
        · exact .tail (hg p (List.mem_of_getElem? e)) (ht q hq).1
      · rw [et, List.getElem?_append_left (show i < c.length by omega)] at hq
        by_cases hia : i < a
        · rw [et, hasK_app, hd i q hia hq o ho]; rfl
        · have : i = a := by omega
          subst this
          rw [e] at hq; cases hq
          exact hh o ho
theorem metGo_end {nx : Str → List Str} {n : Nat} {c : Came} {a : Nat} (h : c.length ≤ a) : metGo nx n c a = c := by
  cases n with
  | zero => rfl
  | succ n =>
    unfold metGo
    rw [List.getElem?_eq_none h]
theorem metGo_next {nx : Str → List Str} {n : Nat} {c : Came} {a : Nat} {p : Str × Option Str} (h : c[a]? = some p) : metGo nx (n + 1) c a = metGo nx n ((nx p.1).foldl (metAdd p.1) c) (a + 1) := by
  show (match c[a]? with | none => c | some p => metGo nx n ((nx p.1).foldl (metAdd p.1) c) (a + 1)) = _
  rw [h]
theorem stepM_sub {ts : List Str} {es : List (Str × Str)} {back : Bool} (x o : Str) (h : o ∈ stepM ts es back x) : o ∈ ts := by
  unfold stepM at h
  cases back
  · exact (mem_nextsM.mp h).1
  · exact (mem_priorsM.mp h).1
theorem metM_ok (ts : List Str) (es : List (Str × Str)) (one : Str) (back : Bool) : CameOk one ts (metM ts es one back) ∧ ∀ o, hasK (metM ts es one back) o = true ↔ Goes (stepM ts es back) one o := by
  have h := metGo_ok (nx := stepM ts es back) (one := one) (ts := ts) stepM_sub (ts.length + 2) [(one, none)] 0 ⟨by simp, fun p hp => by simp at hp; subst hp; exact .inl rfl⟩ (fun p hp => by simp at hp; subst hp; exact .refl _) (fun i p hi _ => by omega) (by omega) (by simp) (by simp [hasK])
  refine ⟨h.1, fun o => ⟨fun ho => ?_, fun ho => ?_⟩⟩
  · obtain ⟨p, hp, rfl⟩ := List.mem_map.mp (hasK_iff.mp ho)
    exact h.2.1 p hp
  · induction ho with
    | refl => exact h.2.2.2
    | tail h1 h2 ih =>
      obtain ⟨p, hp, rfl⟩ := List.mem_map.mp (hasK_iff.mp ih)
      exact h.2.2.1 p hp _ h2
end L3
/-! L3s: numbers and their names: going along ties, either way told -/
namespace L3
open PySem L2
def InR (size a : Int) : Prop := 0 ≤ a ∧ a < size
def nm (xs : List Str) (a : Int) : Str := xs.getD a.toNat ""
def named (xs : List Str) (es : List (Int × Int)) : List (Str × Str) := es.map fun e => (nm xs e.1, nm xs e.2)
theorem nm_get {xs : List Str} {j : Nat} {x : Str} (h : xs[j]? = some x) : nm xs (j : Int) = x := by
  show xs.getD ((j : Int).toNat) "" = _
  rw [Int.toNat_natCast, List.getD_eq_getElem?_getD, h]; rfl
def nameF (xs : List Str) : PyData → Option PyData
  | .tuple [.int a, .int b] => some (.tuple [.str (nm xs a), .str (nm xs b)])
  | _ => none
theorem nameF_eq (xs : List Str) (es : List (Int × Int)) : (nPy es).filterMap (nameF xs) = pPy (named xs es) := by
  induction es with
  | nil => rfl
  | cons e es ih =>
    show (PyData.tuple [.int e.1, .int e.2] :: nPy es).filterMap _ = _
    rw [List.filterMap_cons, ih]
    rfl
/-- going along ties of numbers -/
inductive GoesI (es : List (Int × Int)) : Int → Int → Prop
  | refl (a : Int) : GoesI es a a
  | tail {a b c : Int} : GoesI es a b → (b, c) ∈ es → GoesI es a c
theorem GoesI.inR {es : List (Int × Int)} {size a b : Int} (he : ∀ e ∈ es, InR size e.1 ∧ InR size e.2) (ha : InR size a) (h : GoesI es a b) : InR size b := by
  cases h with
  | refl => exact ha
  | tail _ h2 => exact (he _ h2).2
/-- what one reaches, by places -/
def metL (ts : List Str) (es : List (Str × Str)) (one : Str) (back : Bool) : List Str := ts.filter fun x => hasK (metM ts es one back) x
theorem mem_upto {n : Nat} {k : Int} : k ∈ upto n ↔ InR n k := by
  unfold upto InR
  rw [List.mem_map]
  constructor
  · rintro ⟨i, hi, rfl⟩
    have := List.mem_range.mp hi
    show (0 : Int) ≤ (i : Int) ∧ (i : Int) < n
    omega
  · rintro ⟨h0, h1⟩
    exact ⟨k.toNat, List.mem_range.mpr (by omega), by show ((k.toNat : Nat) : Int) = k; omega⟩
end L3
/-! L3t: the ways of the search: of the fewest things, the first by places -/
namespace L3
open PySem L2
/-- reversed walks: shorter ones first, then by the places, what is nearer to the start first -/
inductive SLt (pl : Str → Int) : List Str → List Str → Prop
  | nil {c : Str} {q : List Str} : SLt pl [] (c :: q)
  | deep {b c : Str} {p q : List Str} : SLt pl p q → SLt pl (b :: p) (c :: q)
  | head {b c : Str} {p : List Str} : pl b < pl c → SLt pl (b :: p) (c :: p)
variable {pl : Str → Int}
theorem SLt.trans : ∀ {p q r : List Str}, SLt pl p q → SLt pl q r → SLt pl p r
  | _, _, _, .nil, .deep _ => .nil
  | _, _, _, .nil, .head _ => .nil
  | _, _, _, .deep h, .deep h' => .deep (SLt.trans h h')
  | _, _, _, .deep h, .head _ => .deep h
  | _, _, _, .head _, .deep h' => .deep h'
  | _, _, _, .head h, .head h' => .head (by omega)
theorem SLt.len {p q : List Str} (h : SLt pl p q) : p.length ≤ q.length := by
  induction h with
  | nil => simp
  | deep _ ih => simpa using ih
  | head _ => simp
/-- a walk from one, the last thing first -/
inductive RW (nx : Str → List Str) (one : Str) : List Str → Prop
  | base : RW nx one [one]
  | step {a b : Str} {p : List Str} : RW nx one (a :: p) → b ∈ nx a → RW nx one (b :: a :: p)
def toC (p : List Str) : Str × Option Str := (p.headD "", p.tail.head?)
abbrev Ways := List (List Str)
def hasW (Q : Ways) (o : Str) : Bool := hasK (Q.map toC) o
def wayAdd (P : List Str) (Q : Ways) (o : Str) : Ways := if hasW Q o = true then Q else Q ++ [o :: P]
def wayGo (nx : Str → List Str) : Nat → Ways → Nat → Ways
  | 0, Q, _ => Q
  | n + 1, Q, a => match Q[a]? with
    | none => Q
    | some P => wayGo nx n ((nx (P.headD "")).foldl (wayAdd P) Q) (a + 1)
theorem wayAdd_map {a : Str} {P : List Str} {Q : Ways} {o : Str} : (wayAdd (a :: P) Q o).map toC = metAdd a (Q.map toC) o := by
  unfold wayAdd metAdd hasW
  cases hasK (Q.map toC) o <;> simp [toC]
theorem wayFold_map {a : Str} {P : List Str} : ∀ {os : List Str} {Q : Ways}, (os.foldl (wayAdd (a :: P)) Q).map toC = os.foldl (metAdd a) (Q.map toC)
  | [], _ => rfl
  | o :: os, Q => by rw [List.foldl_cons, List.foldl_cons, wayFold_map, wayAdd_map]
/-- what holds of the ways so far: those at places below a are done; m: how much of a's is done -/
structure WOk (pl : Str → Int) (nx : Str → List Str) (one : Str) (a : Nat) (Q : Ways) : Prop where
  root : Q[0]? = some [one]
  rw : ∀ p ∈ Q, RW nx one p
  srt : Q.Pairwise (SLt pl)
  par : ∀ p ∈ Q, p = [one] ∨ ∃ (j : Nat) (P : List Str), j < a ∧ Q[j]? = some P ∧ p.tail = P
  cl : ∀ (j : Nat) (P : List Str), j < a → Q[j]? = some P → ∀ v ∈ nx (P.headD ""), ∃ p, p ∈ Q ∧ p.head? = some v ∧ (p = v :: P ∨ SLt pl p (v :: P))
theorem RW.ne {nx : Str → List Str} {one : Str} {p : List Str} (h : RW nx one p) : ∃ a q, p = a :: q := by
  cases h with
  | base => exact ⟨_, _, rfl⟩
  | step h1 h2 => exact ⟨_, _, rfl⟩
theorem hasW_iff {Q : Ways} {o : Str} (hne : ∀ p ∈ Q, ∃ a q, p = a :: q) : hasW Q o = true ↔ ∃ p, p ∈ Q ∧ p.head? = some o := by
  unfold hasW
  rw [hasK_iff, List.map_map, List.mem_map]
  constructor
  · rintro ⟨p, hp, e⟩
    obtain ⟨a, q, rfl⟩ := hne p hp
    exact ⟨_, hp, congrArg some e⟩
  · rintro ⟨p, hp, e⟩
    obtain ⟨a, q, rfl⟩ := hne p hp
    exact ⟨_, hp, Option.some.inj e⟩
/-- the things behind P are added, from the left -/
theorem wok_fold {nx : Str → List Str} {one : Str} {a : Nat} {P : List Str} {x : Str} {P' : List Str} (eP : P = x :: P') : ∀ (os done : List Str) (Q : Ways), nx x = done ++ os → (nx x).Pairwise (fun u v => pl u < pl v) → Q[a]? = some P →
    Q[0]? = some [one] → (∀ p ∈ Q, RW nx one p) → Q.Pairwise (SLt pl) → (∀ p ∈ Q, p = [one] ∨ (∃ (j : Nat) (R : List Str), j < a ∧ Q[j]? = some R ∧ p.tail = R) ∨ (p.tail = P ∧ ∃ v, v ∈ done ∧ p.head? = some v)) →
    (∀ (j : Nat) (R : List Str), j < a → Q[j]? = some R → ∀ v ∈ nx (R.headD ""), ∃ p, p ∈ Q ∧ p.head? = some v ∧ (p = v :: R ∨ SLt pl p (v :: R))) →
    (∀ v ∈ done, ∃ p, p ∈ Q ∧ p.head? = some v ∧ (p = v :: P ∨ SLt pl p (v :: P))) → WOk pl nx one (a + 1) (os.foldl (wayAdd P) Q) ∧ ∃ t, os.foldl (wayAdd P) Q = Q ++ t
  | [], done, Q, hd, hs, ha, h0, hr, hq, hp, hc, hv => by
    show WOk pl nx one (a + 1) Q ∧ ∃ t, Q = Q ++ t
    refine ⟨⟨h0, hr, hq, fun p h => ?_, fun j R hj hR v hvR => ?_⟩, [], by simp⟩
    · rcases hp p h with h1 | ⟨j, R, h1, h2, h3⟩ | ⟨h1, _⟩
      · exact .inl h1
      · exact .inr ⟨j, R, by omega, h2, h3⟩
      · exact .inr ⟨a, P, by omega, ha, h1⟩
    · by_cases hja : j < a
      · exact hc j R hja hR v hvR
      · have : j = a := by omega
        subst this
        rw [ha] at hR
        cases hR
        rw [eP] at hvR
        have hvR : v ∈ nx x := hvR
        rw [hd, List.append_nil] at hvR
        exact hv v hvR
  | o :: os, done, Q, hd, hs, ha, h0, hr, hq, hp, hc, hv => by
    have hon : o ∈ nx x := by rw [hd]; simp
    have hd' : nx x = (done ++ [o]) ++ os := by rw [hd]; simp
    have ne : ∀ p ∈ Q, ∃ a q, p = a :: q := fun p h => (hr p h).ne
    have before : ∀ v ∈ done, pl v < pl o := fun v hv => by
      rw [hd, List.pairwise_append] at hs
      exact hs.2.2 v hv o List.mem_cons_self
    -- whatever stands in Q stands before o :: P
    have less : ∀ p ∈ Q, SLt pl p (o :: P) := fun p h => by
      rcases hp p h with rfl | ⟨j, R, h1, h2, h3⟩ | ⟨h1, v, hv1, hv2⟩
      · rw [eP]; exact .deep .nil
      · obtain ⟨b, q, rfl⟩ := ne p h
        have e3 : q = R := h3
        subst e3
        have lj := (List.getElem?_eq_some_iff.mp h2).1
        have la := (List.getElem?_eq_some_iff.mp ha).1
        have := List.pairwise_iff_getElem.mp hq j a lj la h1
        rw [List.getElem?_eq_getElem lj] at h2
        rw [List.getElem?_eq_getElem la] at ha
        rw [Option.some.inj h2, Option.some.inj ha] at this
        exact .deep this
      · obtain ⟨b, q, rfl⟩ := ne p h
        have e1 : q = P := h1
        have e2 : b = v := Option.some.inj hv2
        subst e1 e2
        exact .head (before _ hv1)
    have ew : wayAdd P Q o = if hasW Q o = true then Q else Q ++ [o :: P] := rfl
    rw [List.foldl_cons, ew]
    cases hk : hasW Q o with
    | true =>
      rw [if_pos rfl]
      obtain ⟨p, hpQ, hpo⟩ := (hasW_iff ne).mp hk
      refine wok_fold eP os (done ++ [o]) Q hd' hs ha h0 hr hq (fun p h => ?_) hc (fun v hv1 => ?_)
      · rcases hp p h with h1 | h1 | ⟨h1, v, hv1, hv2⟩
        · exact .inl h1
        · exact .inr (.inl h1)
        · exact .inr (.inr ⟨h1, v, by simp [hv1], hv2⟩)
      · rcases List.mem_append.mp hv1 with hv1 | hv1
        · exact hv v hv1
        · have : v = o := by simpa using hv1
          subst this
          exact ⟨p, hpQ, hpo, .inr (less p hpQ)⟩
    | false =>
      rw [if_neg (by decide)]
      have la := (List.getElem?_eq_some_iff.mp ha).1
      have keep : ∀ {j : Nat} {R : List Str}, Q[j]? = some R → (Q ++ [o :: P])[j]? = some R := fun {j R} e => by
        rw [List.getElem?_append_left (List.getElem?_eq_some_iff.mp e).1]; exact e
      have nxt := wok_fold eP os (done ++ [o]) (Q ++ [o :: P]) hd' hs (keep ha) (keep h0) (fun p h => ?_) ?_ (fun p h => ?_) (fun j R hj hR v hvR => ?_) (fun v hv1 => ?_)
      · obtain ⟨w, t, et⟩ := nxt
        exact ⟨w, [o :: P] ++ t, by rw [et, List.append_assoc]⟩
      · rcases List.mem_append.mp h with h | h
        · exact hr p h
        · have : p = o :: P := by simpa using h
          subst this
          have hP := hr P (List.mem_of_getElem? ha)
          rw [eP] at hP ⊢
          exact .step hP hon
      · rw [List.pairwise_append]
        exact ⟨hq, by simp, fun p h q h' => by have : q = o :: P := by simpa using h'
                                               subst this; exact less p h⟩
      · rcases List.mem_append.mp h with h | h
        · rcases hp p h with h1 | ⟨j, R, h1, h2, h3⟩ | ⟨h1, v, hv1, hv2⟩
          · exact .inl h1
          · exact .inr (.inl ⟨j, R, h1, keep h2, h3⟩)
          · exact .inr (.inr ⟨h1, v, by simp [hv1], hv2⟩)
        · have : p = o :: P := by simpa using h
          subst this
          exact .inr (.inr ⟨rfl, o, by simp, rfl⟩)
      · rw [List.getElem?_append_left (by omega)] at hR
        obtain ⟨p, h1, h2, h3⟩ := hc j R hj hR v hvR
        exact ⟨p, List.mem_append_left _ h1, h2, h3⟩
      · rcases List.mem_append.mp hv1 with hv1 | hv1
        · obtain ⟨p, h1, h2, h3⟩ := hv v hv1
          exact ⟨p, List.mem_append_left _ h1, h2, h3⟩
        · have : v = o := by simpa using hv1
          subst this
          exact ⟨v :: P, by simp, rfl, .inl rfl⟩
theorem way_go {nx : Str → List Str} {one : Str} {ts : List Str} (hs : ∀ x o, o ∈ nx x → o ∈ ts) (hp : ∀ x, (nx x).Pairwise fun u v => pl u < pl v) : ∀ (fuel : Nat) (Q : Ways) (a : Nat), WOk pl nx one a Q → CameOk one ts (Q.map toC) → ts.length + 1 < fuel + a →
    (wayGo nx fuel Q a).map toC = metGo nx fuel (Q.map toC) a ∧ ∃ a', WOk pl nx one a' (wayGo nx fuel Q a) ∧ (wayGo nx fuel Q a).length ≤ a'
  | 0, Q, a, w, hc, hf => ⟨rfl, a, w, by have := hc.len; rw [List.length_map] at this; show Q.length ≤ a; omega⟩
  | n + 1, Q, a, w, hc, hf => by
    unfold wayGo
    cases e : Q[a]? with
    | none =>
      have hl := List.getElem?_eq_none_iff.mp e
      exact ⟨(metGo_end (by rw [List.length_map]; exact hl)).symm, a, w, hl⟩
    | some P =>
      obtain ⟨x, P', rfl⟩ := (w.rw P (List.mem_of_getElem? e)).ne
      have em : (Q.map toC)[a]? = some (toC (x :: P')) := by rw [List.getElem?_map, e]; rfl
      obtain ⟨w2, t, et⟩ := wok_fold (pl := pl) (nx := nx) (one := one) (x := x) rfl (nx x) [] Q rfl (hp x) e w.root w.rw w.srt (fun p h => (w.par p h).imp id fun h => .inl h) w.cl nofun
      rw [metGo_next em]
      have ef : (nx (toC (x :: P')).1).foldl (metAdd (toC (x :: P')).1) (Q.map toC) = ((nx x).foldl (wayAdd (x :: P')) Q).map toC := wayFold_map.symm
      rw [ef]
      refine way_go hs hp n _ (a + 1) w2 ?_ (by omega)
      show CameOk one ts (((nx x).foldl (wayAdd (x :: P')) Q).map toC)
      rw [← ef]
      exact hc.fold fun o ho => hs _ o ho
def wayQ (ts : List Str) (es : List (Str × Str)) (one : Str) (back : Bool) : Ways := wayGo (stepM ts es back) (ts.length + 2) [[one]] 0
/-- the place of a thing -/
def place (ts : List Str) (x : Str) : Int := (ts.idxOf x : Nat)
theorem place_filter {ts : List Str} (hn : ts.Nodup) (f : Str → Bool) : (ts.filter f).Pairwise fun u v => place ts u < place ts v := by
  refine List.Pairwise.filter f ?_
  rw [List.pairwise_iff_getElem]
  intro i j hi hj hij
  unfold place
  rw [hn.idxOf_getElem i hi, hn.idxOf_getElem j hj]
  omega
structure WaysOk (ts : List Str) (es : List (Str × Str)) (one : Str) (back : Bool) (Q : Ways) : Prop where
  came : Q.map toC = metM ts es one back
  ok : ∃ a, WOk (place ts) (stepM ts es back) one a Q ∧ Q.length ≤ a
theorem wayQ_ok {ts : List Str} (hn : ts.Nodup) (es : List (Str × Str)) (one : Str) (back : Bool) : WaysOk ts es one back (wayQ ts es one back) := by
  have w0 : WOk (place ts) (stepM ts es back) one 0 [[one]] := ⟨rfl, fun p h => by simp at h; subst h; exact .base, by simp, fun p h => by simp at h; exact .inl h, fun j P h => by omega⟩
  obtain ⟨h1, h2⟩ := way_go (pl := place ts) (nx := stepM ts es back) (one := one) (ts := ts) stepM_sub (fun x => by
    unfold stepM priorsM nextsM
    split <;> exact place_filter hn _) (ts.length + 2) [[one]] 0 w0 ⟨by simp, fun p hp => by simp [toC] at hp; subst hp; exact .inl rfl⟩ (by omega)
  exact ⟨h1, h2⟩
end L3
/-! L3u: the ways found, as the program reads them back -/
namespace L3
open PySem L2
/-- the length of the own list n -/
def lenI (l : List O) (n : Nat) : Nat := match l[n]? with
  | some (O.lst ds) => ds.length
  | _ => 0
theorem came_get : ∀ {c : Came} {v x : Str}, (c.map (·.1)).Nodup → (v, some x) ∈ c → lookD (camePy c) (.inr v) = some (.str x)
  | [], _, _, _, h => by cases h
  | p :: c, v, x, hn, h => by
    rw [List.map_cons, List.nodup_cons] at hn
    unfold lookD camePy
    rw [List.map_cons, List.find?_cons]
    rcases List.mem_cons.mp h with e | h
    · subst e
      simp [fromD]
    · have ne : p.1 ≠ v := fun e => hn.1 (by rw [e]; exact List.mem_map.mpr ⟨_, h, rfl⟩)
      have : decide ((Sum.inr p.1 : Key) = Sum.inr v) = false := decide_eq_false fun e => ne (Sum.inr.inj e)
      rw [this]
      exact came_get hn.2 h
section
variable {ts : List Str} {es : List (Str × Str)} {one : Str} {back : Bool} {Q : Ways}
theorem WaysOk.ne (h : WaysOk ts es one back Q) {p : List Str} (hp : p ∈ Q) : ∃ a q, p = a :: q := by
  obtain ⟨a, ok, _⟩ := h.ok
  exact (ok.rw p hp).ne
theorem WaysOk.cameOk (h : WaysOk ts es one back Q) : CameOk one ts (Q.map toC) := by rw [h.came]; exact (metM_ok ts es one back).1
theorem WaysOk.up (h : WaysOk ts es one back Q) {x : Str} {r : List Str} (hp : x :: r ∈ Q) (hx : x ≠ one) : ∃ y r', r = y :: r' ∧ y :: r' ∈ Q ∧ lookD (camePy (metM ts es one back)) (.inr x) = some (.str y) := by
  obtain ⟨a, ok, _⟩ := h.ok
  rcases ok.par _ hp with e | ⟨j, P, h1, h2, h3⟩
  · exact absurd (List.cons.inj e).1 hx
  · have hP := List.mem_of_getElem? h2
    obtain ⟨y, r', e⟩ := h.ne hP
    have er : r = P := h3
    rw [e] at er hP
    refine ⟨y, r', er, hP, ?_⟩
    rw [← h.came]
    refine came_get h.cameOk.nd ?_
    rw [er] at hp
    exact List.mem_map.mpr ⟨_, hp, rfl⟩
theorem WaysOk.uniq (h : WaysOk ts es one back Q) {p q : List Str} (hp : p ∈ Q) (hq : q ∈ Q) (e : p.head? = q.head?) : p = q := by
  have nd := h.cameOk.nd
  obtain ⟨i, hi⟩ := List.getElem?_of_mem hp
  obtain ⟨j, hj⟩ := List.getElem?_of_mem hq
  have li := (List.getElem?_eq_some_iff.mp hi).1
  have lj := (List.getElem?_eq_some_iff.mp hj).1
  obtain ⟨a, p', rfl⟩ := h.ne hp
  obtain ⟨b, q', rfl⟩ := h.ne hq
  have eab : a = b := Option.some.inj e
  have hi2 : ((Q.map toC).map (·.1))[i]? = some a := by rw [List.getElem?_map, List.getElem?_map, hi]; rfl
  have hj2 : ((Q.map toC).map (·.1))[j]? = some a := by rw [List.getElem?_map, List.getElem?_map, hj, eab]; rfl
  obtain ⟨l1, e1⟩ := List.getElem?_eq_some_iff.mp hi2
  obtain ⟨l2, e2⟩ := List.getElem?_eq_some_iff.mp hj2
  have := (List.getElem_inj nd).mp (e1.trans e2.symm)
  subst this
  rw [hi] at hj
  exact Option.some.inj hj
theorem WaysOk.has (h : WaysOk ts es one back Q) {o : Str} : hasK (metM ts es one back) o = true ↔ ∃ p, p ∈ Q ∧ p.head? = some o := by
  rw [← h.came]
  exact hasW_iff fun p hp => h.ne hp
theorem WaysOk.lenAt (h : WaysOk ts es one back Q) : ∀ (i : Nat) (p : List Str), Q[i]? = some p → p.length ≤ i + 1 := by
  obtain ⟨a, ok, hl⟩ := h.ok
  intro i
  induction i using Nat.strongRecOn with
  | ind i ih =>
    intro p hp
    rcases ok.par p (List.mem_of_getElem? hp) with e | ⟨j, P, h1, h2, h3⟩
    · subst e; simp
    · obtain ⟨b, q, rfl⟩ := h.ne (List.mem_of_getElem? hp)
      have eq : q = P := h3
      subst eq
      have li := (List.getElem?_eq_some_iff.mp hp).1
      have lj := (List.getElem?_eq_some_iff.mp h2).1
      by_cases hji : j < i
      · have := ih j hji q h2
        simp only [List.length_cons]
        omega
      · exfalso
        rw [List.getElem?_eq_getElem li] at hp
        rw [List.getElem?_eq_getElem lj] at h2
        by_cases e : i = j
        · subst e
          have := (Option.some.inj hp).symm.trans (Option.some.inj h2)
          have := congrArg List.length this
          simp at this
        · have s := List.pairwise_iff_getElem.mp ok.srt i j li lj (by omega)
          rw [Option.some.inj hp, Option.some.inj h2] at s
          have := s.len
          simp at this
          omega
theorem WaysOk.len (h : WaysOk ts es one back Q) {p : List Str} (hp : p ∈ Q) : p.length ≤ ts.length + 1 := by
  obtain ⟨i, hi⟩ := List.getElem?_of_mem hp
  have l1 := h.lenAt i p hi
  have l2 := h.cameOk.len
  rw [List.length_map] at l2
  have := (List.getElem?_eq_some_iff.mp hi).1
  omega
end
end L3
/-! L3v: how far it is to a goal, and the ways by least numbers -/
namespace L3
open PySem L2
inductive StepsTo (es : List (Int × Int)) (g : Int) : Int → Nat → Prop
  | zero : StepsTo es g g 0
  | succ {a b : Int} {n : Nat} : (a, b) ∈ es → StepsTo es g b n → StepsTo es g a (n + 1)
structure Far (es : List (Int × Int)) (g k : Int) (d : Nat) : Prop where
  st : StepsTo es g k d
  no : ∀ d' : Nat, d' < d → ¬ StepsTo es g k d'
variable {es : List (Int × Int)} {g : Int}
theorem Far.uniq {k : Int} {d d' : Nat} (h : Far es g k d) (h' : Far es g k d') : d = d' := by
  by_cases h1 : d < d'
  · exact absurd h.st (h'.no d h1)
  · by_cases h2 : d' < d
    · exact absurd h'.st (h.no d' h2)
    · omega
theorem far_of {k : Int} : ∀ {d : Nat}, StepsTo es g k d → ∃ d', d' ≤ d ∧ Far es g k d' := by
  intro d
  induction d using Nat.strongRecOn with
  | ind d ih =>
    intro h
    by_cases hm : ∃ d', d' < d ∧ StepsTo es g k d'
    · obtain ⟨d', h1, h2⟩ := hm
      obtain ⟨d2, h3, h4⟩ := ih d' h1 h2
      exact ⟨d2, by omega, h4⟩
    · exact ⟨d, Nat.le_refl _, h, fun d' h1 h2 => hm ⟨d', h1, h2⟩⟩
theorem Far.zero {k : Int} (h : Far es g k 0) : k = g := by
  cases h.st; rfl
theorem far_goal : Far es g g 0 := ⟨.zero, fun d h => by omega⟩
/-- one tie nearer -/
theorem Far.next {k : Int} {d : Nat} (h : Far es g k (d + 1)) : ∃ b, (k, b) ∈ es ∧ Far es g b d := by
  cases h.st with
  | @succ _ b _ h1 h2 =>
    refine ⟨b, h1, h2, fun d' hd h3 => h.no (d' + 1) (by omega) (.succ h1 h3)⟩
theorem Far.inR {size k : Int} {d : Nat} (he : ∀ e ∈ es, InR size e.1 ∧ InR size e.2) (hg : InR size g) (h : Far es g k d) : InR size k := by
  cases h.st with
  | zero => exact hg
  | succ h1 _ => exact (he _ h1).1
/-- nothing is farther than there are things -/
theorem Far.le {n : Nat} {k : Int} {d : Nat} (he : ∀ e ∈ es, InR n e.1 ∧ InR n e.2) (hg : InR n g) (h : Far es g k d) : d + 1 ≤ n := by
  have go : ∀ (d : Nat) (k : Int), Far es g k d → ∃ xs : List Int, xs.length = d + 1 ∧ xs.Nodup ∧ ∀ x ∈ xs, ∃ d', d' ≤ d ∧ Far es g x d' := by
    intro d
    induction d with
    | zero => exact fun k h => ⟨[k], rfl, by simp, fun x hx => ⟨0, Nat.le_refl _, by simp at hx; subst hx; exact h⟩⟩
    | succ d ih =>
      intro k h
      obtain ⟨b, _, hb⟩ := h.next
      obtain ⟨xs, h1, h2, h3⟩ := ih b hb
      refine ⟨k :: xs, by simp [h1], ?_, fun x hx => ?_⟩
      · rw [List.nodup_cons]
        refine ⟨fun hk => ?_, h2⟩
        obtain ⟨d', l1, l2⟩ := h3 k hk
        have := l2.uniq h
        omega
      · rcases List.mem_cons.mp hx with rfl | hx
        · exact ⟨d + 1, Nat.le_refl _, h⟩
        · obtain ⟨d', l1, l2⟩ := h3 x hx
          exact ⟨d', by omega, l2⟩
  obtain ⟨xs, h1, h2, h3⟩ := go d k h
  have := nodup_le (ys := upto n) h2 fun x hx => by
    obtain ⟨d', _, hf⟩ := h3 x hx
    exact mem_upto.mpr (hf.inR he hg)
  rw [upto_len, h1] at this
  exact this
structure FarRow (es : List (Int × Int)) (g : Int) (n : Nat) (fs : List (Option Nat)) : Prop where
  len : fs.length = n
  at_ : ∀ (k : Nat) (d : Nat), k < n → (fs[k]? = some (some d) ↔ Far es g k d)
/-- the way by least numbers -/
inductive Least (es : List (Int × Int)) (g : Int) : Int → List Int → Prop
  | done : Least es g g [g]
  | step {a b : Int} {d : Nat} {q : List Int} : (a, b) ∈ es → Far es g a (d + 1) → Far es g b d → (∀ c, (a, c) ∈ es → Far es g c d → b ≤ c) → Least es g b q → Least es g a (a :: q)
/-- walks of numbers, from the start -/
inductive FW (es : List (Int × Int)) (g : Int) : Int → List Int → Prop
  | done : FW es g g [g]
  | step {a b : Int} {q : List Int} : (a, b) ∈ es → FW es g b q → FW es g a (a :: q)
theorem FW.hd {a : Int} {q : List Int} (h : FW es g a q) : ∃ r, q = a :: r := by
  cases h with
  | done => exact ⟨_, rfl⟩
  | step _ _ => exact ⟨_, rfl⟩
theorem Least.fw {a : Int} {q : List Int} (h : Least es g a q) : FW es g a q := by
  induction h with
  | done => exact .done
  | step h1 _ _ _ _ ih => exact .step h1 ih
theorem Least.far {a : Int} {q : List Int} (h : Least es g a q) : ∃ d, q.length = d + 1 ∧ Far es g a d := by
  induction h with
  | done => exact ⟨0, rfl, far_goal⟩
  | @step a b d q h1 h2 h3 _ _ ih =>
    obtain ⟨d', e, f⟩ := ih
    have := f.uniq h3
    subst this
    exact ⟨d' + 1, by rw [List.length_cons, e], h2⟩
end L3
/-! L3w: a row of distances is filled in, turn by turn -/
namespace L3
open PySem L2
structure Row (es : List (Int × Int)) (g : Int) (n t : Nat) (fs : List (Option Nat)) : Prop where
  len : fs.length = n
  at_ : ∀ (k d : Nat), k < n → (fs[k]? = some (some d) ↔ Far es g k d ∧ d ≤ t)
structure Rowing (es : List (Int × Int)) (g : Int) (n t i : Nat) (fs : List (Option Nat)) : Prop where
  len : fs.length = n
  a : ∀ (k d : Nat), k < n → fs[k]? = some (some d) → Far es g k d ∧ d ≤ t + 1
  b : ∀ (k d : Nat), k < n → Far es g k d → d ≤ t → fs[k]? = some (some d)
  c : ∀ e ∈ es.take i, Far es g e.2 t → ∃ d, fs[e.1.toNat]? = some (some d)
section
variable {es : List (Int × Int)} {g : Int} {n t i : Nat} {fs : List (Option Nat)}
theorem Row.start (hg : InR n g) : Row es g n 0 ((List.replicate n none).set g.toNat (some 0)) := by
  have hgn : g.toNat < n := by have := hg.1; have := hg.2; omega
  refine ⟨by simp, fun k d hk => ?_⟩
  by_cases e : g.toNat = k
  · subst e
    rw [List.getElem?_set_self (by simpa using hgn)]
    have eg : ((g.toNat : Nat) : Int) = g := by have := hg.1; omega
    rw [eg]
    constructor
    · intro h; cases h; exact ⟨far_goal, Nat.le_refl _⟩
    · rintro ⟨h1, h2⟩
      have : d = 0 := by omega
      rw [this]
  · rw [List.getElem?_set_ne e]
    constructor
    · intro h
      rw [List.getElem?_replicate] at h
      split at h <;> cases h
    · rintro ⟨h1, h2⟩
      have : d = 0 := by omega
      subst this
      have := h1.zero
      have := hg.1
      omega
theorem Rowing.start (h : Row es g n t fs) : Rowing es g n t 0 fs := ⟨h.len, fun k d hk e => let r := (h.at_ k d hk).mp e; ⟨r.1, by have := r.2; omega⟩, fun k d hk f l => (h.at_ k d hk).mpr ⟨f, l⟩, nofun⟩
theorem toNat_in {a : Int} (h : InR n a) : a.toNat < n ∧ ((a.toNat : Nat) : Int) = a := by have := h.1; have := h.2; omega
theorem Rowing.put (h : Rowing es g n t i fs) {e : Int × Int} (he : es[i]? = some e) (hr : ∀ e ∈ es, InR n e.1 ∧ InR n e.2) (h2 : fs[e.2.toNat]? = some (some t)) (h1 : fs[e.1.toNat]? = some none) : Rowing es g n t (i + 1) (fs.set e.1.toNat (some (t + 1))) := by
  have hem := List.mem_of_getElem? he
  obtain ⟨r1, r2⟩ := hr e hem
  obtain ⟨n1, e1⟩ := toNat_in r1
  obtain ⟨n2, e2⟩ := toNat_in r2
  have f2 := (h.a _ _ n2 h2).1
  rw [e2] at f2
  have f1 : Far es g e.1 (t + 1) := ⟨.succ hem f2.st, fun d' hd hs => by
    obtain ⟨d2, l2, g2⟩ := far_of hs
    have := h.b e.1.toNat d2 n1 (by rw [e1]; exact g2) (by omega)
    rw [h1] at this; cases this⟩
  refine ⟨by simp [h.len], fun k d hk ek => ?_, fun k d hk f l => ?_, fun p hp fp => ?_⟩
  · by_cases e : e.1.toNat = k
    · subst e
      rw [List.getElem?_set_self (by rw [h.len]; exact n1)] at ek
      cases ek
      rw [e1]
      exact ⟨f1, Nat.le_refl _⟩
    · rw [List.getElem?_set_ne e] at ek
      exact h.a k d hk ek
  · have hb := h.b k d hk f l
    by_cases e : e.1.toNat = k
    · subst e; rw [h1] at hb; cases hb
    · rw [List.getElem?_set_ne e]; exact hb
  · by_cases e3 : e.1.toNat = p.1.toNat
    · exact ⟨t + 1, by rw [← e3, List.getElem?_set_self (by rw [h.len]; exact n1)]⟩
    · rw [take_next he] at hp
      rcases List.mem_append.mp hp with hp | hp
      · obtain ⟨d, hd⟩ := h.c p hp fp
        exact ⟨d, by rw [List.getElem?_set_ne e3]; exact hd⟩
      · have : p = e := by simpa using hp
        subst this; exact absurd rfl e3
theorem Rowing.done (h : Rowing es g n t es.length fs) (hr : ∀ e ∈ es, InR n e.1 ∧ InR n e.2) : Row es g n (t + 1) fs := by
  refine ⟨h.len, fun k d hk => ⟨fun e => h.a k d hk e, fun ⟨f, l⟩ => ?_⟩⟩
  by_cases hd : d ≤ t
  · exact h.b k d hk f hd
  · have : d = t + 1 := by omega
    subst this
    obtain ⟨b, hb, fb⟩ := f.next
    obtain ⟨d', hd'⟩ := h.c (k, b) (by rw [List.take_length]; exact hb) fb
    have hd' : fs[k]? = some (some d') := by simpa using hd'
    have := (h.a k d' hk hd').1.uniq f
    rw [hd', this]
theorem Row.last (h : Row es g n n fs) (hr : ∀ e ∈ es, InR n e.1 ∧ InR n e.2) (hg : InR n g) : FarRow es g n fs :=
  ⟨h.len, fun k d hk => ⟨fun e => ((h.at_ k d hk).mp e).1, fun f => (h.at_ k d hk).mpr ⟨f, by have := f.le hr hg; omega⟩⟩⟩
end
end L3
/-! L3x: min and max of a list of numbers; the next ones on a way by least numbers -/
namespace L3
open PySem L2
theorem FarRow.get {es : List (Int × Int)} {g k : Int} {n : Nat} {fs : List (Option Nat)} (h : FarRow es g n fs) (hk : InR n k) (d : Nat) : fs[k.toNat]? = some (some d) ↔ Far es g k d := by
  obtain ⟨k1, k2⟩ := toNat_in hk
  have := h.at_ k.toNat d k1
  rw [k2] at this
  exact this
theorem o_neg {K : PySem.W.Frag} {l : List O} {R : D → List O → Prop} {f : Int → Int} {i : Int} (z : R (.f (.int (f i))) l) : UnS K (rU fun i => .int (f i)) (.f (.int i)) l R := fun m B H vx S r1 Q q => ⟨i, int_of r1, retF S q (FR.int _) z⟩
end L3
/-! L3y: the way found is the way by least numbers -/
namespace L3
open PySem L2
section
variable {xs : List Str} {es : List (Int × Int)}
theorem FW.inR {n g a : Int} {q : List Int} (hr : ∀ e ∈ es, InR n e.1 ∧ InR n e.2) (ha : InR n a) (h : FW es g a q) : ∀ k ∈ q, InR n k := by
  induction h with
  | done => intro k hk; simp at hk; subst hk; exact ha
  | step h1 _ ih =>
    intro k hk
    rcases List.mem_cons.mp hk with rfl | hk
    · exact ha
    · exact ih (hr _ h1).2 k hk
theorem FW.last {g a : Int} {q : List Int} (h : FW es g a q) : q.getLast? = some g := by
  induction h with
  | done => rfl
  | step _ h5 ih =>
    obtain ⟨r, er⟩ := h5.hd
    rw [er] at ih ⊢
    rw [List.getLast?_cons_cons]
    exact ih
theorem FW.snoc {a b c : Int} {q : List Int} (h : FW es b a q) (hc : (b, c) ∈ es) : FW es c a (q ++ [c]) := by
  induction h with
  | done => exact .step hc .done
  | step h1 _ ih => exact .step h1 ih
end
end L3
/-! L3z: dicts made of pairs of a text and True; measures of slots -/
namespace L3
open PySem L2
end L3
/-! L3za: own objects seen as data by a callee; enumerate, zip, all, any, sum -/
namespace L3
open PySem L2
section
variable {X : Cx} {pos p tpos : Pos}
theorem u_enum {K : PySem.W.Frag} (hK : X.K = K) {e : Expr} {ta : TA} {elts : List Expr} {kk : Nat} (hg : Gl X "enumerate") (hm : X.mg "enumerate" = none) (ha : PA X [e] ta) (hs : starEach [e] X.env = [(false, eval e X.env)] := by rfl) :
    PI X (.Tuple elts kk tpos) (.Call (.Name "enumerate" p) [e] [] pos) (iEnum K ta) := by
  subst hK
  exact pi_enum hg hm ha hs
theorem u_all {K : PySem.W.Frag} (hK : X.K = K) (hc : X.calm = true) : CallR X (.builtin "all") (rAll K) := by
  subst hK
  exact cr_all hc
end
section
variable {K : PySem.W.Frag} {m m' m2 : List Addr} {B B' B2 H H' H2 : Hp} {l : List O} {σ : St} {ρ : List (Option D)} {R R' : D → List O → Prop} {E E' : E3} {ta tb te tc tl : TE} {tt tu : TT} {t u : TS} {ty tz : TA} {g : TG} {gs : TGs}
theorem EvA.imp {R R' : List D → List O → Prop} (h : EvA K ty ρ l R) (hR : ∀ d l, R d l → R' d l) : EvA K ty ρ l R' := fun m B H σ S e Q q => h m B H σ S e Q fun v m' B' H' d l' s S' r z => q v m' B' H' d l' s S' r (hR _ _ z)
theorem AsS.imp {d : D} {R R' : List (Option D) → List O → Prop} (h : AsS K g d ρ l R) (hR : ∀ d l, R d l → R' d l) : AsS K g d ρ l R' := fun m B H σ v S e hv Q q => h m B H σ v S e hv Q fun σ' ρ' m' B' H' l' s S' e' z => q σ' ρ' m' B' H' l' s S' e' (hR _ _ z)
/-! enumerate of a list of data -/
theorem i_enum {R : (List O → Prop) → Nat → (Nat → D) → List O → Prop} (h : EvA K ty ρ l fun xs l1 => ∃ x ds, xs = [x] ∧ IsL l1 x ds ∧ R (fun l' => IsL l' x ds) ds.length (fun i => .f (.tuple [.int i, ds.getD i .none])) l1) : EvI K (iEnum K ty) ρ l R := fun m B H σ S e Rt q => by
  refine h m B H σ S e _ fun vs m1 B1 H1 xs l1 s1 S1 r1 ⟨x, ds, exs, hL, z⟩ => ?_
  subst exs
  cases r1 with
  | cons r1 rr =>
    cases rr
    obtain ⟨a, us, rfl, e2, qq⟩ := hL.at S1 r1
    refine ⟨a, us, rfl, SqL.of e2, q (Ite K a) m1 B1 H1 l1 _ _ _ s1 S1 (fun i m' B' H' l' hs hp S' P => ?_) z⟩
    obtain ⟨a', ws, ea, e3, q3⟩ := P.at S' (r1.up hs hp)
    cases ea
    have hl := q3.length
    refine ⟨fun hi => ?_, fun hi => ⟨ws, SqL.of e3, by omega⟩⟩
    have hd : ds[i]? = some ds[i] := by simp [hi]
    obtain ⟨v, hv, rv⟩ := q3.get hd
    refine ⟨⟨ws, v, SqL.of e3, hv⟩, fun y H3 ⟨T, w, ey, hT, eH, hy⟩ => ?_⟩
    subst ey eH
    have := hy ws (SqL.of e3)
    rw [hv] at this; cases this
    obtain ⟨S3, s3, e4⟩ := S'.allocF (u := .tup [.int (i : Nat), v]) hT
    refine ⟨_, s3, S3, ?_⟩
    show FR K _ (.ref T) (.tuple [.int i, ds.getD i .none])
    rw [List.getD_eq_getElem?_getD, hd]
    exact .tup (.inl e4) (.cons (.int _) (.cons (FR.same s3.sub _ _ rv) .nil))
theorem x_forE (h : EvA K ty ρ l fun xs l1 => ∃ x ds, xs = [x] ∧ IsL l1 x ds ∧ ∃ I : Nat → List (Option D) → List O → Prop, I 0 ρ l1 ∧ (∀ i ρ' l', i ≤ ds.length → I i ρ' l' → IsL l' x ds) ∧
      (∀ (i : Nat) d ρ' l', ds[i]? = some d → I i ρ' l' → AsS K g (.f (.tuple [.int i, d])) ρ' l' fun ρ2 l2 => ExS K t ρ2 l2 ⟨I (i + 1), E.rt, E.nx, I (i + 1)⟩) ∧ ∀ ρ' l', I ds.length ρ' l' → E.nx ρ' l') : ExS K (tFor (iEnum K ty) g t) ρ l E :=
  x_for (i_enum (h.imp fun xs l1 ⟨x, ds, ex, hq, I, h0, hP, hs, hd⟩ => ⟨x, ds, ex, hq, I, h0, hP, fun i ρ' l' hi z => by
    have e : ds[i]? = some (ds.getD i .none) := by rw [List.getD_eq_getElem?_getD]; simp [hi]
    exact hs i _ ρ' l' e z, hd⟩))
theorem xs_forE (h : EvA K ty ρ l fun xs l1 => ∃ x ds, xs = [x] ∧ IsL l1 x ds ∧ ∃ I : Nat → List (Option D) → List O → Prop, I 0 ρ l1 ∧ (∀ i ρ' l', i ≤ ds.length → I i ρ' l' → IsL l' x ds) ∧
      (∀ (i : Nat) d ρ' l', ds[i]? = some d → I i ρ' l' → AsS K g (.f (.tuple [.int i, d])) ρ' l' fun ρ2 l2 => ExS K t ρ2 l2 ⟨I (i + 1), E.rt, fun ρ' l' => ExS K u ρ' l' E, I (i + 1)⟩) ∧ ∀ ρ' l', I ds.length ρ' l' → ExS K u ρ' l' E) : ExS K (tSeq (tFor (iEnum K ty) g t) u) ρ l E :=
  x_seq (x_forE h)
/-! zip of two lists of data -/
/-! all, any, sum of an own list -/
def bPy (bs : List Bool) : List PyData := bs.map PyData.bool
theorem frs_bls : ∀ {vs : List V} {bs : List Bool}, FRs K B vs (bPy bs) → vs = bs.map V.bl
  | _, [], h => by cases h; rfl
  | _, b :: bs, h => by
    cases h with
    | cons h1 h2 =>
      cases h1
      rw [frs_bls (bs := bs) h2]; rfl
theorem c_all {x : D} {bs : List Bool} (h : IsL l x (bPy bs)) (z : R (.f (.bool (bs.all id))) l) : CaS K (rAll K) [x] l R := fun m B H vs S r Q q => by
  cases r with
  | cons r1 r2 =>
    cases r2
    obtain ⟨a, us, e1, e2, q1⟩ := h.at S r1
    rw [frs_bls q1] at e2
    subst e1
    exact ⟨a, bs, rfl, SqL.of e2, retF S q (FR.bl _) z⟩
/-! is True, is not True -/
def rNotBl : V → V → Hp → VK → Prop := fun x y H Q => ∃ a b : Bool, x = .bl a ∧ y = .bl b ∧ Q (.bl (!decide (a = b))) H
theorem op_notBl1 {X : Cx} : OpR X (compareOp .IsNot) rNotBl := op_isnot_bl
theorem o_notBl {a b : Bool} (z : R (.f (.bool (!decide (a = b)))) l) : OpS K rNotBl (.f (.bool a)) (.f (.bool b)) l R := fun m B H vx vy S r1 r2 Q q => by
  cases r1; cases r2
  exact ⟨a, b, rfl, rfl, retF S q (FR.bl _) z⟩
/-! own objects seen as data while a callee runs -/
def View0 (l : List O) : D → PyData → Prop
  | .f d, x => x = d
  | .own n, x => ∃ ds, l[n]? = some (.lst ds) ∧ x = .list ds
  | .sq _, _ => False
inductive View (l : List O) : D → D → Prop
  | zero {d : D} {x : PyData} : View0 l d x → View l d (.f x)
  | sq (s : List Int) : View l (.sq s) (.sq s)
  | tpr {n : Nat} {ds : List D} {fs : List PyData} : l[n]? = some (.tpr ds) → Paired (View0 l) ds fs → View l (.own n) (.f (.tuple fs))
  | rfs {n : Nat} {ds : List D} {fs : List PyData} : l[n]? = some (.rfs ds) → Paired (View0 l) ds fs → View l (.own n) (.f (.list fs))
def seenB (m : List Addr) (B H : Hp) : Hp := fun b => if b ∈ m then H b else B b
theorem seen_same (S : SR K m B H l) : Same B (seenB m B H) := fun b o e => by
  unfold seenB
  split
  · exact S.sub b o e
  · exact e
theorem view0_of (S : SR K m B H l) {v : V} {d : D} {x : PyData} (r : VR K m B v d) (h : View0 l d x) : FR K (seenB m B H) v x := by
  cases d with
  | f d => cases h; exact FR.same (seen_same S) _ _ r
  | sq s => exact h.elim
  | own n =>
    obtain ⟨a, rfl, ha⟩ := r
    obtain ⟨ds, hn, rfl⟩ := h
    obtain ⟨⟨xs, e, q⟩, _⟩ := S.obj n a _ ha hn
    refine .lst (xs := xs) ?_ (FRs.same (seen_same S) _ _ q)
    unfold seenB
    rw [if_pos (List.mem_of_getElem? ha), e]
theorem views_of (S : SR K m B H l) : ∀ {vs : List V} {ds : List D} {xs : List PyData}, Paired (VR K m B) vs ds → Paired (View0 l) ds xs → FRs K (seenB m B H) vs xs
  | _, _, _, .nil, .nil => .nil
  | _, _, _, .cons r rs, .cons h hs => .cons (view0_of S r h) (views_of S rs hs)
theorem sqL_seen (S : SR K m B H l) {a : Addr} {xs : List V} (h : SqL K B a xs) : SqL K (seenB m B H) a xs := by
  rcases h with h | h
  · rcases h with h | ⟨o, h⟩
    · exact .inl (.inl (seen_same S _ _ h))
    · exact .inl (.inr ⟨o, seen_same S _ _ h⟩)
  · exact .inr h
theorem view_of (S : SR K m B H l) {v : V} {d e : D} (r : VR K m B v d) (h : View l d e) : VR K [] (seenB m B H) v e := by
  cases h with
  | zero h => exact view0_of S r h
  | sq s =>
    obtain ⟨a, e, q⟩ := r
    exact ⟨a, e, sqL_seen S q⟩
  | @tpr n ds fs hn hp =>
    obtain ⟨a, rfl, ha⟩ := r
    obtain ⟨⟨xs, e, q⟩, _⟩ := S.obj n a _ ha hn
    refine FR.tup (xs := xs) (.inl ?_) (views_of S q hp)
    unfold seenB
    rw [if_pos (List.mem_of_getElem? ha), e]
  | @rfs n ds fs hn hp =>
    obtain ⟨a, rfl, ha⟩ := r
    obtain ⟨⟨xs, e, q⟩, _⟩ := S.obj n a _ ha hn
    refine FR.lst (xs := xs) ?_ (views_of S q hp)
    unfold seenB
    rw [if_pos (List.mem_of_getElem? ha), e]
end
end L3
/-! L3zb: ways, shut lists and what shows a hanging, as plain lists -/
namespace L3
open PySem L2
theorem eqv_str (a b : Str) : PyData.eqv (.str a) (.str b) = decide (a = b) := by simp [PyData.eqv]; rfl
theorem eqv_pair (a b c d : Str) : PyData.eqv (.tuple [.str a, .str b]) (.tuple [.str c, .str d]) = decide ((a, b) = (c, d)) := by
  have e : PyData.eqv (.tuple [.str a, .str b]) (.tuple [.str c, .str d]) = (PyData.eqv (.str a) (.str c) && PyData.eqv (.str b) (.str d)) := by simp [PyData.eqv, PyData.eqvAll]
  rw [e, eqv_str, eqv_str]
  by_cases h1 : a = c <;> by_cases h2 : b = d <;> simp [h1, h2]
theorem any_pPy (es : List (Str × Str)) (a b : Str) : ((pPy es).any fun e => PyData.eqv e (.tuple [.str a, .str b])) = decide ((a, b) ∈ es) := by
  induction es with
  | nil => simp [pPy]
  | cons e es ih =>
    show (PyData.eqv (.tuple [.str e.1, .str e.2]) _ || (pPy es).any _) = _
    rw [ih, eqv_pair]
    by_cases h1 : (e.1, e.2) = (a, b)
    · have : e = (a, b) := h1
      subst this; simp
    · have h2 : ¬ (a, b) = e := fun h => h1 (by rw [← h])
      have h3 : ¬ (e = (a, b)) := fun h => h2 h.symm
      simp [h2, h3]
theorem cut_tail (xs : List PyData) : cutD xs (some 1) none = xs.tail := by
  have e1 : HT.sIx xs.length 0 (some 1) = min 1 xs.length := rfl
  unfold cutD
  rw [e1, HT.sIx_none]
  cases xs with
  | nil => rfl
  | cons x xs =>
    have e2 : min 1 (x :: xs).length = 1 := by simp
    rw [e2]
    show (List.drop 1 (x :: xs)).take _ = xs
    rw [List.drop_one, List.tail_cons]
    apply List.take_of_length_le
    simp
theorem cut_take (xs : List PyData) {i : Nat} (h : i ≤ xs.length) : cutD xs none (some (i : Int)) = xs.take i := by
  have e1 : HT.sIx xs.length xs.length (some (i : Int)) = i := by
    show (if ((i : Int)) < 0 then ((i : Int) + (xs.length : Int)).toNat else min (i : Int).toNat xs.length) = _
    rw [if_neg (by omega)]
    omega
  unfold cutD
  rw [e1, HT.sIx_none, List.drop_zero, Nat.sub_zero]
end L3
/-! L3zc: zip under a plain name: each pair stays -/
namespace L3
open PySem L2 PySem.Spec PyProof.Rows
end L3
/-! L3zd: max of a list, with what is told where it is empty -/
namespace L3
open PySem L2 PySem.Spec PyProof.Rows
/-- the greatest, or d where there is none -/
def IsMaxD (ns : List Int) (d m : Int) : Prop := (ns = [] ∧ m = d) ∨ (m ∈ ns ∧ ∀ a ∈ ns, a ≤ m)
end L3
/-! L3ze: a dict's pairs and keys walked in a comprehension (the dict locked), pop, max with a default, what is never reached -/
namespace L3
open PySem L2
def tDead : TS := fun _ _ _ => False
theorem ps_dead {X : Cx} {s : Stmt} : PS X s tDead := ⟨fun _ _ _ _ _ _ h => h.elim⟩
/-- lists and tuples that stand in the one stand in the other -/
structure Keeps (B B' : Hp) : Prop where
  l : ∀ a xs, B a = some (.lst xs) → B' a = some (.lst xs)
  t : ∀ a xs, B a = some (.tup xs) → B' a = some (.tup xs)
  fl : ∀ a o xs, B a = some (.frz o (.lst xs)) → B' a = some (.frz o (.lst xs))
  ft : ∀ a o xs, B a = some (.frz o (.tup xs)) → B' a = some (.frz o (.tup xs))
  k : ∀ a ks, B a = some (.dK ks) → B' a = some (.dK ks)
  x : ∀ a φ, B a = some (.ext φ) → B' a = some (.ext φ)
  d : ∀ a fs, B a = some (.xd fs) → B' a = some (.xd fs)
section
variable {K : PySem.W.Frag} {m m' : List Addr} {B B' H H' : Hp} {l : List O} {σ : St} {ρ : List (Option D)} {R : D → List O → Prop} {E : E3} {ta tb te tc tl : TE} {tt : TT} {t u : TS} {ty tz : TA} {g : TG}
theorem sqT_keeps {a : Addr} {xs : List V} (e : Keeps B B') (h : SqT K B a xs) : SqT K B' a xs := by
  rcases h with (h | ⟨o, h⟩) | h
  · exact .inl (.inl (e.t _ _ h))
  · exact .inl (.inr ⟨o, e.ft _ _ _ h⟩)
  · exact .inr h
theorem sqL_keeps {a : Addr} {xs : List V} (e : Keeps B B') (h : SqL K B a xs) : SqL K B' a xs := by
  rcases h with (h | ⟨o, h⟩) | h
  · exact .inl (.inl (e.l _ _ h))
  · exact .inl (.inr ⟨o, e.fl _ _ _ h⟩)
  · exact .inr h
theorem TuK.keeps {a : Addr} {xs : List V} (e : Keeps B B') (h : TuK K B a xs) : TuK K B' a xs := by
  rcases h with h | h
  · exact .inl (e.t _ _ h)
  · exact .inr ⟨h.1, sqT_keeps e h.2⟩
theorem XdOk.keeps {fs : List (Str × V)} {d : Option Addr} (e : Keeps B B') (h : XdOk B fs d) : XdOk B' fs d := by
  cases d with
  | none => exact h
  | some dx => exact e.d _ _ h
theorem PlT.keeps {a : Addr} {xs : List V} (e : Keeps B B') (h : PlT B a xs) : PlT B' a xs := by
  obtain ⟨o, h1, h2⟩ := h
  exact ⟨o, e.ft _ _ _ h1, h2⟩
mutual
theorem FR.keeps (e : Keeps B B') : ∀ (d : PyData) (v : V), FR K B v d → FR K B' v d
  | .none, _, h => by cases h; exact .non
  | .bool _, _, h => by cases h; exact .bl _
  | .int _, _, h => by cases h; exact .int _
  | .str _, _, h => by cases h; exact .str _
  | .list ds, _, h => by
    cases h with
    | lst h1 h2 => exact .lst (e.l _ _ h1) (FRs.keeps e ds _ h2)
  | .tuple ds, _, h => by
    cases h with
    | tup h1 h2 => exact .tup (h1.keeps e) (FRs.keeps e ds _ h2)
  | .dict [(.none, .tuple ds)], _, h => by
    cases h with
    | plt h1 h2 => exact .plt (h1.keeps e) (FRs.keeps e ds _ h2)
  | .dict [], _, h => by
    cases h with
    | dk0 h1 => exact .dk0 (e.k _ _ h1)
  | .dict (_ :: _ :: _), _, h => by cases h
  | .dict [(.none, .none)], _, h => by cases h
  | .dict [(.none, .bool _)], _, h => by cases h
  | .dict [(.none, .int _)], _, h => by cases h
  | .dict [(.none, .str _)], _, h => by cases h
  | .dict [(.none, .list _)], _, h => by cases h
  | .dict [(.none, .dict _)], _, h => by cases h
  | .dict [(.bool _, _)], _, h => by
    cases h with
    | dkn h1 => exact .dkn (e.k _ _ h1)
  | .dict [(.int _, _)], _, h => by
    cases h with
    | dki h1 h2 => exact .dki (e.k _ _ h1) h2
  | .dict [(.str _, _)], _, h => by
    cases h with
    | dk1 h1 h2 => exact .dk1 (e.k _ _ h1) h2
  | .dict [(.list _, _)], _, h => by cases h
  | .dict [(.tuple _, .tuple ds)], _, h => by
    cases h with
    | exc h0 h1 h2 h3 h4 => exact .exc h0 (e.x _ _ h1) (h2.keeps e) h3 (FRs.keeps e ds _ h4)
  | .dict [(.tuple _, .none)], _, h => by cases h
  | .dict [(.tuple _, .bool _)], _, h => by cases h
  | .dict [(.tuple _, .int _)], _, h => by cases h
  | .dict [(.tuple _, .str _)], _, h => by cases h
  | .dict [(.tuple _, .list _)], _, h => by cases h
  | .dict [(.tuple _, .dict _)], _, h => by cases h
  | .dict [(.dict _, _)], _, h => by cases h
theorem FRs.keeps (e : Keeps B B') : ∀ (ds : List PyData) (vs : List V), FRs K B vs ds → FRs K B' vs ds
  | [], _, h => by cases h; exact .nil
  | d :: ds, _, h => by
    cases h with
    | cons h1 h2 => exact .cons (FR.keeps e d _ h1) (FRs.keeps e ds _ h2)
end
theorem VR.keeps {v : V} {d : D} (e : Keeps B B') (h : VR K m B v d) : VR K m B' v d := by
  cases d with
  | f d => exact FR.keeps e d v h
  | own n => exact h
  | sq q =>
    obtain ⟨a, ea, h⟩ := h
    exact ⟨a, ea, sqL_keeps e h⟩
theorem OR.keeps {a : Addr} {o : O} (e : Keeps B B') (hH : ∀ u, H a = some u → H' a = some u) (h : OR K m B H a o) : OR K m B' H' a o := by
  cases o with
  | lst ds => obtain ⟨xs, e1, r⟩ := h; exact ⟨xs, hH _ e1, FRs.keeps e ds xs r⟩
  | rfs ds => obtain ⟨xs, e1, r⟩ := h; exact ⟨xs, hH _ e1, Paired.up r fun _ _ z => z.keeps e⟩
  | tpr ds => obtain ⟨xs, e1, r⟩ := h; exact ⟨xs, hH _ e1, Paired.up r fun _ _ z => z.keeps e⟩
  | dct kvs => obtain ⟨xs, e1, r⟩ := h; exact ⟨xs, hH _ e1, Paired.up r fun _ _ z => ⟨z.1, FR.keeps e _ _ z.2⟩⟩
  | dctT kvs => obtain ⟨xs, e1, r⟩ := h; exact ⟨xs, hH _ e1, Paired.up r fun _ _ z => ⟨z.1, FR.keeps e _ _ z.2⟩⟩
  | dctL od ks kvs => obtain ⟨e1, r⟩ := h; exact ⟨hH _ e1, Paired.up r fun _ _ z => ⟨z.1, FR.keeps e _ _ z.2⟩⟩
  | ins C fs => obtain ⟨dx, gs, e1, r⟩ := h; exact ⟨dx, gs, hH _ e1, Paired.up r fun _ _ z => ⟨z.1, z.2.keeps e⟩⟩
  | dctD kvs => obtain ⟨ks, e1, r⟩ := h; exact ⟨ks, hH _ e1, Paired.up r fun _ _ z => ⟨z.1, z.2.keeps e⟩⟩
  | dctM P w kvs => obtain ⟨xs, e1, r⟩ := h; exact ⟨xs, hH _ e1, Paired.up r fun _ _ z => ⟨z.1, z.2.1, fun p q => let ⟨b, q1, q2⟩ := z.2.2 p q; ⟨b, q1, e.t _ _ q2⟩⟩⟩
  | gone => trivial
theorem fr_key : ∀ k : Key, FR K B (kV k) (keyD k)
  | .inl i => .int i
  | .inr s => .str s
end
end L3
/-! L3zf: dicts told by a function, walks that end at a thing, layers, orders that go forward, as plain lists -/
namespace L3
open PySem L2
/-! a dict whose values a function tells -/
def fD (ts : List Str) (f : Str → PyData) : List (Key × PyData) := ts.map fun x => ((Sum.inr x : Key), f x)
theorem fD_len (ts : List Str) (f : Str → PyData) : (fD ts f).length = ts.length := List.length_map ..
theorem fD_congr {ts : List Str} {f g : Str → PyData} (h : ∀ x ∈ ts, f x = g x) : fD ts f = fD ts g := List.map_congr_left fun x hx => by rw [h x hx]
theorem fD_look (ts : List Str) (f : Str → PyData) (x : Str) (h : x ∈ ts) : lookD (fD ts f) (.inr x) = some (f x) := by
  induction ts with
  | nil => cases h
  | cons y ts ih =>
    show lookD (((Sum.inr y : Key), f y) :: fD ts f) (.inr x) = _
    unfold lookD at ih ⊢
    rw [List.find?_cons]
    by_cases e : y = x
    · subst e; simp
    · have hx : x ∈ ts := by
        rcases List.mem_cons.mp h with q | q
        · exact absurd q.symm e
        · exact q
      have : decide ((Sum.inr y : Key) = Sum.inr x) = false := decide_eq_false fun q => e (Sum.inr.inj q)
      rw [this]
      exact ih hx
theorem fD_any (ts : List Str) (f : Str → PyData) (x : Str) : ((fD ts f).any fun kv => decide (kv.1 = (Sum.inr x : Key))) = decide (x ∈ ts) := by
  induction ts with
  | nil => simp [fD]
  | cons y ts ih =>
    show (decide ((Sum.inr y : Key) = Sum.inr x) || (fD ts f).any _) = _
    rw [ih]
    by_cases e : y = x
    · subst e; simp
    · have h1 : ¬ (Sum.inr y : Key) = Sum.inr x := fun q => e (Sum.inr.inj q)
      have h2 : ¬ x = y := fun q => e q.symm
      simp [h1, h2]
theorem fD_new {ts : List Str} {f : Str → PyData} {x : Str} {v : PyData} (h : ¬ x ∈ ts) : putD (fD ts f) (.inr x) v = fD (ts ++ [x]) fun y => if y = x then v else f y := by
  unfold putD
  rw [fD_any, decide_eq_false h, if_neg nofun]
  unfold fD
  rw [List.map_append]
  congr 1
  · refine List.map_congr_left fun y hy => ?_
    show ((Sum.inr y : Key), f y) = ((Sum.inr y : Key), if y = x then v else f y)
    rw [if_neg fun e : y = x => h (e ▸ hy)]
  · simp
/-! walks that end at a thing, by their ties -/
inductive HasW {α : Type} (es : List (α × α)) : α → Nat → Prop
  | zero (a : α) : HasW es a 0
  | succ {a b : α} {d : Nat} : (a, b) ∈ es → HasW es a d → HasW es b (d + 1)
def Layer {α : Type} (es : List (α × α)) (k : α) (d : Nat) : Prop := HasW es k d ∧ ∀ d', HasW es k d' → d' ≤ d
theorem Layer.uniq {α : Type} {es : List (α × α)} {k : α} {d d' : Nat} (h : Layer es k d) (h' : Layer es k d') : d = d' := Nat.le_antisymm (h'.2 _ h.1) (h.2 _ h'.1)
/-- ties that go forward by a rank -/
def Ranked {α : Type} (n : Nat) (es : List (α × α)) : Prop := ∃ r : α → Nat, (∀ e ∈ es, r e.1 < r e.2) ∧ ∀ k, r k ≤ n
theorem HasW.le {α : Type} {es : List (α × α)} {r : α → Nat} (hr : ∀ e ∈ es, r e.1 < r e.2) {k : α} {d : Nat} (h : HasW es k d) : d ≤ r k := by
  induction h with
  | zero => exact Nat.zero_le _
  | succ h1 _ ih => have := hr _ h1; simp only at this; omega
/-! orders -/
structure Topo (ts : List Str) (es : List (Str × Str)) (ord : List Str) : Prop where
  nd : ord.Nodup
  sub : ∀ x ∈ ord, x ∈ ts
  fw : ∀ (i : Nat) x, ord[i]? = some x → ∀ a, (a, x) ∈ es → a ∈ ord.take i
theorem Topo.has {ts : List Str} {es : List (Str × Str)} {ord : List Str} (h : Topo ts es ord) {a x : Str} (hx : x ∈ ord) (he : (a, x) ∈ es) : a ∈ ord := by
  obtain ⟨i, hi⟩ := List.getElem?_of_mem hx
  exact List.mem_of_mem_take (h.fw i x hi a he)
theorem Topo.snoc {ts : List Str} {es : List (Str × Str)} {ord : List Str} (h : Topo ts es ord) {x : Str} (hx : x ∈ ts) (hn : ¬ x ∈ ord) (hp : ∀ a, (a, x) ∈ es → a ∈ ord) : Topo ts es (ord ++ [x]) := by
  refine ⟨?_, fun y hy => ?_, fun i y hi a he => ?_⟩
  · rw [List.nodup_append]
    refine ⟨h.nd, by simp, fun p hp2 q hq e => ?_⟩
    have : q = x := by simpa using hq
    subst this e
    exact hn hp2
  · rcases List.mem_append.mp hy with hy | hy
    · exact h.sub y hy
    · have : y = x := by simpa using hy
      subst this; exact hx
  · by_cases hil : i < ord.length
    · rw [List.getElem?_append_left hil] at hi
      rw [List.take_append_of_le_length (by omega)]
      exact h.fw i y hi a he
    · have e1 := (List.getElem?_eq_some_iff.mp hi).1
      rw [List.length_append] at e1
      simp only [List.length_cons, List.length_nil] at e1
      have e2 : i = ord.length := by omega
      subst e2
      rw [List.getElem?_append_right (by omega)] at hi
      have : x = y := by simpa using hi
      subst this
      rw [List.take_left']
      · exact hp a he
      · rfl
/-- the ties that go to x from what is not done -/
def cntD (es : List (Str × Str)) (done : List Str) (x : Str) : Nat := es.countP fun e => decide (e.2 = x) && !decide (e.1 ∈ done)
theorem not_mem_take {α : Type} {xs : List α} (hn : xs.Nodup) {i : Nat} {x : α} (h : xs[i]? = some x) : ¬ x ∈ xs.take i := fun hm => by
  have nd := hn.sublist (List.take_sublist (i + 1) xs)
  rw [take_next h, List.nodup_append] at nd
  exact absurd rfl (nd.2.2 x hm x (by simp))
end L3
/-! L3zg: ranges downward; what is greatest -/
namespace L3
open PySem L2
theorem IsMaxD.uniq {ns : List Int} {d m m' : Int} (h : IsMaxD ns d m) (h' : IsMaxD ns d m') : m = m' := by
  rcases h with ⟨h1, h2⟩ | ⟨h1, h2⟩
  · rcases h' with ⟨h3, h4⟩ | ⟨h3, h4⟩
    · rw [h2, h4]
    · rw [h1] at h3; cases h3
  · rcases h' with ⟨h3, h4⟩ | ⟨h3, h4⟩
    · rw [h3] at h1; cases h1
    · have := h2 _ h3
      have := h4 _ h1
      omega
end L3
/-! L3zh: remove; numbers that are taken away one by one; pairs that stand unlike -/
namespace L3
open PySem L2
/-- taken away so far, and what is left -/
structure Taken (n : Nat) (left found : List Int) : Prop where
  nl : left.Nodup
  nf : found.Nodup
  all : ∀ k, InR n k ↔ k ∈ left ∨ k ∈ found
  ap : ∀ k, k ∈ left → ¬ k ∈ found
theorem Taken.take {n : Nat} {left found : List Int} (h : Taken n left found) {j : Nat} {k : Int} (hj : left[j]? = some k) : Taken n (left.eraseIdx j) (found ++ [k]) := by
  have hm : ∀ x, x ∈ left.eraseIdx j ↔ x ∈ left ∧ x ≠ k := by
    intro x
    rw [List.mem_eraseIdx_iff_getElem?]
    obtain ⟨hl, e1⟩ := List.getElem?_eq_some_iff.mp hj
    constructor
    · rintro ⟨i, hne, hi⟩
      refine ⟨List.mem_of_getElem? hi, fun e => hne ?_⟩
      obtain ⟨hl2, e2⟩ := List.getElem?_eq_some_iff.mp hi
      exact (List.getElem_inj h.nl).mp (by rw [e2, e1, e])
    · rintro ⟨hx, hne⟩
      obtain ⟨i, hi⟩ := List.getElem?_of_mem hx
      exact ⟨i, fun e => hne (by rw [e, hj] at hi; exact (Option.some.inj hi).symm), hi⟩
  have hk := List.mem_of_getElem? hj
  refine ⟨h.nl.sublist (List.eraseIdx_sublist _ _), ?_, fun x => ?_, fun x hx hf => ?_⟩
  · rw [List.nodup_append]
    refine ⟨h.nf, by simp, fun p hp q hq e => ?_⟩
    have : q = k := by simpa using hq
    subst this e
    exact h.ap _ hk hp
  · rw [h.all, hm, List.mem_append, List.mem_singleton]
    constructor
    · rintro (a | a)
      · by_cases e : x = k
        · exact .inr (.inr e)
        · exact .inl ⟨a, e⟩
      · exact .inr (.inl a)
    · rintro (⟨a, _⟩ | a | rfl)
      · exact .inl a
      · exact .inr a
      · exact .inl hk
  · obtain ⟨a, b⟩ := (hm x).mp hx
    rcases List.mem_append.mp hf with c | c
    · exact h.ap x a c
    · exact b (by simpa using c)
theorem Taken.len {n : Nat} {left found : List Int} (h : Taken n left found) : left.length ≤ n ∧ found.length ≤ n := by
  constructor
  · have := nodup_le (ys := upto n) h.nl fun k hk => mem_upto.mpr ((h.all k).mpr (.inl hk))
    rw [upto_len] at this; exact this
  · have := nodup_le (ys := upto n) h.nf fun k hk => mem_upto.mpr ((h.all k).mpr (.inr hk))
    rw [upto_len] at this; exact this
/-! pairs that stand unlike -/
end L3
/-! L3zi: count of texts; rings and what is left; ways as a function of the ties -/
namespace L3
open PySem L2 PySem.Spec PyProof.Rows
/-! least walks: there is one, and one alone -/
/-! what is left -/
end L3
/-! L3zj: all that is told of ties of numbers -/
namespace L3
open PySem L2
end L3
/-! L3zk: knots within knots, as plain lists -/
namespace L3
open PySem L2
abbrev Knots := List (Str × List Str)
def ksPy (ks : Knots) : List PyData := ks.map fun k => .tuple [.str k.1, plD (sPy k.2)]
theorem ksPy_len (ks : Knots) : (ksPy ks).length = ks.length := List.length_map ..
theorem ksPy_get {ks : Knots} {i : Nat} {d : PyData} (h : (ksPy ks)[i]? = some d) : ∃ k, ks[i]? = some k ∧ d = .tuple [.str k.1, plD (sPy k.2)] := map_get h
def nil0 : Str := ("" : Str)
def insAt {α : Type} (xs : List α) (j : Nat) (x : α) : List α := xs.take j ++ [x] ++ xs.drop j
theorem mem_insAt {α : Type} {xs : List α} {j : Nat} {x y : α} : y ∈ insAt xs j x ↔ y ∈ xs ∨ y = x := by
  refine ⟨fun h => mem_ins h, fun h => ?_⟩
  unfold insAt
  rcases h with h | rfl
  · rw [← List.take_append_drop j xs] at h
    rcases List.mem_append.mp h with h | h
    · simp [h]
    · simp [h]
  · simp
theorem insAt_perm {α : Type} (xs : List α) (j : Nat) (x : α) : (insAt xs j x).Perm (x :: xs) := by
  have p1 : (xs.take j ++ [x] ++ xs.drop j).Perm ([x] ++ xs.take j ++ xs.drop j) := List.perm_append_comm.append_right _
  have p2 : [x] ++ xs.take j ++ xs.drop j = x :: xs := by rw [List.append_assoc, List.take_append_drop]; rfl
  rw [p2] at p1
  exact p1
theorem insAt_nodup {α : Type} {xs : List α} {x : α} (j : Nat) (h : xs.Nodup) (hx : ¬ x ∈ xs) : (insAt xs j x).Nodup :=
  (insAt_perm xs j x).nodup_iff.mpr (List.nodup_cons.mpr ⟨hx, h⟩)
theorem insAt_len {α : Type} (xs : List α) (j : Nat) (x : α) : (insAt xs j x).length = xs.length + 1 := len_ins
theorem insAt_map {α β : Type} (f : α → β) (xs : List α) (j : Nat) (x : α) : (insAt xs j x).map f = insAt (xs.map f) j (f x) := by
  unfold insAt
  simp [List.map_take, List.map_drop]
/-- u stands in the knot k -/
def Stands (ks : Knots) (u k : Str) : Prop := ∃ xs, (k, xs) ∈ ks ∧ u ∈ xs
theorem Stands.knot {ks : Knots} {u k : Str} (h : Stands ks u k) : k ∈ ks.map (·.1) := by
  obtain ⟨xs, h1, _⟩ := h
  exact List.mem_map.mpr ⟨_, h1, rfl⟩
theorem stands_put {ks : Knots} {i : Nat} {k x : Str} {xs : List Str} (hi : ks[i]? = some (k, xs)) (j : Nat) {u k0 : Str} : Stands (ks.set i (k, insAt xs j x)) u k0 ↔ Stands ks u k0 ∨ (u = x ∧ k0 = k) := by
  have hlt : i < ks.length := (List.getElem?_eq_some_iff.mp hi).1
  constructor
  · rintro ⟨ys, h1, h2⟩
    rcases List.mem_or_eq_of_mem_set h1 with h | h
    · exact .inl ⟨ys, h, h2⟩
    · cases h
      rcases mem_insAt.mp h2 with h | rfl
      · exact .inl ⟨xs, List.mem_of_getElem? hi, h⟩
      · exact .inr ⟨rfl, rfl⟩
  · rintro (⟨ys, h1, h2⟩ | ⟨rfl, rfl⟩)
    · obtain ⟨n, hn⟩ := List.getElem?_of_mem h1
      by_cases e : n = i
      · subst e
        rw [hi] at hn
        cases hn
        exact ⟨_, List.mem_of_getElem? (i := n) (by rw [List.getElem?_set_self hlt]), mem_insAt.mpr (.inl h2)⟩
      · exact ⟨ys, List.mem_of_getElem? (i := n) (by rw [List.getElem?_set_ne (fun q => e q.symm)]; exact hn), h2⟩
    · exact ⟨_, List.mem_of_getElem? (i := i) (by rw [List.getElem?_set_self hlt]), mem_insAt.mpr (.inr rfl)⟩
theorem stands_grp {ks : Knots} {j : Nat} {x u k0 : Str} : Stands (insAt ks j (x, [])) u k0 ↔ Stands ks u k0 := by
  constructor
  · rintro ⟨ys, h1, h2⟩
    rcases mem_insAt.mp h1 with h | h
    · exact ⟨ys, h, h2⟩
    · cases h; cases h2
  · rintro ⟨ys, h1, h2⟩
    exact ⟨ys, mem_insAt.mpr (.inl h1), h2⟩
structure Tree (ks : Knots) (us : List Str) (deep : Int) (r : Str → Int) : Prop where
  names : (ks.map (·.1)).Nodup
  first : ∃ xs rest, ks = (nil0, xs) :: rest
  one : ∀ u k k', Stands ks u k → Stands ks u k' → k = k'
  all : ∀ u, u ∈ us ↔ ∃ k, Stands ks u k
  nt : ∀ u ∈ us, u ≠ nil0
  grp : ∀ k ∈ ks, k.1 ≠ nil0 → k.1 ∈ us
  nd : ∀ k ∈ ks, k.2.Nodup
  und : us.Nodup
  lev : ∀ u k, Stands ks u k → u ∈ ks.map (·.1) → r k < r u
  rng : ∀ k ∈ ks, 0 ≤ r k.1 ∧ r k.1 ≤ deep
  len : ks.length ≤ us.length + 1
theorem Tree.start {deep : Int} (h : 0 ≤ deep) : Tree [(nil0, [])] [] deep fun _ => 0 where
  names := by simp
  first := ⟨_, _, rfl⟩
  one := fun u k k' ⟨xs, h1, h2⟩ => by cases List.mem_singleton.mp h1; cases h2
  all := fun u => ⟨nofun, fun ⟨k, xs, h1, h2⟩ => by cases List.mem_singleton.mp h1; cases h2⟩
  nt := nofun
  grp := fun k hk h => by cases List.mem_singleton.mp hk; exact absurd rfl h
  nd := fun k hk => by cases List.mem_singleton.mp hk; exact List.nodup_nil
  und := List.nodup_nil
  lev := fun u k ⟨xs, h1, h2⟩ => by cases List.mem_singleton.mp h1; cases h2
  rng := fun k hk => ⟨Int.le_refl _, h⟩
  len := Nat.le_refl _
section
variable {ks : Knots} {us : List Str} {deep : Int} {r : Str → Int}
theorem Tree.knot_in (T : Tree ks us deep r) {k : Str} (h : k ∈ ks.map (·.1)) : k = nil0 ∨ k ∈ us := by
  obtain ⟨x, hx, rfl⟩ := List.mem_map.mp h
  by_cases e : x.1 = nil0
  · exact .inl e
  · exact .inr (T.grp x hx e)
theorem set_names {i : Nat} {k : Str} {xs ys : List Str} (hi : ks[i]? = some (k, xs)) : (ks.set i (k, ys)).map (·.1) = ks.map (·.1) := by
  rw [List.map_set]
  refine List.ext_getElem? fun n => ?_
  by_cases e : n = i
  · subst e
    have hlt : n < ks.length := (List.getElem?_eq_some_iff.mp hi).1
    rw [List.getElem?_set_self (by simpa using hlt), List.getElem?_map, hi]
    rfl
  · rw [List.getElem?_set_ne (fun q => e q.symm)]
theorem Tree.put (T : Tree ks us deep r) {i : Nat} {k x : Str} {xs : List Str} (hi : ks[i]? = some (k, xs)) (j : Nat) (hx : ¬ x ∈ us) (hn : x ≠ nil0) : Tree (ks.set i (k, insAt xs j x)) (us ++ [x]) deep r where
  names := by rw [set_names hi]; exact T.names
  first := by
    obtain ⟨xs0, rest, e⟩ := T.first
    subst e
    cases i with
    | zero => cases hi; exact ⟨_, _, rfl⟩
    | succ i => exact ⟨_, _, rfl⟩
  one := fun u k1 k2 h1 h2 => by
    rcases (stands_put hi j).mp h1 with a | ⟨a, a2⟩
    · rcases (stands_put hi j).mp h2 with b | ⟨b, b2⟩
      · exact T.one _ _ _ a b
      · subst b; exact absurd ((T.all _).mpr ⟨_, a⟩) hx
    · rcases (stands_put hi j).mp h2 with b | ⟨b, b2⟩
      · subst a; exact absurd ((T.all _).mpr ⟨_, b⟩) hx
      · rw [a2, b2]
  all := fun u => by
    rw [List.mem_append, List.mem_singleton, T.all u]
    constructor
    · rintro (⟨k0, h⟩ | rfl)
      · exact ⟨k0, (stands_put hi j).mpr (.inl h)⟩
      · exact ⟨k, (stands_put hi j).mpr (.inr ⟨rfl, rfl⟩)⟩
    · rintro ⟨k0, h⟩
      rcases (stands_put hi j).mp h with a | ⟨a, _⟩
      · exact .inl ⟨_, a⟩
      · exact .inr a
  nt := fun u hu => by
    rcases List.mem_append.mp hu with h | h
    · exact T.nt u h
    · cases List.mem_singleton.mp h; exact hn
  grp := fun y hy h => by
    have : y.1 ∈ ks.map (·.1) := by rw [← set_names (ys := insAt xs j x) hi]; exact List.mem_map_of_mem hy
    rcases T.knot_in this with e | e
    · exact absurd e h
    · exact List.mem_append_left _ e
  nd := fun y hy => by
    rcases List.mem_or_eq_of_mem_set hy with h | rfl
    · exact T.nd y h
    · refine insAt_nodup j (T.nd _ (List.mem_of_getElem? hi)) fun h => hx ((T.all x).mpr ⟨k, xs, List.mem_of_getElem? hi, h⟩)
  und := by
    rw [List.nodup_append]
    exact ⟨T.und, by simp, fun a ha b hb => by cases List.mem_singleton.mp hb; exact fun e => hx (e ▸ ha)⟩
  lev := fun u k1 h1 hu => by
    rw [set_names hi] at hu
    rcases (stands_put hi j).mp h1 with a | ⟨a, _⟩
    · exact T.lev u k1 a hu
    · subst a
      rcases T.knot_in hu with e | e
      · exact absurd e hn
      · exact absurd e hx
  rng := fun y hy => by
    have : y.1 ∈ ks.map (·.1) := by rw [← set_names (ys := insAt xs j x) hi]; exact List.mem_map_of_mem hy
    obtain ⟨z, hz, e⟩ := List.mem_map.mp this
    rw [← e]
    exact T.rng z hz
  len := by rw [List.length_set, List.length_append]; have := T.len; simp; omega
theorem Tree.group (T : Tree ks us deep r) {k x : Str} {v : Int} (j : Nat) (hs : Stands ks x k) (hx : ¬ x ∈ ks.map (·.1)) (hv : v = r k + 1) (hd : r k < deep) (hl : ks.length ≤ us.length) : Tree (insAt ks (j + 1) (x, [])) us deep (fun y => if y = x then v else r y) := by
  have hxu : x ∈ us := (T.all x).mpr ⟨k, hs⟩
  have hm : ∀ {y : Str}, y ∈ (insAt ks (j + 1) (x, [])).map (·.1) → y ∈ ks.map (·.1) ∨ y = x := fun h => by
    rw [insAt_map] at h
    exact mem_insAt.mp h
  have ne : ∀ {y : Str}, y ∈ ks.map (·.1) → y ≠ x := fun h e => hx (e ▸ h)
  exact {
    names := by rw [insAt_map]; exact insAt_nodup _ T.names hx
    first := by
      obtain ⟨xs0, rest, e⟩ := T.first
      subst e
      exact ⟨_, _, rfl⟩
    one := fun u k1 k2 h1 h2 => T.one _ _ _ (stands_grp.mp h1) (stands_grp.mp h2)
    all := fun u => by
      rw [T.all u]
      exact ⟨fun ⟨k0, h⟩ => ⟨k0, stands_grp.mpr h⟩, fun ⟨k0, h⟩ => ⟨k0, stands_grp.mp h⟩⟩
    nt := T.nt
    grp := fun y hy h => by
      rcases mem_insAt.mp hy with a | rfl
      · exact T.grp y a h
      · exact hxu
    nd := fun y hy => by
      rcases mem_insAt.mp hy with a | rfl
      · exact T.nd y a
      · exact List.nodup_nil
    und := T.und
    lev := fun u k1 h1 hu => by
      have h0 := stands_grp.mp h1
      show (if k1 = x then v else r k1) < if u = x then v else r u
      rw [if_neg (ne h0.knot)]
      by_cases e : u = x
      · subst e
        rw [if_pos rfl, T.one _ _ _ (stands_grp.mp h1) hs]
        omega
      · rw [if_neg e]
        rcases hm hu with a | a
        · exact T.lev u k1 h0 a
        · exact absurd a e
    rng := fun y hy => by
      show 0 ≤ (if y.1 = x then v else r y.1) ∧ (if y.1 = x then v else r y.1) ≤ deep
      obtain ⟨z, hz, e⟩ := List.mem_map.mp hs.knot
      have := T.rng z hz
      rw [e] at this
      rcases mem_insAt.mp hy with a | rfl
      · by_cases e : y.1 = x
        · rw [if_pos e]; omega
        · rw [if_neg e]; exact T.rng y a
      · rw [if_pos rfl]; omega
    len := by rw [insAt_len]; omega }
/-- the knots around, from the top down, and what they are around -/
inductive Up (ks : Knots) : Str → List Str → Prop
  | top : Up ks nil0 [nil0]
  | step {u k : Str} {p : List Str} : u ≠ nil0 → Stands ks u k → Up ks k p → Up ks u (p ++ [u])
theorem Up.uniq (T : Tree ks us deep r) {u : Str} {p : List Str} (h : Up ks u p) : ∀ {q : List Str}, Up ks u q → p = q := by
  induction h with
  | top =>
    intro q h'
    cases h' with
    | top => rfl
    | step h1 _ _ => exact absurd rfl h1
  | step h1 h2 _ ih =>
    intro q h'
    cases h' with
    | top => exact absurd rfl h1
    | step g1 g2 g3 =>
      have := T.one _ _ _ h2 g2
      subst this
      rw [ih g3]
/-- every knot has its way up, no longer than its rank -/
theorem Tree.up (T : Tree ks us deep r) : ∀ k, k ∈ ks.map (·.1) → ∃ p, Up ks k p ∧ p.length ≤ (r k).toNat + 1 := by
  have pos : ∀ {k : Str}, k ∈ ks.map (·.1) → 0 ≤ r k := fun h => by
    obtain ⟨x, hx, rfl⟩ := List.mem_map.mp h
    exact (T.rng x hx).1
  have go : ∀ (n : Nat) (k : Str), (r k).toNat ≤ n → k ∈ ks.map (·.1) → ∃ p, Up ks k p ∧ p.length ≤ (r k).toNat + 1 := by
    intro n
    induction n with
    | zero =>
      intro k hk hm
      rcases T.knot_in hm with e | e
      · subst e; exact ⟨_, .top, by simp⟩
      · obtain ⟨k2, hs⟩ := (T.all k).mp e
        have h1 := T.lev k k2 hs hm
        have h2 := pos hs.knot
        omega
    | succ n ih =>
      intro k hk hm
      rcases T.knot_in hm with e | e
      · subst e; exact ⟨_, .top, by simp⟩
      · obtain ⟨k2, hs⟩ := (T.all k).mp e
        have h1 := T.lev k k2 hs hm
        have h2 := pos hs.knot
        obtain ⟨p, hp, hl⟩ := ih k2 (by omega) hs.knot
        exact ⟨_, .step (T.nt k e) hs hp, by rw [List.length_append]; simp; omega⟩
  exact fun k hk => go _ k (Nat.le_refl _) hk
theorem Tree.path (T : Tree ks us deep r) {u : Str} (hu : u ∈ us) : ∃ p, Up ks u p ∧ p.length ≤ deep.toNat + 2 := by
  obtain ⟨k, hs⟩ := (T.all u).mp hu
  obtain ⟨p, hp, hl⟩ := T.up k hs.knot
  obtain ⟨x, hx, ex⟩ := List.mem_map.mp hs.knot
  have := T.rng x hx
  rw [ex] at this
  exact ⟨_, .step (T.nt u hu) hs hp, by rw [List.length_append]; simp; omega⟩
theorem Up.ne {u : Str} {p : List Str} (h : Up ks u p) : ∃ s, p = nil0 :: s := by
  induction h with
  | top => exact ⟨[], rfl⟩
  | step _ _ _ ih => obtain ⟨s, rfl⟩ := ih; exact ⟨_, rfl⟩
theorem Up.last {u : Str} {p : List Str} (h : Up ks u p) : p.getLast? = some u := by
  cases h with
  | top => rfl
  | step _ _ _ => simp
end
/-- how far two lists go together -/
def common : List Str → List Str → Nat
  | x :: xs, y :: ys => if x = y then common xs ys + 1 else 0
  | _, _ => 0
theorem common_le : ∀ xs ys : List Str, common xs ys ≤ min xs.length ys.length
  | [], _ => by simp [common]
  | _ :: _, [] => by simp [common]
  | x :: xs, y :: ys => by
    have := common_le xs ys
    simp only [common, List.length_cons]
    split <;> omega
theorem common_at : ∀ {xs ys : List Str} {i : Nat}, i < common xs ys → xs[i]? = ys[i]?
  | [], _, _, h => by simp [common] at h
  | _ :: _, [], _, h => by simp [common] at h
  | x :: xs, y :: ys, i, h => by
    simp only [common] at h
    split at h
    · rename_i e
      subst e
      cases i with
      | zero => rfl
      | succ i => simpa using common_at (xs := xs) (ys := ys) (i := i) (by omega)
    · omega
theorem common_end : ∀ {xs ys : List Str}, common xs ys < min xs.length ys.length → xs[common xs ys]? ≠ ys[common xs ys]?
  | [], _, h => by simp at h
  | _ :: _, [], h => by simp at h
  | x :: xs, y :: ys, h => by
    simp only [common, List.length_cons] at h ⊢
    split
    · rename_i e
      rw [if_pos e] at h
      have := common_end (xs := xs) (ys := ys) (by omega)
      simpa using this
    · rename_i e
      simpa using e
/-- where two ways part -/
def partP (p q : List Str) : Option (Str × Str × Str) :=
  if common p q = min p.length q.length then none else some (p.getD (common p q - 1) nil0, p.getD (common p q) nil0, q.getD (common p q) nil0)
section
variable {K : PySem.W.Frag} {m m' : List Addr} {B B' H H' : Hp} {l : List O} {σ : St} {ρ : List (Option D)} {R : D → List O → Prop}
/-- insert into a list with references -/
theorem m_insertR {n : Nat} {ds : List D} {i : Int} {d : D} (h : l[n]? = some (.rfs ds)) (hl : ds.length ≤ 100000) (h0 : 0 ≤ i) (h1 : i < 2 ^ 63) (z : R (.f .none) (l.set n (.rfs (ds.take i.toNat ++ [d] ++ ds.drop i.toNat)))) : MeS K rInsert (.own n) [.f (.int i), d] l R := fun m B H vx vs S r1 r2 Q q => by
  obtain ⟨a, rfl, ha⟩ := r1
  obtain ⟨⟨xs, e, pr⟩, hb⟩ := S.obj n a _ ha h
  cases r2 with
  | cons r2 r3 =>
    cases r3 with
    | cons r3 r4 =>
      cases r4
      have cut : ∀ {xs : List V} {ds : List D} (k : Nat), Paired (VR K m B) xs ds → Paired (VR K m B) (xs.take k) (ds.take k) ∧ Paired (VR K m B) (xs.drop k) (ds.drop k) := by
        intro xs ds k
        induction k generalizing xs ds with
        | zero => intro p; exact ⟨.nil, p⟩
        | succ k ih =>
          intro p
          cases p with
          | nil => exact ⟨.nil, .nil⟩
          | cons a b => exact ⟨.cons a (ih b).1, (ih b).2⟩
      have app : ∀ {xs ys : List V} {ds es : List D}, Paired (VR K m B) xs ds → Paired (VR K m B) ys es → Paired (VR K m B) (xs ++ ys) (ds ++ es) := by
        intro xs ys ds es p
        induction p with
        | nil => intro q; exact q
        | cons a _ ih => intro q; exact .cons a (ih q)
      have app2 := app (app (cut i.toNat pr).1 (Paired.cons r3 .nil)) (cut i.toNat pr).2
      obtain ⟨S2, s2⟩ := S.write (u := .lst (xs.take i.toNat ++ [_] ++ xs.drop i.toNat)) (o := .rfs (ds.take i.toNat ++ [d] ++ ds.drop i.toNat)) ha (hb (by simp)) ⟨_, upd_same, app2⟩
      exact ⟨a, xs, i, _, rfl, by rw [int_of r2], e, small' (by rw [pair_len pr]; exact hl), h0, h1, q _ _ _ _ (.f .none) _ s2 S2 FR.non z⟩
end
end L3
/-! L3zl: a tuple turned about by a slice -/
namespace L3
open PySem L2 PySem.Spec PyProof.Rows
section
variable {prog : Program} {w : World} {A : Around} {E : Value → Shared → Prop} {s : Shared}
theorem applied_rev {sl : Addr} {t : Tok} {n : Nat} {Q : Int × Int × Nat → Shared → Prop} (hs : s.heap.IsSliceOf sl .none .none (.int (-1) t))
    (h : Q ((n : Int) - 1, -1, n) s) : wpAny (model prog w) A (Builtin.Slice.sliceApplied (.ref sl) (pure (n : Int))) Q E s := by
  obtain ⟨os, hos, hcs, hds⟩ := id hs
  unfold Builtin.Slice.sliceApplied Builtin.Slice.sliceFields
  refine wpAny_bind (wpAny_bind (wpAny_field hos hds (x := .none) rfl (wpAny_bind (wpAny_field hos hds (x := .none) rfl (wpAny_bind (wpAny_field hos hds (x := .int (-1) t) rfl (wpAny_pure ?_)))))))
  refine wpAny_bind (slicePart_int ?_)
  show wpAny _ _ (if ((-1 : Int) == 0) = true then _ else _) _ _ s
  rw [if_neg (by decide)]
  refine wpAny_bind (slicePart_none (wpAny_bind (slicePart_none (wpAny_bind (wpAny_pure ?_)))))
  show wpAny _ _ (pure ((n : Int) - 1, (-1 : Int), Builtin.Slice.slicePlaces ((n : Int) - 1) (-1) (-1))) _ _ s
  have e : Builtin.Slice.slicePlaces ((n : Int) - 1) (-1) (-1) = n := by
    unfold Builtin.Slice.slicePlaces
    have h1 : ¬ (-1 : Int) > 0 := by omega
    simp only [h1, if_false]
    have h2 : (-(-1) : Int) = 1 := rfl
    rw [h2, Int.ediv_one]
    split <;> omega
  rw [e]
  exact wpAny_pure h
theorem fm_map {α β : Type} {f : α → Option β} {g : α → β} {L : List α} (h : ∀ k ∈ L, f k = some (g k)) : L.filterMap f = L.map g := by
  induction L with
  | nil => rfl
  | cons k L ih =>
    rw [List.filterMap_cons_some (h k List.mem_cons_self), ih fun k hk => h k (List.mem_cons_of_mem _ hk)]
    rfl
theorem pick_rev (xs : Array Value) : ((List.range xs.size).filterMap fun (m : Nat) => xs[(((xs.size : Int) - 1) + (m : Int) * (-1)).toNat]?).toArray = xs.toList.reverse.toArray := by
  congr 1
  have e : (fun (m : Nat) => xs[(((xs.size : Int) - 1) + (m : Int) * (-1)).toNat]?) = fun (m : Nat) => xs.toList[(((xs.size : Int) - 1) + (m : Int) * (-1)).toNat]? := by
    funext m
    rw [Array.getElem?_toList]
  rw [e]
  have hl : xs.size = xs.toList.length := (Array.length_toList).symm
  rw [hl]
  generalize xs.toList = l
  refine List.ext_getElem? fun i => ?_
  have g : ∀ k ∈ List.range l.length, (fun (m : Nat) => l[(((l.length : Int) - 1) + (m : Int) * (-1)).toNat]?) k = some (l.reverse.getD k .none) := fun k hk => by
    have hk' : k < l.length := List.mem_range.mp hk
    have e1 : (((l.length : Int) - 1) + (k : Int) * (-1)).toNat = l.length - 1 - k := by omega
    show l[(((l.length : Int) - 1) + (k : Int) * (-1)).toNat]? = _
    rw [e1, List.getD_eq_getElem?_getD, List.getElem?_reverse hk']
    have : l.length - 1 - k < l.length := by omega
    rw [List.getElem?_eq_getElem this]
    rfl
  rw [fm_map g, List.getElem?_map]
  by_cases hi : i < l.length
  · rw [List.getElem?_range hi]
    show some (l.reverse.getD i .none) = _
    rw [List.getD_eq_getElem?_getD, List.getElem?_eq_getElem (by simpa using hi)]
    rfl
  · rw [List.getElem?_eq_none (by simpa using hi), List.getElem?_eq_none (by simpa using hi)]
    rfl
theorem getItem_tuple_rev {t sl : Addr} {items : Array Value} {tk : Tok} {Q : Value → Shared → Prop} (ht : IsTup s.heap t items) (hs : s.heap.IsSliceOf sl .none .none (.int (-1) tk))
    (h : Q (.ref s.heap.objs.size) { s with heap := s.heap.push { cls := .type "tuple", data := .seq items.toList.reverse.toArray } })
    (hsz : items.size ≤ sizeLine) : wpAny (model prog w) A (getItem (.ref t) (.ref sl)) Q E s := by
  have htake : sizeOk (.seq items.toList.reverse.toArray) := by
    show items.toList.reverse.toArray.size ≤ sizeLine
    rw [List.size_toArray, List.length_reverse, Array.length_toList]
    exact hsz
  obtain ⟨os, hos, hcs, hds⟩ := id hs
  have hTs : s.TypeIs (.ref sl) "slice" := ⟨os, hos, hcs⟩
  unfold getItem
  try with_reducible refine wpAny_holding ?_
  first | refine wpAny_bind (wpAny_pure ?_) | skip
  refine wpAny_bind (wpAny_sequenceKey ht.typeIs (by decide) ?_)
  refine wpAny_bind (wpAny_callSpecial?_slot (name := Str.ofString "__getitem__") ht.typeIs PyProof.Rows.slot_tuple_getitem
    (wpAny_call_entry PyProof.Rows.slot_tuple_getitem ht.typeIs entry_tuple_getitem ?_ (args_tuple_getitem _ _)))
  show wpAny _ _ (Builtin.Tuple.tupleItemsOf (.ref t) >>= _) _ _ s
  refine wpAny_bind (tupleItemsOf_ ht ?_)
  refine wpAny_bind (wpAny_typeOf hTs ?_)
  rw [if_pos (by decide)]
  refine wpAny_bind (applied_rev hs ?_)
  have hno : ¬ ((((items.size : Int) - 1) == 0 && (-1 : Int) == 1 && items.size == items.size) = true) := by
    intro q
    rw [Bool.and_eq_true, Bool.and_eq_true] at q
    exact absurd q.1.2 (by decide)
  show wpAny _ _ (if (((items.size : Int) - 1) == 0 && (-1 : Int) == 1 && items.size == items.size) = true then _ else _) _ _ s
  rw [if_neg hno, pick_rev]
  first
    | exact wpAny_bind (m := Builtin.Tuple.tupleExact _) (wpAny_newObj_type (wpAny_pure ⟨_, rfl, wpAny_pure h⟩) htake)
    | exact wpAny_bind (m := Builtin.Tuple.tupleExact _) (wpAny_newObj_type (wpAny_bind (wpAny_pure (wpAny_pure ⟨_, rfl, wpAny_pure h⟩))) htake)
    | exact wpAny_bind (wpAny_bind (m := Builtin.Tuple.tupleExact _) (wpAny_newObj_type (wpAny_pure (wpAny_pure ⟨_, rfl, wpAny_pure h⟩)) htake))
    | exact wpAny_bind (wpAny_bind (m := Builtin.Tuple.tupleExact _) (wpAny_newObj_type (wpAny_pure ⟨_, rfl, wpAny_pure h⟩) htake))
end
section
variable {X : Cx}
/-- xs[::-1] of a list or a tuple -/
def tRevU (K : PySem.W.Frag) (te : TE) : TE := fun σ H Q => te σ H fun x H1 => ∃ a xs, x = .ref a ∧ ((SqL K H1 a xs ∧ ∀ p, H1 p = none → Q (.ref p) (upd H1 p (.lst xs.reverse))) ∨ (SqT K H1 a xs ∧ ∀ p, H1 p = none → Q (.ref p) (upd H1 p (.tup xs.reverse))))
theorem pe_revU {K : PySem.W.Frag} (hK : X.K = K) {e : Expr} {te : TE} {k : Nat} {p1 p2 p3 pos : Pos} (he : PE X e te) : PE X (.Subscript e (.Slice none none (some (.UnaryOp .USub (.Constant (.int 1) k p1) p2)) p3) pos) (tRevU K te) := by
  subst hK
  refine ⟨fun pins s σ H Q I h => ?_⟩
  refine Subscript_ (thn (he.run pins s σ H _ I h) fun v s1 ⟨x, H1, I1, r1, q1⟩ => ?_)
  obtain ⟨a, xs, ex, q1⟩ := q1
  subst ex
  cases r1
  have hst : PO X (some (.UnaryOp .USub (.Constant (.int 1) k p1) p2)) (tPart (tUn (rU fun i => .int (-i)) (tC (.int 1)))) := po_some (pe_un un_neg pe_int)
  refine wpAny_Slice (thn (po_none.run pins s1 σ H1 (fun o H2 => o = none ∧ H2 = H1) I1 ⟨rfl, rfl⟩) fun vl s2 ⟨l, H2, I2, pl, el, e2⟩ => ?_)
  subst el e2
  refine thn (po_none.run pins s2 σ H2 (fun o H3 => o = none ∧ H3 = H2) I2 ⟨rfl, rfl⟩) fun vu s3 ⟨u, H3, I3, pu, eu, e3⟩ => ?_
  subst eu e3
  refine thn (hst.run pins s3 σ H3 (fun o H4 => o = some (-1) ∧ H4 = H3) I3 ⟨1, rfl, -1, rfl, rfl, rfl⟩) fun vs s4 ⟨o, H4, I4, ps, eo, e4⟩ => ?_
  subst eo e4
  have I5 : Inv X pins σ H4 { s4 with heap := s4.heap.push { cls := .type "slice", data := .fields #[vl, vu, vs] } } := I4.kept (t' := s4.toks) fun b ob q => Heap.get?_push_of_some _ q
  show wpAny (model X.prog X.w) X.A (subscriptTail e (.Slice none none (some (.UnaryOp .USub (.Constant (.int 1) k p1) p2)) p3) (.ref a) (.ref s4.heap.objs.size)) (EP X pins σ Q) X.xe { s4 with heap := s4.heap.push { cls := .type "slice", data := .fields #[vl, vu, vs] } }
  rcases q1 with ⟨hx, q⟩ | ⟨hx, q⟩
  · obtain ⟨its, r, ht, hz⟩ := I5.list hx
    have hlen := r.length
    refine tail_any (ops := [.ref a, .ref s4.heap.objs.size]) ht.isList.typeIs (PySem.slot_list_getitem.lookup) ?_ (by with_unfolding_all rfl)
    refine wpAny_getItem_list_slice ht.isList (Heap.IsSliceOf.new _ vl vu vs) pl pu ps (by decide) ?_ (by rw [List.size_toArray]; omega)
    rw [PySem.W.krv_pick]
    refine ⟨.ref _, _, I5.laid (t' := s4.toks) (o := .lst xs.reverse) (fun b ob q => Heap.get?_push_of_some _ q) (Nat.le_refl _) ?_, rfl, q _ (I5.hok.fresh (Nat.le_refl _))⟩
    exact ⟨by rw [List.length_reverse]; exact hz, _, 0, r.reverse, Heap.get?_push_size _ rfl⟩
  · obtain ⟨its, r, ht, hz⟩ := I5.tuple hx
    have hlen := r.length
    cases pl
    cases pu
    cases ps
    refine tail_any (ops := [.ref a, .ref s4.heap.objs.size]) ht.typeIs (PyProof.Rows.slot_tuple_getitem.lookup) ?_ (by with_unfolding_all rfl)
    refine getItem_tuple_rev ht (Heap.IsSliceOf.new _ _ _ _) ?_ (by rw [List.size_toArray]; omega)
    refine ⟨.ref _, _, I5.laid (t' := s4.toks) (o := .tup xs.reverse) (fun b ob q => Heap.get?_push_of_some _ q) (Nat.le_refl _) ?_, rfl, q _ (I5.hok.fresh (Nat.le_refl _))⟩
    exact ⟨by rw [List.length_reverse]; exact hz, _, r.reverse, IsTup.new _ _⟩
end
section
variable {K : PySem.W.Frag} {m m' : List Addr} {B B' H H' : Hp} {l : List O} {ρ : List (Option D)} {R : D → List O → Prop} {E : E3} {te tl : TE} {tt : TT} {t u : TS} {ty : TA} {g : TG}
theorem FRs.rev {vs : List V} {ds : List PyData} (h : FRs K B vs ds) : FRs K B vs.reverse ds.reverse := by
  have go : ∀ {vs : List V} {ds : List PyData}, FRs K B vs ds → ∀ {us : List V} {es : List PyData}, FRs K B us es → FRs K B (vs.reverseAux us) (ds.reverseAux es) := by
    intro vs
    induction vs with
    | nil => intro ds h us es q; cases h; exact q
    | cons v vs ih =>
      intro ds h us es q
      cases h with
      | cons h1 h2 => exact ih h2 (.cons h1 q)
  exact go h .nil
/-- xs[::-1] -/
theorem e_revT (h : EvS K te ρ l fun x l1 => ∃ ds, x = .f (.tuple ds) ∧ R (.f (.tuple ds.reverse)) l1) : EvS K (tRevU K te) ρ l R := fun m B H σ S e Q q => by
  refine h m B H σ S e _ fun v m1 B1 H1 x l1 s1 S1 r1 ⟨ds, ex, z⟩ => ?_
  subst ex
  cases r1 with
  | @tup a us _ h1 pr => exact ⟨a, us, rfl, .inr ⟨sqT_same S1.sub h1.sq, fun p hp => retT S1 (q.step s1) hp pr.rev z⟩⟩
end
end L3
/-! L3zm: zip of lists and tuples in any mix, each pair stays; dict(zip(..)) -/
namespace L3
open PySem L2 PySem.Spec PyProof.Rows
end L3
/-! L3zn: isinstance of (list, tuple); max of a list; lists of ints put anew -/
namespace L3
open PySem L2 PySem.Spec PyProof.Rows
end L3
/-! L3zo: depths: the greatest weight of the ways that end at a thing, as plain lists -/
namespace L3
open PySem L2
theorem putD_new {κ : Type} [DecidableEq κ] {kvs : List (κ × PyData)} {k : κ} {v : PyData} (h : ∀ p ∈ kvs, p.1 ≠ k) : putD kvs k v = kvs ++ [(k, v)] := by
  unfold putD
  rw [if_neg]
  intro q
  obtain ⟨p, hp, e⟩ := List.any_eq_true.mp q
  exact h p hp (of_decide_eq_true e)
theorem mergeD_new {κ : Type} [DecidableEq κ] : ∀ {more kvs : List (κ × PyData)}, (more.map (·.1)).Nodup → (∀ p ∈ more, ∀ q ∈ kvs, q.1 ≠ p.1) → mergeD kvs more = kvs ++ more
  | [], kvs, _, _ => by simp [mergeD]
  | p :: more, kvs, hn, h => by
    rw [List.map_cons, List.nodup_cons] at hn
    have e : mergeD kvs (p :: more) = mergeD (kvs ++ [p]) more := by
      show mergeD (putD kvs p.1 p.2) more = _
      rw [putD_new fun q hq => h p List.mem_cons_self q hq]
    rw [e, mergeD_new hn.2 fun a ha b hb => ?_, List.append_assoc]
    · rfl
    · rcases List.mem_append.mp hb with hb | hb
      · exact h a (List.mem_cons_of_mem _ ha) b hb
      · rw [List.mem_singleton.mp hb]
        exact fun e => hn.1 (e ▸ List.mem_map_of_mem ha)
/-- the depths of things: the own weight, and with it the greatest depth of a prior where that is more than nought -/
def DeepF {α : Type} (P : α → Prop) (es : List (α × α)) (w f : α → Int) : Prop := ∀ x, P x → ∃ M, f x = w x + M ∧ 0 ≤ M ∧ (∀ p, (p, x) ∈ es → f p ≤ M) ∧ (M = 0 ∨ ∃ p, (p, x) ∈ es ∧ M = f p)
theorem DeepF.most {α : Type} {P : α → Prop} {es : List (α × α)} {w f : α → Int} {n : Nat} {C : Int} (h : DeepF P es w f) (hr : Ranked n es) (hP : ∀ e ∈ es, P e.1) (hC : 0 ≤ C) (hw : ∀ x, P x → -C ≤ w x ∧ w x ≤ C) : ∀ x, P x → -C ≤ f x ∧ f x ≤ ((n : Int) + 1) * C := by
  obtain ⟨r, h1, h2⟩ := hr
  have go : ∀ (j : Nat) x, r x ≤ j → P x → f x ≤ ((r x : Int) + 1) * C := by
    intro j
    induction j with
    | zero =>
      intro x hx px
      obtain ⟨M, e, m0, _, m2⟩ := h x px
      have w2 := (hw x px).2
      rcases m2 with m2 | ⟨p, hp, _⟩
      · have : r x = 0 := by omega
        rw [this]
        have : ((0 : Nat) : Int) + 1 = 1 := rfl
        rw [this, Int.one_mul]
        omega
      · have := h1 _ hp
        simp only at this
        omega
    | succ j ih =>
      intro x hx px
      obtain ⟨M, e, m0, _, m2⟩ := h x px
      have w2 := (hw x px).2
      have k0 : ((r x : Int) + 1) * C = (r x : Int) * C + C := by rw [Int.add_mul, Int.one_mul]
      rcases m2 with m2 | ⟨p, hp, m2⟩
      · have := Int.mul_nonneg (show (0 : Int) ≤ (r x : Int) by omega) hC
        omega
      · have lt := h1 _ hp
        simp only at lt
        have hb := ih p (by omega) (hP _ hp)
        have hm : ((r p : Int) + 1) * C ≤ (r x : Int) * C := Int.mul_le_mul_of_nonneg_right (by omega) hC
        omega
  intro x px
  obtain ⟨M, e, m0, _, _⟩ := h x px
  refine ⟨by have := (hw x px).1; omega, ?_⟩
  have hb := go _ x (Nat.le_refl _) px
  have hm : ((r x : Int) + 1) * C ≤ ((n : Int) + 1) * C := Int.mul_le_mul_of_nonneg_right (by have := h2 x; omega) hC
  omega
/-- numbers raised by the ties: round j, tie i -/
structure BF (es : List (Int × Int)) (n : Nat) (w d : Int → Int) (r : Int → Nat) (j i : Nat) (gs : List Int) : Prop where
  len : gs.length = n
  lo : ∀ k, InR n k → w k ≤ gs.getD k.toNat 0
  hi : ∀ k, InR n k → gs.getD k.toNat 0 ≤ d k
  eq : ∀ k, InR n k → r k ≤ j → gs.getD k.toNat 0 = d k
  up : ∀ k, InR n k → r k ≤ j + 1 → ∀ p, (p, k) ∈ es.take i → d p + w k ≤ gs.getD k.toNat 0
section
variable {es : List (Int × Int)} {n : Nat} {w d : Int → Int} {r : Int → Nat} {j i : Nat} {gs : List Int}
theorem BF.start (hd : DeepF (InR n) es w d) (h1 : ∀ e ∈ es, r e.1 < r e.2) {ws : List Int} (hl : ws.length = n) (hw : ∀ k, InR n k → ws.getD k.toNat 0 = w k) : BF es n w d r 0 0 ws where
  len := hl
  lo := fun k hk => by rw [hw k hk]; exact Int.le_refl _
  hi := fun k hk => by
    obtain ⟨M, e, m0, _⟩ := hd k hk
    rw [hw k hk]; omega
  eq := fun k hk h0 => by
    obtain ⟨M, e, m0, _, m2⟩ := hd k hk
    rw [hw k hk]
    rcases m2 with m2 | ⟨p, hp, _⟩
    · omega
    · have := h1 _ hp
      simp only at this
      omega
  up := fun k hk _ p hp => by simp at hp
theorem BF.step (hd : DeepF (InR n) es w d) (h1 : ∀ e ∈ es, r e.1 < r e.2) (hr : ∀ e ∈ es, InR n e.1 ∧ InR n e.2) (h : BF es n w d r j i gs) {e : Int × Int} (he : es[i]? = some e) {v : Int}
    (hv : v = if gs.getD e.1.toNat 0 + w e.2 > gs.getD e.2.toNat 0 then gs.getD e.1.toNat 0 + w e.2 else gs.getD e.2.toNat 0) : BF es n w d r j (i + 1) (gs.set e.2.toNat v) := by
  have hm := List.mem_of_getElem? he
  obtain ⟨r1, r2⟩ := hr e hm
  have hb : e.2.toNat < gs.length := by have := r2.2; have := r2.1; rw [h.len]; omega
  have at_ : ∀ k, InR n k → (gs.set e.2.toNat v).getD k.toNat 0 = if k = e.2 then v else gs.getD k.toNat 0 := fun k hk => by
    rw [List.getD_eq_getElem?_getD]
    by_cases c : k = e.2
    · rw [if_pos c, c, List.getElem?_set_self hb]; rfl
    · rw [if_neg c, List.getElem?_set_ne (fun q => c (by have := hk.1; have := r2.1; omega)), ← List.getD_eq_getElem?_getD]
  have v1 : gs.getD e.2.toNat 0 ≤ v := by rw [hv]; split <;> omega
  have v2 : gs.getD e.1.toNat 0 + w e.2 ≤ v := by rw [hv]; split <;> omega
  have v3 : v ≤ d e.2 := by
    obtain ⟨M, eM, m0, m1, _⟩ := hd e.2 r2
    have a := m1 e.1 hm
    have b := h.hi e.1 r1
    have c := h.hi e.2 r2
    rw [hv]; split <;> omega
  exact {
    len := by rw [List.length_set]; exact h.len
    lo := fun k hk => by
      rw [at_ k hk]
      split
      · rename_i c; subst c; have := h.lo _ r2; omega
      · exact h.lo k hk
    hi := fun k hk => by
      rw [at_ k hk]
      split
      · rename_i c; rw [c]; exact v3
      · exact h.hi k hk
    eq := fun k hk h0 => by
      rw [at_ k hk]
      split
      · rename_i c; subst c; have := h.eq _ r2 h0; omega
      · exact h.eq k hk h0
    up := fun k hk h0 p hp => by
      rw [at_ k hk]
      rw [take_next he] at hp
      rcases List.mem_append.mp hp with hp | hp
      · split
        · rename_i c; subst c; have := h.up _ r2 h0 p hp; omega
        · exact h.up k hk h0 p hp
      · have ep := List.mem_singleton.mp hp
        subst ep
        rw [if_pos rfl]
        have lt := h1 _ hm
        simp only at lt
        have := h.eq p r1 (by omega)
        simp only at v2
        omega }
theorem BF.done (h : BF es n w d r j i gs) (hr : ∀ k, r k ≤ j) {xs : List Str} {f : Str → Int} (hx : xs.length = n) (hf : ∀ k, InR n k → d k = f (nm xs k)) : gs = xs.map f := by
  refine List.ext_getElem? fun i => ?_
  by_cases hi : i < n
  · have ik : InR n (i : Int) := ⟨by omega, by omega⟩
    have e1 := h.eq i ik (hr _)
    rw [hf _ ik] at e1
    have e2 : xs[i]? = some xs[i] := List.getElem?_eq_getElem (by omega)
    have hg : i < gs.length := by rw [h.len]; exact hi
    have e3 : gs[i]? = some gs[i] := List.getElem?_eq_getElem hg
    rw [nm_get e2, Int.toNat_natCast, List.getD_eq_getElem?_getD, e3] at e1
    rw [List.getElem?_map, e2, e3]
    exact congrArg some e1
  · rw [List.getElem?_eq_none (by rw [h.len]; omega), List.getElem?_eq_none (by rw [List.length_map]; omega)]
end
end L3
/-! L3zp: plain tuples (plD): made by tuple(list), indexed, walked, sliced, made a dict -/
namespace L3
open PySem L2 PySem.Spec PyProof.Rows
section
variable {X : Cx}
def rTupleP (K : PySem.W.Frag) : List V → Hp → VK → Prop := fun xs H Q => ∃ p ys, xs = [.ref p] ∧ SqL K H p ys ∧ ∀ (l : Addr) (o : Obj), H l = none → o.dict = none → Q (.ref l) (upd H l (.frz o (.tup ys)))
theorem u_tupleP {K : PySem.W.Frag} (hK : X.K = K) : CallR X (.type "tuple") (rTupleP K) := by
  subst hK
  intro pins s σ H xs us Q I r h
  obtain ⟨p, ys, rfl, hq, q⟩ := h
  obtain ⟨u, rfl, rx⟩ := vals1 r
  cases rx
  obtain ⟨its, r', pl, hz⟩ := I.list hq
  have hlen := r'.length
  refine call_tuple_list pl.isList (fun h' kp => ?_) (by simp only [List.size_toArray] <;> omega)
  have I1 : L2.Inv X pins σ H { s with heap := h' } := I.kept (t' := s.toks) kp
  have I2 := I1.laid (a := h'.objs.size) (o := .frz { cls := .type "tuple", data := .seq its.toArray } (.tup ys)) (h' := h'.push { cls := .type "tuple", data := .seq its.toArray }) (t' := s.toks) (fun b o e => Heap.get?_push_of_some _ e) (Nat.le_refl _) ⟨Heap.get?_push_size _ rfl, hz, its, r', IsTup.new _ _⟩
  exact ⟨.ref h'.objs.size, _, I2, rfl, q _ _ (I1.hok.fresh (Nat.le_refl _)) rfl⟩
theorem pairsV_of {pins : List (Addr × Obj)} {σ : L2.St} {H : Hp} {s : Shared} (I : L2.Inv X pins σ H s) : ∀ {ps : List Addr} {kvs : List (Key × V)}, Paired (fun p kv => SqT X.K H p [kV kv.1, kv.2]) ps kvs →
    ∃ (prs : List (Key × Value)) (us : List (Value × Value)), KV kvs prs ∧ prs.length = ps.length ∧ us.length = ps.length ∧ (∀ (j : Nat) (q : Value × Value), us[j]? = some q → ∃ (b : Addr), ps[j]? = some b ∧ IsTup s.heap b #[q.1, q.2]) ∧
      ∀ (j : Nat) (q : Value × Value), us[j]? = some q → ∃ k, prs[j]? = some (k, q.2) ∧ keyIs k q.1 = true
  | _, _, .nil => ⟨[], [], .nil, rfl, rfl, fun j q e => by simp at e, fun j q e => by simp at e⟩
  | _, _, .cons (a := p) (b := kv) h t => by
    obtain ⟨prs, us, r, hl, hl2, hp, hq⟩ := pairsV_of I t
    obtain ⟨its, rv, ht, _⟩ := I.tuple h
    obtain ⟨u, y, ei, ru, ry⟩ := vals2 rv
    subst ei
    refine ⟨(kv.1, y) :: prs, (u, y) :: us, .cons ⟨rfl, ry⟩ r, by rw [List.length_cons, List.length_cons, hl], by rw [List.length_cons, List.length_cons, hl2], fun j q e => ?_, fun j q e => ?_⟩
    · cases j with
      | zero => cases e; exact ⟨p, rfl, ht⟩
      | succ j => exact hp j q (by simpa using e)
    · cases j with
      | zero => cases e; exact ⟨kv.1, rfl, kV_is (P := X.prog) (w := X.w) ru⟩
      | succ j => exact hq j q (by simpa using e)
def rDictQ (K : PySem.W.Frag) : List V → Hp → VK → Prop := fun xs H Q => ∃ (a : Addr) (o : Obj) (ps : List Addr) (kvs : List (Key × V)), xs = [.ref a] ∧ H a = some (.frz o (.tup (ps.map V.ref))) ∧ o.dict = none ∧ Paired (fun p kv => SqT K H p [kV kv.1, kv.2]) ps kvs ∧
    ∀ p, H p = none → Q (.ref p) (upd H p (.dK (mergeK [] kvs)))
theorem call_dictQ (hcalm : X.calm = true) : CallR X (.type "dict") (rDictQ X.K) := by
  intro pins s σ H xs us Q I r q
  obtain ⟨a, oa, ps, kvs, ex, ha, hdn, hp, q⟩ := q
  subst ex
  obtain ⟨u, eu, rx⟩ := vals1 r
  subst eu
  cases (show u = Value.ref a from rx)
  obtain ⟨hget, hz, its, rv, o', ho', hc', n, hdat⟩ := (I.hok a _ ha)
  rw [hget] at ho'
  cases ho'
  have ei := refs_at rv
  subst ei
  rw [List.length_map] at hz
  obtain ⟨prs, vs, rel, hl, hl2, hpt, hpk⟩ := pairsV_of I hp
  have P := PairArg.tuple (prog := X.prog) (w := X.w) a (ps.map Value.ref).toArray (fun j => ps.getD j 0) vs
  refine PySem.call_dict_pairs (s := s) (knd := mixKind X.prog X.w) (kvs := prs) P (I.ok.hd hcalm) ⟨⟨oa, n, hget, hc', hdn, hdat⟩, by simp [hl2], fun j k v e => ?_⟩ ⟨by rw [hl, hl2], fun i key v e => hpk i _ e⟩ (by rw [hl2]; exact hz) fun h' tk hd' k => ?_
  · obtain ⟨b, e2, e3⟩ := hpt j _ e
    have e4 : ps.getD j 0 = b := by rw [List.getD_eq_getElem?_getD, e2]; rfl
    refine ⟨by show _ = some (Value.ref (ps.getD j 0)); rw [e4]; simp [e2], .inl (by show s.heap.IsTuple (ps.getD j 0) _; rw [e4]; exact e3)⟩
  · have hm : (s.heap.objs.size == sysModules) = false := beq_eq_false_iff_ne.mpr (Nat.ne_of_gt I.big)
    have hlen : (mergeK [] kvs).length ≤ sizeLine := by
      refine Nat.le_trans (length_mergeK kvs []) ?_
      rw [List.length_nil, Nat.zero_add, rel.length, hl]
      exact hz
    exact ⟨.ref s.heap.objs.size, upd H s.heap.objs.size (.dK (mergeK [] kvs)), I.laid (t' := tk) (fun b o e => k b o (fun z => by cases z) e) (Nat.le_refl _) (show ObjOk X.prog X.w _ _ _ (.dK (mergeK [] kvs)) from ⟨hlen, hm, merged [] prs, KV.merge rel .nil, hd'⟩), rfl, q _ (I.hok.fresh (Nat.le_refl _))⟩
theorem u_dictP {K : PySem.W.Frag} (hK : X.K = K) (hcalm : X.calm = true) : CallR X (.type "dict") (rDictQ K) := by
  subst hK
  exact call_dictQ hcalm
end
section
variable {K : PySem.W.Frag} {m m' : List Addr} {B B' H H' : Hp} {l : List O} {ρ : List (Option D)} {R : D → List O → Prop} {E : E3} {te tl : TE} {tt : TT} {t u : TS} {ty : TA} {g : TG}
theorem pl_at (S : SR K m B H l) {v : V} {ds : List PyData} (r : VR K m B v (.f (plD ds))) : ∃ a xs o, v = .ref a ∧ H a = some (.frz o (.tup xs)) ∧ o.dict = none ∧ FRs K B xs ds := by
  cases r with
  | plt h1 h2 =>
    obtain ⟨o, h3, h4⟩ := h1
    exact ⟨_, _, o, rfl, S.sub _ _ h3, h4, h2⟩
/-- tuple(list): a plain tuple -/
theorem c_tupleP {x : D} {ds : List PyData} (h : IsL l x ds) (z : R (.f (plD ds)) l) : CaS K (rTupleP K) [x] l R := fun m B H vs S r Q q => by
  cases r with
  | cons r1 r2 =>
    cases r2
    obtain ⟨a, us, rfl, e2, pr⟩ := h.at S r1
    refine ⟨a, us, rfl, SqL.of e2, fun p o hp hd => ?_⟩
    obtain ⟨S2, s2, e3⟩ := S.allocF (u := .frz o (.tup us)) hp
    exact q _ m _ _ (.f (plD ds)) l s2 S2 (FR.plt ⟨o, e3, hd⟩ (FRs.same s2.sub ds us pr)) z
/-- dict(a plain tuple of pairs) -/
theorem c_dictP {prs : List (Key × PyData)} (z : R (.own l.length) (l ++ [.dct (mergeD [] prs)])) : CaS K (rDictQ K) [.f (plD (prs.map prK))] l R := fun m B H vs S r Q q => by
  cases r with
  | cons r1 r2 =>
    cases r2
    obtain ⟨a, us, o, rfl, ha, hd, q1⟩ := pl_at S r1
    obtain ⟨ps, kvs, e3, e4, e5⟩ := prK_of S.sub q1
    subst e3
    refine ⟨a, o, ps, kvs, rfl, ha, hd, e4, fun p hp => ?_⟩
    have mg := merge_of e5 (ks := []) (kvs := []) .nil
    obtain ⟨S2, s2, r2⟩ := S.alloc (u := .dK (mergeK [] kvs)) (o := .dct (mergeD [] prs)) hp ⟨_, upd_same, mg⟩
    exact q _ _ _ _ _ _ s2 S2 r2 z
theorem itok_pl {a : Addr} {ds : List PyData} (hx : VR K m B (.ref a) (.f (plD ds))) : ItOk K m B (Itt K a) (fun l' => True) ds.length (fun i => .f (ds.getD i .none)) := fun i m' B' H' l' hs hp S _ => by
  obtain ⟨a', us, o, ea, ha, _, q⟩ := pl_at S (hx.up hs hp)
  cases ea
  have h1' : SqT K H' a us := .inl (.inr ⟨o, ha⟩)
  have hl := q.length
  refine ⟨fun hi => ?_, fun hi => ⟨us, h1', by omega⟩⟩
  have hd : ds[i]? = some ds[i] := by simp [hi]
  obtain ⟨v, hv, rv⟩ := q.get hd
  refine ⟨⟨us, v, h1', hv⟩, fun y H3 ⟨eH, hy⟩ => ?_⟩
  subst eH
  have := hy us h1'
  rw [hv] at this; cases this
  refine ⟨B', Step.refl _ _ _, S, ?_⟩
  show FR K B' v (ds.getD i .none)
  rw [List.getD_eq_getElem?_getD, hd]
  exact rv
theorem i_seqP {R : (List O → Prop) → Nat → (Nat → D) → List O → Prop} (h : EvS K tl ρ l fun x l1 => ∃ ds, x = .f (plD ds) ∧ R (fun _ => True) ds.length (fun i => .f (ds.getD i .none)) l1) : EvI K (iSeq K tl) ρ l R := fun m B H σ S e Rt q => by
  refine h m B H σ S e _ fun v m1 B1 H1 x l1 s1 S1 r1 ⟨ds, ex, z⟩ => ?_
  subst ex
  obtain ⟨a, us, o, rfl, ha, hd, qq⟩ := pl_at S1 r1
  exact ⟨a, rfl, .inr ⟨⟨us, .inl (.inr ⟨o, ha⟩)⟩, q (Itt K a) m1 B1 H1 l1 _ _ _ s1 S1 (fun i m' B' H' l' hs hp S' P => itok_pl r1 i m' B' H' l' hs hp S' trivial) z⟩⟩
/-- FOR over a plain tuple -/
theorem x_forP (h : EvS K tl ρ l fun x l1 => ∃ ds, x = .f (plD ds) ∧ ∃ I : Nat → List (Option D) → List O → Prop, I 0 ρ l1 ∧
      (∀ i d ρ' l', ds[i]? = some d → I i ρ' l' → AsS K g (.f d) ρ' l' fun ρ2 l2 => ExS K t ρ2 l2 ⟨I (i + 1), E.rt, E.nx, I (i + 1)⟩) ∧ ∀ ρ' l', I ds.length ρ' l' → E.nx ρ' l') : ExS K (tFor (iSeq K tl) g t) ρ l E :=
  x_for (i_seqP (h.imp fun x l1 ⟨ds, hq, I, h0, hs, hd⟩ => ⟨ds, hq, I, h0, fun _ _ _ _ _ => trivial, fun i ρ' l' hi z => by
    have e : ds[i]? = some (ds.getD i .none) := by rw [List.getD_eq_getElem?_getD]; simp [hi]
    exact hs i _ ρ' l' e z, hd⟩))
theorem xs_forP (h : EvS K tl ρ l fun x l1 => ∃ ds, x = .f (plD ds) ∧ ∃ I : Nat → List (Option D) → List O → Prop, I 0 ρ l1 ∧
      (∀ i d ρ' l', ds[i]? = some d → I i ρ' l' → AsS K g (.f d) ρ' l' fun ρ2 l2 => ExS K t ρ2 l2 ⟨I (i + 1), E.rt, fun ρ3 l3 => ExS K u ρ3 l3 E, I (i + 1)⟩) ∧ ∀ ρ' l', I ds.length ρ' l' → ExS K u ρ' l' E) : ExS K (tSeq (tFor (iSeq K tl) g t) u) ρ l E :=
  x_seq (x_forP h)
/-- a plain tuple indexed -/
theorem o_ixP {ds : List PyData} {i : Int} {d : PyData} (hd : atI ds i = some d) (z : R (.f d) l) : OpS K (rIxU K) (.f (plD ds)) (.f (.int i)) l R := fun m B H vx vy S r1 r2 Q q => by
  obtain ⟨a, us, o, rfl, ha, _, q1⟩ := pl_at S r1
  obtain ⟨v, ev, rv⟩ := frs_at q1 hd
  exact .inl (.inr (.inl ⟨a, us, i, v, rfl, int_of r2, .inl (.inr ⟨o, ha⟩), ev, ret0 (d := .f d) S q rv z⟩))
end
/-! what plain tuples are as data -/
mutual
def unpl : PyData → PyData
  | .none => .none
  | .bool b => .bool b
  | .int i => .int i
  | .str x => .str x
  | .list xs => .list (unplAll xs)
  | .tuple xs => .tuple (unplAll xs)
  | .dict [(.none, .tuple xs)] => .tuple (unplAll xs)
  | .dict kvs => .dict kvs
def unplAll : List PyData → List PyData
  | [] => []
  | x :: xs => unpl x :: unplAll xs
end
end L3
/-! L3zq: a store in which knots grow -/
namespace L3
open PySem L2
theorem get_insAt {α : Type} {xs : List α} {j : Nat} (hj : j ≤ xs.length) (x : α) (n : Nat) : (insAt xs j x)[n]? = if n < j then xs[n]? else if n = j then some x else xs[n - 1]? := by
  unfold insAt
  have hl : (xs.take j).length = j := by rw [List.length_take]; omega
  rw [List.append_assoc]
  by_cases h1 : n < j
  · rw [if_pos h1, List.getElem?_append_left (by rw [hl]; exact h1), List.getElem?_take, if_pos h1]
  · rw [if_neg h1, List.getElem?_append_right (by rw [hl]; omega), hl]
    by_cases h2 : n = j
    · subst h2
      rw [if_pos rfl, Nat.sub_self]
      rfl
    · rw [if_neg h2]
      obtain ⟨m, rfl⟩ : ∃ m, n = j + 1 + m := ⟨n - j - 1, by omega⟩
      rw [show j + 1 + m - j = m + 1 by omega, show j + 1 + m - 1 = j + m by omega]
      show (xs.drop j)[m]? = _
      rw [List.getElem?_drop]
/-- the pen at 0, the list of knots at 3, the levels at 4; each knot a tuple of its name and its own list -/
structure TreeS (l : List O) (ks : Knots) (ps : List (Nat × Nat)) (kvs : List (Key × PyData)) (o : O) : Prop where
  pen : l[0]? = some o
  isp : IsPen o
  rfs : l[3]? = some (.rfs (ps.map fun p => D.own p.1))
  dct : l[4]? = some (.dct kvs)
  nd : (ps.map (·.2)).Nodup
  len : ps.length = ks.length
  at_ : ∀ (i : Nat) p k, ps[i]? = some p → ks[i]? = some k → l[p.1]? = some (.tpr [.f (.str k.1), .own p.2]) ∧ l[p.2]? = some (.lst (sPy k.2))
theorem set_get_ne {l : List O} {i j : Nat} {x y z : O} (hi : l[i]? = some x) (hj : l[j]? = some y) (h : x ≠ y) : (l.set i z)[j]? = some y := by
  rw [List.getElem?_set_ne]
  · exact hj
  · rintro rfl
    rw [hi] at hj
    exact h (Option.some.inj hj)
theorem set_get_eq {l : List O} {i : Nat} {x z : O} (hi : l[i]? = some x) : (l.set i z)[i]? = some z := List.getElem?_set_self (List.getElem?_eq_some_iff.mp hi).1
section
variable {l : List O} {ks : Knots} {ps : List (Nat × Nat)} {kvs kvs' : List (Key × PyData)} {o o2 : O}
theorem IsPen.form (h : IsPen o) : ∃ ds, o = .rfs ds := by
  obtain ⟨s, a, b, rfl, _⟩ := h
  exact ⟨_, rfl⟩
theorem TreeS.knot (h : TreeS l ks ps kvs o) {i : Nat} {k : Str × List Str} (hk : ks[i]? = some k) : ∃ p, ps[i]? = some p := by
  have hi := (List.getElem?_eq_some_iff.mp hk).1
  exact ⟨ps[i]'(by rw [h.len]; exact hi), List.getElem?_eq_getElem _⟩
theorem TreeS.take1 (h : TreeS l ks ps kvs o) : l.take 1 = [o] := by
  have e := h.pen
  cases l with
  | nil => simp at e
  | cons a l => simp at e; subst e; rfl
theorem TreeS.drawn (h : TreeS l ks ps kvs o) (h2 : IsPen o2) : TreeS (l.set 0 o2) ks ps kvs o2 := by
  obtain ⟨d1, e1⟩ := h.isp.form
  exact {
    pen := set_get_eq h.pen
    isp := h2
    rfs := by rw [List.getElem?_set_ne (by decide)]; exact h.rfs
    dct := by rw [List.getElem?_set_ne (by decide)]; exact h.dct
    nd := h.nd
    len := h.len
    at_ := fun i p k a b => by
      obtain ⟨g1, g2⟩ := h.at_ i p k a b
      exact ⟨set_get_ne h.pen g1 (by rw [e1]; nofun), set_get_ne h.pen g2 (by rw [e1]; nofun)⟩ }
theorem TreeS.lev (h : TreeS l ks ps kvs o) : TreeS (l.set 4 (.dct kvs')) ks ps kvs' o where
  pen := by rw [List.getElem?_set_ne (by decide)]; exact h.pen
  isp := h.isp
  rfs := by rw [List.getElem?_set_ne (by decide)]; exact h.rfs
  dct := set_get_eq h.dct
  nd := h.nd
  len := h.len
  at_ := fun i p k a b => by
    obtain ⟨g1, g2⟩ := h.at_ i p k a b
    exact ⟨set_get_ne h.dct g1 nofun, set_get_ne h.dct g2 nofun⟩
theorem TreeS.put (h : TreeS l ks ps kvs o) {i : Nat} {p : Nat × Nat} {k : Str} {xs ys : List Str} (hp : ps[i]? = some p) (hk : ks[i]? = some (k, xs)) : TreeS (l.set p.2 (.lst (sPy ys))) (ks.set i (k, ys)) ps kvs o := by
  obtain ⟨d1, e1⟩ := h.isp.form
  obtain ⟨b1, b2⟩ := h.at_ i p _ hp hk
  have hlt : i < ks.length := (List.getElem?_eq_some_iff.mp hk).1
  exact {
    pen := set_get_ne b2 h.pen (by rw [e1]; nofun)
    isp := h.isp
    rfs := set_get_ne b2 h.rfs nofun
    dct := set_get_ne b2 h.dct nofun
    nd := h.nd
    len := by rw [List.length_set]; exact h.len
    at_ := fun n q k' a b => by
      by_cases e : n = i
      · subst e
        rw [hp] at a
        cases a
        rw [List.getElem?_set_self hlt] at b
        cases b
        exact ⟨set_get_ne b2 b1 nofun, set_get_eq b2⟩
      · rw [List.getElem?_set_ne (fun q => e q.symm)] at b
        obtain ⟨g1, g2⟩ := h.at_ n q k' a b
        refine ⟨set_get_ne b2 g1 nofun, ?_⟩
        rw [List.getElem?_set_ne]
        · exact g2
        · intro e2
          have z1 : (ps.map (·.2))[n]? = some q.2 := by rw [List.getElem?_map, a]; rfl
          have z2 : (ps.map (·.2))[i]? = some q.2 := by rw [List.getElem?_map, hp, ← e2]; rfl
          obtain ⟨l1, c1⟩ := List.getElem?_eq_some_iff.mp z1
          obtain ⟨l2, c2⟩ := List.getElem?_eq_some_iff.mp z2
          apply e
          rw [← h.nd.idxOf_getElem n l1, ← h.nd.idxOf_getElem i l2, c1, c2] }
theorem TreeS.group (h : TreeS l ks ps kvs o) {x : Str} {j : Nat} (hj : j ≤ ps.length) : TreeS ((l ++ [O.lst [], O.tpr [D.f (.str x), D.own l.length]]).set 3 (O.rfs (insAt (ps.map fun p => D.own p.1) j (.own (l.length + 1))))) (insAt ks j (x, [])) (insAt ps j (l.length + 1, l.length)) kvs o := by
  obtain ⟨d1, e1⟩ := h.isp.form
  have up : ∀ {i : Nat} {y : O}, l[i]? = some y → (l ++ [O.lst [], O.tpr [D.f (.str x), D.own l.length]])[i]? = some y := fun e => by
    rw [List.getElem?_append_left (List.getElem?_eq_some_iff.mp e).1]; exact e
  have n1 : (l ++ [O.lst [], O.tpr [D.f (.str x), D.own l.length]])[l.length]? = some (.lst []) := by rw [List.getElem?_append_right (Nat.le_refl _), Nat.sub_self]; rfl
  have n2 : (l ++ [O.lst [], O.tpr [D.f (.str x), D.own l.length]])[l.length + 1]? = some (.tpr [.f (.str x), .own l.length]) := by rw [List.getElem?_append_right (by omega), Nat.add_sub_cancel_left]; rfl
  exact {
    pen := by rw [List.getElem?_set_ne (by decide)]; exact up h.pen
    isp := h.isp
    rfs := by rw [insAt_map]; exact set_get_eq (up h.rfs)
    dct := by rw [List.getElem?_set_ne (by decide)]; exact up h.dct
    nd := by
      rw [insAt_map]
      refine insAt_nodup _ h.nd fun hm => ?_
      obtain ⟨q, hq, e⟩ := List.mem_map.mp hm
      obtain ⟨n, hn⟩ := List.getElem?_of_mem hq
      have hl : n < ks.length := by rw [← h.len]; exact (List.getElem?_eq_some_iff.mp hn).1
      have g := (h.at_ n q _ hn (List.getElem?_eq_getElem hl)).2
      have := (List.getElem?_eq_some_iff.mp g).1
      omega
    len := by rw [insAt_len, insAt_len, h.len]
    at_ := fun n q k' a b => by
      rw [get_insAt hj] at a
      rw [get_insAt (by rw [← h.len]; exact hj)] at b
      by_cases c1 : n < j
      · rw [if_pos c1] at a b
        obtain ⟨g1, g2⟩ := h.at_ n q k' a b
        exact ⟨set_get_ne (up h.rfs) (up g1) nofun, set_get_ne (up h.rfs) (up g2) nofun⟩
      · rw [if_neg c1] at a b
        by_cases c2 : n = j
        · rw [if_pos c2] at a b
          cases a
          cases b
          exact ⟨set_get_ne (up h.rfs) n2 nofun, set_get_ne (up h.rfs) n1 nofun⟩
        · rw [if_neg c2] at a b
          obtain ⟨g1, g2⟩ := h.at_ _ q k' a b
          exact ⟨set_get_ne (up h.rfs) (up g1) nofun, set_get_ne (up h.rfs) (up g2) nofun⟩ }
end
theorem ksPy_app (a b : Knots) : ksPy (a ++ b) = ksPy a ++ ksPy b := List.map_append ..
theorem sPy_insAt (xs : List Str) (n : Nat) (x : Str) : (sPy xs).take n ++ [PyData.str x] ++ (sPy xs).drop n = sPy (insAt xs n x) := (insAt_map PyData.str xs n x).symm
section
variable {K : PySem.W.Frag} {l : List O} {R : D → List O → Prop}
theorem c_lenR {n : Nat} {ds : List D} (h : l[n]? = some (.rfs ds)) (z : R (.f (.int ds.length)) l) : CaS K (rLenU K) [.own n] l R := fun m B H vs S r Q q => by
  cases r with
  | cons r1 r2 =>
    cases r2
    obtain ⟨a, rfl, ha⟩ := r1
    obtain ⟨⟨xs, e, pr⟩, _⟩ := S.obj n a _ ha h
    refine .inl ⟨a, xs, rfl, .inl (SqL.of e), ?_⟩
    rw [pair_len pr]
    exact retF S q (FR.int _) z
end
end L3
/-! L3zr: methods and built-ins of plain tuples; repr of data with plain tuples -/
namespace L3
open PySem L2 PySem.Spec PyProof.Rows
theorem plainAttrs_tup : PlainAttrs "tuple" := PySem.F.plainAttrs_tuple
theorem ty_tindex : typeOf (.builtin "tuple.index") = pure (.type "method_descriptor") := PySem.F.type_tuple_index
section
variable {X : Cx}
def IsPl (x : V) (H : Hp) : Prop := ∃ (a : Addr) (o : Obj) (xs : List V), x = .ref a ∧ H a = some (.frz o (.tup xs)) ∧ o.dict = none
theorem isPl_is {pins : List (Addr × Obj)} {σ : L2.St} {H : Hp} {s : Shared} {x : V} {v : Value} (I : L2.Inv X pins σ H s) (r : L2.RelV x v) (h : IsPl x H) : s.TypeIs v "tuple" ∧ ∀ a, v = .ref a → ∃ ob, s.heap.get? a = some ob ∧ ob.dict = none := by
  obtain ⟨a, o, xs, rfl, ha, hd⟩ := h
  cases r
  obtain ⟨hget, _, its, _, o', ho', hc', n, hdat⟩ := I.hok a _ ha
  rw [hget] at ho'
  cases ho'
  refine ⟨⟨o, hget, hc'⟩, fun b e => ?_⟩
  cases e
  exact ⟨o, hget, hd⟩
def tBMP (K : PySem.W.Frag) (r : V → List V → Hp → VK → Prop) (to : TE) (t : TA) : TE := fun σ H Q => to σ H fun x H1 => IsPl x H1 ∧ t σ H1 fun xs H2 => r x xs H2 Q
variable {o e : Expr} {es : List Expr} {to : TE} {t : TA} {name : Str} {apos cpos : Pos} {id : String} {r : V → List V → Hp → VK → Prop}
theorem u_bmP {K : PySem.W.Frag} (hK : X.K = K) (pa : PlainAttrs "tuple") (slot : Slot "tuple" name id) (hty : typeOf (.builtin id) = pure (.type "method_descriptor")) (hm : MtR X id r) (ho : PE X o to) (ha : PA X (e :: es) t)
    (hbase : attributeBase o name X.env (eval o X.env) = eval o X.env := by rfl)
    (hfew : ((backTo cpos (starEach (e :: es) X.env)).all (fun x => !x.1) && (backToKw cpos (keywordEach [] X.env)).all (fun x => x.1.isSome)
      && decide ((e :: es).length + ([] : List Keyword).length + (if ([] : List Keyword).isEmpty then 0 else 1) < 30)) = true := by rfl)
    (hline : (apos.endLine == cpos.line) = true := by rfl) (hs : starEach (e :: es) X.env = (false, eval e X.env) :: starEach es X.env := by rfl) (hplain : (backTo cpos (starEach es X.env)).any (·.1) = false := by rfl) :
    PE X (.Call (.Attribute o name apos) (e :: es) [] cpos) (tBMP K r to t) := by
  subst hK
  refine ⟨fun pins s σ H Q I h => ?_⟩
  refine wpAny_Call_method_late hbase hfew hline rfl (thn (ho.run pins s σ H _ I h) fun v s1 ⟨x, H1, I1, r1, ty, q1⟩ => ?_)
  obtain ⟨h1, h2⟩ := isPl_is I1 r1 ty
  refine ⟨"tuple", id, pa, slot, hty, h1, h2, ?_⟩
  have hA := ha.run cpos pins s1 σ H1 _ I1 q1
  rw [hs] at hA ⊢
  refine Calls.callWith_builtin (by show (false || (backTo cpos (starEach es X.env)).any (·.1)) = false; rw [hplain] <;> rfl) (Calls.evalArgs_plain ?_)
  exact thn hA fun us s2 ⟨vs, H2, I2, r2, q2⟩ => hm pins s2 σ H2 x vs v us Q I2 r1 r2 q2
def rTIndex (K : PySem.W.Frag) : V → List V → Hp → VK → Prop := fun x xs H Q => ∃ p, ∃ ys : List Str, ∃ z j, x = .ref p ∧ xs = [.str z] ∧ SqT K H p (ys.map V.str) ∧ ys[j]? = some z ∧ (∀ m, m < j → ys[m]? ≠ some z) ∧ Q (.int (j : Nat)) H
theorem u_tindex {K : PySem.W.Frag} (hK : X.K = K) : MtR X "tuple.index" (rTIndex K) := by
  subst hK
  exact mt_tup_index
end
section
variable {K : PySem.W.Frag} {m m' : List Addr} {B B' H H' : Hp} {l : List O} {ρ : List (Option D)} {R : D → List O → Prop} {E : E3} {te tl : TE} {tt : TT} {t u : TS} {ty : TA} {g : TG}
theorem e_bmP {r : V → List V → Hp → VK → Prop} {to : TE} (h : EvS K to ρ l fun x l1 => (∃ ds, x = .f (plD ds)) ∧ EvA K ty ρ l1 fun es l2 => MeS K r x es l2 R) : EvS K (tBMP K r to ty) ρ l R := fun m B H σ S e Q q => by
  refine h m B H σ S e _ fun v m1 B1 H1 x l1 s1 S1 r1 ⟨⟨ds, hL⟩, z⟩ => ?_
  subst hL
  obtain ⟨a, us, o, ev, ha, hd, qq⟩ := pl_at S1 r1
  refine ⟨⟨a, o, us, ev, ha, hd⟩, z m1 B1 H1 σ S1 (e.step s1) _ fun vs m2 B2 H2 es l2 s2 S2 r2 z2 => ?_⟩
  exact z2 m2 B2 H2 _ vs S2 (r1.step s2) r2 Q (q.step (s1.trans s2))
theorem m_tindex {xs : List Str} {y : Str} (hy : y ∈ xs) (z : R (.f (.int (xs.idxOf y : Nat))) l) : MeS K (rTIndex K) (.f (plD (sPy xs))) [.f (.str y)] l R := fun m B H vx vs S r1 r2 Q q => by
  cases r2 with
  | cons r2 r3 =>
    cases r3
    obtain ⟨a, us, o, ev, ha, hd, qq⟩ := pl_at S r1
    have eu := frs_str qq
    subst eu
    have hlt : xs.idxOf y < xs.length := List.idxOf_lt_length_iff.mpr hy
    refine ⟨a, xs, y, xs.idxOf y, ev, by rw [str_of r2], .inl (.inr ⟨o, ha⟩), ?_, fun m hm e => ?_, retF S q (FR.int _) z⟩
    · rw [List.getElem?_eq_getElem hlt, List.getElem_idxOf hlt]
    · have hml : m < xs.length := by omega
      rw [List.getElem?_eq_getElem hml] at e
      have e1 := Option.some.inj e
      have := List.not_of_lt_findIdx (p := fun z => z == y) (xs := xs) (i := m) hm
      rw [e1] at this
      simp at this
theorem o_inPS {neg : Bool} {x : Str} {xs : List Str} (z : R (.f (.bool (if neg then !decide (x ∈ xs) else decide (x ∈ xs)))) l) : OpS K (rInU K neg) (.f (.str x)) (.f (plD (sPy xs))) l R := fun m B H vx vy S r1 r2 Q q => by
  obtain ⟨a, us, o, e1, ha, _, q1⟩ := pl_at S r2
  have eu := frs_str q1
  subst eu
  refine .inl ⟨a, _, e1, .inr (.inl (.inr ⟨o, ha⟩)), by rw [str_of r1]; rfl, flat_str xs, ?_⟩
  rw [str_of r1, inV_str]
  exact retF S q (FR.bl _) z
theorem c_lenP {ds : List PyData} (z : R (.f (.int ds.length)) l) : CaS K (rLenU K) [.f (plD ds)] l R := fun m B H vs S r Q q => by
  cases r with
  | cons r1 r2 =>
    cases r2
    obtain ⟨a, us, o, e1, ha, _, q1⟩ := pl_at S r1
    refine .inl ⟨a, us, by rw [e1], .inr (.inl (.inr ⟨o, ha⟩)), ?_⟩
    rw [q1.length]
    exact retF S q (FR.int _) z
end
end L3
/-! L3zs: houses as plain lists: ways down, where units part, edges of a knot's view -/
namespace L3
open PySem L2
/-- knots within knots, not too many, not too deep -/
def TreeB (ks : Knots) (us : List Str) : Prop := ∃ deep r, Tree ks us deep r ∧ deep ≤ 100 ∧ us.length ≤ 60
def Arounds (ks : Knots) (kvs : List (Key × PyData)) : Prop := ∀ u k, Stands ks u k → lookD kvs (.inr u) = some (.str k)
def knotOf (ks : Knots) (u : Str) : Option Str := (ks.find? fun k => decide (u ∈ k.2)).map (·.1)
def pathF (ks : Knots) : Nat → Str → List Str
  | 0, _ => [nil0]
  | n + 1, u => if u = nil0 then [nil0] else match knotOf ks u with
    | none => [nil0, u]
    | some k => pathF ks n k ++ [u]
def pathOf (ks : Knots) (u : Str) : List Str := pathF ks 102 u
def partF (ks : Knots) (a b : Str) : Option (Str × Str × Str) := partP (pathOf ks a) (pathOf ks b)
def partD : Option (Str × Str × Str) → PyData
  | none => .none
  | some (k, a, b) => .tuple [.str k, .str a, .str b]
def kids (ks : Knots) (k : Str) : List Str := ((ks.find? fun p => decide (p.1 = k)).map (·.2)).getD []
section
variable {ks : Knots} {us : List Str} {deep : Int} {r : Str → Int}
theorem knotOf_some {u k : Str} (h : knotOf ks u = some k) : Stands ks u k := by
  unfold knotOf at h
  cases e : ks.find? fun k => decide (u ∈ k.2) with
  | none => rw [e] at h; cases h
  | some p =>
    rw [e] at h
    cases h
    exact ⟨p.2, List.mem_of_find?_eq_some e, by simpa using List.find?_some e⟩
theorem knotOf_none {u : Str} (h : knotOf ks u = none) (k : Str) : ¬ Stands ks u k := by
  rintro ⟨xs, h1, h2⟩
  unfold knotOf at h
  cases e : ks.find? fun k => decide (u ∈ k.2) with
  | none => exact absurd (decide_eq_true h2) (List.find?_eq_none.mp e _ h1)
  | some p => rw [e] at h; cases h
theorem Tree.knotOf (T : Tree ks us deep r) {u k : Str} : L3.knotOf ks u = some k ↔ Stands ks u k := by
  refine ⟨knotOf_some, fun h => ?_⟩
  cases e : L3.knotOf ks u with
  | none => exact absurd h (knotOf_none e k)
  | some k2 => rw [T.one u k k2 h (knotOf_some e)]
theorem Up.eqF (T : Tree ks us deep r) {u : Str} {p : List Str} (h : Up ks u p) : ∀ n, p.length ≤ n + 1 → pathF ks n u = p := by
  induction h with
  | top => intro n _; cases n <;> simp [pathF]
  | @step u k p h1 h2 h3 ih =>
    intro n hn
    obtain ⟨s, es⟩ := h3.ne
    rw [List.length_append] at hn
    have : 1 ≤ p.length := by rw [es]; simp
    simp only [List.length_cons, List.length_nil] at hn
    cases n with
    | zero => omega
    | succ n =>
      unfold pathF
      rw [if_neg h1, (T.knotOf).mpr h2]
      show pathF ks n k ++ [u] = _
      rw [ih n (by omega)]
theorem TreeB.up (h : TreeB ks us) {u : Str} (hu : u ∈ us) : Up ks u (pathOf ks u) ∧ (pathOf ks u).length ≤ 102 := by
  obtain ⟨deep, r, T, hd, hl⟩ := h
  obtain ⟨p, hp, hl⟩ := T.path hu
  have e : pathOf ks u = p := hp.eqF T 102 (by omega)
  rw [e]
  exact ⟨hp, by omega⟩
theorem TreeB.upK (h : TreeB ks us) {k : Str} (hk : k ∈ ks.map (·.1)) : Up ks k (pathOf ks k) ∧ (pathOf ks k).length ≤ 102 := by
  obtain ⟨deep, r, T, hd, hl⟩ := h
  obtain ⟨p, hp, hl⟩ := T.up k hk
  obtain ⟨x, hx, ex⟩ := List.mem_map.mp hk
  have := T.rng x hx
  rw [ex] at this
  have e : pathOf ks k = p := hp.eqF T 102 (by omega)
  rw [e]
  exact ⟨hp, by omega⟩
theorem TreeB.eq (h : TreeB ks us) {u : Str} {p : List Str} (hp : Up ks u p) (hu : u ∈ us ∨ u ∈ ks.map (·.1)) : p = pathOf ks u := by
  obtain ⟨deep, r, T, hd, hl⟩ := h
  rcases hu with hu | hu
  · exact hp.uniq T (TreeB.up ⟨deep, r, T, hd, hl⟩ hu).1
  · exact hp.uniq T (TreeB.upK ⟨deep, r, T, hd, hl⟩ hu).1
theorem Up.next {u : Str} {p : List Str} (h : Up ks u p) : ∀ {i : Nat} {k x : Str}, p[i]? = some k → p[i + 1]? = some x → Stands ks x k := by
  induction h with
  | top => intro i k x _ h2; simp at h2
  | @step u k p h1 h2 h3 ih =>
    intro i k' x a b
    by_cases e : i + 1 < p.length
    · rw [List.getElem?_append_left e] at b
      rw [List.getElem?_append_left (by omega)] at a
      exact ih a b
    · rw [List.getElem?_append_right (by omega)] at b
      have e2 : i + 1 - p.length = 0 := by
        have := (List.getElem?_eq_some_iff.mp b).1
        simp at this
        omega
      rw [e2] at b
      cases b
      have hl := h3.last
      rw [List.getLast?_eq_getElem?] at hl
      obtain ⟨s, es⟩ := h3.ne
      have : 1 ≤ p.length := by rw [es]; simp
      rw [List.getElem?_append_left (by omega), show i = p.length - 1 by omega, hl] at a
      cases a
      exact h2
theorem common_comm : ∀ xs ys : List Str, common xs ys = common ys xs
  | [], [] => rfl
  | [], _ :: _ => rfl
  | _ :: _, [] => rfl
  | x :: xs, y :: ys => by
    simp only [common]
    by_cases e : x = y
    · rw [if_pos e, if_pos e.symm, common_comm xs ys]
    · rw [if_neg e, if_neg fun q => e q.symm]
theorem partF_swap (a b : Str) : partF ks b a = (partF ks a b).map fun t => (t.1, t.2.2, t.2.1) := by
  unfold partF partP
  rw [common_comm (pathOf ks b), Nat.min_comm (pathOf ks b).length]
  by_cases e : common (pathOf ks a) (pathOf ks b) = min (pathOf ks a).length (pathOf ks b).length
  · rw [if_pos e, if_pos e]; rfl
  · rw [if_neg e, if_neg e]
    have hl := common_le (pathOf ks a) (pathOf ks b)
    have : (pathOf ks b).getD (common (pathOf ks a) (pathOf ks b) - 1) nil0 = (pathOf ks a).getD (common (pathOf ks a) (pathOf ks b) - 1) nil0 ∨ common (pathOf ks a) (pathOf ks b) = 0 := by
      by_cases e0 : common (pathOf ks a) (pathOf ks b) = 0
      · exact .inr e0
      · refine .inl ?_
        rw [List.getD_eq_getElem?_getD, List.getD_eq_getElem?_getD, common_at (xs := pathOf ks a) (ys := pathOf ks b) (i := common (pathOf ks a) (pathOf ks b) - 1) (by omega)]
    rcases this with h | h
    · rw [h]; rfl
    · rw [h]
      show some ((pathOf ks b).getD 0 nil0, _, _) = some ((pathOf ks a).getD 0 nil0, _, _)
      have hd : ∀ u, (pathOf ks u).getD 0 nil0 = nil0 := fun u => by
        unfold pathOf
        have : ∀ n u, (pathF ks n u).getD 0 nil0 = nil0 ∧ 1 ≤ (pathF ks n u).length := by
          intro n
          induction n with
          | zero => intro u; exact ⟨rfl, Nat.le_refl _⟩
          | succ n ih =>
            intro u
            unfold pathF
            split
            · exact ⟨rfl, Nat.le_refl _⟩
            · split
              · exact ⟨rfl, by simp⟩
              · rename_i k _
                obtain ⟨h1, h2⟩ := ih k
                refine ⟨?_, by rw [List.length_append]; simp⟩
                rw [List.getD_eq_getElem?_getD, List.getElem?_append_left (by omega), ← List.getD_eq_getElem?_getD]
                exact h1
        exact (this 102 u).1
      rw [hd, hd]
/-- where two units part: the two children stand in the knot, and are unlike -/
theorem TreeB.part (h : TreeB ks us) {a b k x y : Str} (ha : a ∈ us) (hb : b ∈ us) (hp : partF ks a b = some (k, x, y)) : Stands ks x k ∧ Stands ks y k ∧ x ≠ y := by
  obtain ⟨ua, la⟩ := h.up ha
  obtain ⟨ub, lb⟩ := h.up hb
  unfold partF partP at hp
  have hl := common_le (pathOf ks a) (pathOf ks b)
  split at hp
  · cases hp
  · rename_i hne
    obtain ⟨p2, ep⟩ := ua.ne
    obtain ⟨q2, eq⟩ := ub.ne
    have h1 : 1 ≤ common (pathOf ks a) (pathOf ks b) := by rw [ep, eq]; simp [common]
    have hend := common_end (xs := pathOf ks a) (ys := pathOf ks b) (by omega)
    have hat := common_at (xs := pathOf ks a) (ys := pathOf ks b) (i := common (pathOf ks a) (pathOf ks b) - 1) (by omega)
    cases hp
    generalize hc : common (pathOf ks a) (pathOf ks b) = c at *
    have ga : ∀ {xs : List Str} {i : Nat}, i < xs.length → xs[i]? = some (xs.getD i nil0) := fun {xs i} hi => by
      rw [List.getD_eq_getElem?_getD, List.getElem?_eq_getElem hi]; rfl
    have ea := ga (xs := pathOf ks a) (i := c) (by omega)
    have eb := ga (xs := pathOf ks b) (i := c) (by omega)
    have ek := ga (xs := pathOf ks a) (i := c - 1) (by omega)
    refine ⟨ua.next ek (by rw [show c - 1 + 1 = c by omega]; exact ea), ub.next (hat ▸ ek) (by rw [show c - 1 + 1 = c by omega]; exact eb), fun e => hend ?_⟩
    rw [ea, eb, e]
theorem find_names {k : Str} {xs : List Str} : ∀ {ks : Knots}, (ks.map (·.1)).Nodup → (k, xs) ∈ ks → ks.find? (fun p => decide (p.1 = k)) = some (k, xs)
  | [], _, h => by cases h
  | p :: ks, hn, h => by
    rw [List.map_cons, List.nodup_cons] at hn
    rw [List.find?_cons]
    rcases List.mem_cons.mp h with rfl | h
    · simp
    · have : p.1 ≠ k := fun e => hn.1 (e ▸ List.mem_map_of_mem (f := (·.1)) h)
      rw [decide_eq_false this]
      exact find_names hn.2 h
theorem kids_of (hn : (ks.map (·.1)).Nodup) {k : Str} {xs : List Str} (h : (k, xs) ∈ ks) : kids ks k = xs := by
  unfold kids
  rw [find_names hn h]
  rfl
theorem mem_kids (hn : (ks.map (·.1)).Nodup) {k x : Str} : x ∈ kids ks k ↔ Stands ks x k := by
  constructor
  · intro h
    unfold kids at h
    cases e : ks.find? fun p => decide (p.1 = k) with
    | none => rw [e] at h; cases h
    | some p =>
      rw [e] at h
      have this : p.1 = k := by simpa using List.find?_some e
      subst this
      exact ⟨p.2, List.mem_of_find?_eq_some e, h⟩
  · rintro ⟨xs, h1, h2⟩
    rw [kids_of hn h1]
    exact h2
theorem TreeB.names (h : TreeB ks us) : (ks.map (·.1)).Nodup := by obtain ⟨_, _, T, _⟩ := h; exact T.names
theorem TreeB.kid (h : TreeB ks us) {k x : Str} (hx : x ∈ kids ks k) : x ∈ us := by
  obtain ⟨_, _, T, _⟩ := h
  exact (T.all x).mpr ⟨k, (mem_kids T.names).mp hx⟩
theorem TreeB.kidsNd (h : TreeB ks us) (k : Str) : (kids ks k).Nodup := by
  obtain ⟨_, _, T, _⟩ := h
  unfold kids
  cases e : ks.find? fun p => decide (p.1 = k) with
  | none => exact List.nodup_nil
  | some p => exact T.nd p (List.mem_of_find?_eq_some e)
theorem TreeB.kidsLen (h : TreeB ks us) (k : Str) : (kids ks k).length ≤ 60 := by
  have h1 := nodup_le (h.kidsNd k) fun x hx => h.kid hx
  obtain ⟨_, _, T, _, hl⟩ := h
  omega
theorem TreeB.len (h : TreeB ks us) : ks.length ≤ 61 := by
  obtain ⟨_, _, T, _, hl⟩ := h
  have := T.len
  omega
end
/-! each once, where it comes first -/
section
variable {α : Type} [DecidableEq α]
def addOnce (acc : List α) (x : α) : List α := if x ∈ acc then acc else acc ++ [x]
def onceL (xs : List α) : List α := xs.foldl addOnce []
theorem onceL_snoc (xs : List α) (x : α) : onceL (xs ++ [x]) = addOnce (onceL xs) x := by
  unfold onceL; rw [List.foldl_append]; rfl
theorem addOnce_mem {acc : List α} {x y : α} : y ∈ addOnce acc x ↔ y ∈ acc ∨ y = x := by
  unfold addOnce
  split
  · rename_i h
    exact ⟨.inl, fun q => q.elim id fun e => e ▸ h⟩
  · simp
theorem addOnce_nodup {acc : List α} {x : α} (h : acc.Nodup) : (addOnce acc x).Nodup := by
  unfold addOnce
  split
  · exact h
  · rename_i hx
    rw [List.nodup_append]
    exact ⟨h, by simp, fun a ha b hb => by cases List.mem_singleton.mp hb; exact fun e => hx (e ▸ ha)⟩
theorem addOnce_len (acc : List α) (x : α) : (addOnce acc x).length ≤ acc.length + 1 := by
  unfold addOnce; split <;> simp
theorem fold_once : ∀ (xs acc : List α), acc.Nodup → (xs.foldl addOnce acc).Nodup ∧ (∀ y, y ∈ xs.foldl addOnce acc ↔ y ∈ acc ∨ y ∈ xs) ∧ (xs.foldl addOnce acc).length ≤ acc.length + xs.length
  | [], acc, h => ⟨h, fun y => by simp, by simp⟩
  | x :: xs, acc, h => by
    obtain ⟨a, b, c⟩ := fold_once xs (addOnce acc x) (addOnce_nodup h)
    rw [List.foldl_cons]
    refine ⟨a, fun y => ?_, ?_⟩
    · rw [b y, addOnce_mem, List.mem_cons]
      simp only [or_assoc]
    · have := addOnce_len acc x
      rw [List.length_cons]
      omega
theorem mem_onceL {xs : List α} {y : α} : y ∈ onceL xs ↔ y ∈ xs := by
  have := (fold_once xs [] List.nodup_nil).2.1 y
  unfold onceL
  simpa using this
theorem onceL_len (xs : List α) : (onceL xs).length ≤ xs.length := by
  have := (fold_once xs [] List.nodup_nil).2.2
  unfold onceL
  simpa using this
end
/-! edges of a knot's view -/
abbrev Ties := List (Str × Str)
def tieE1 (ks : Knots) (k : Str) (e : Str × Str) : Option (Str × Str) := match partF ks e.1 e.2 with
  | some (kk, x, y) => if kk = k then some (x, y) else none
  | none => none
def tieE (ks : Knots) (k : Str) (ts : Ties) : Ties := ts.filterMap (tieE1 ks k)
/-- what a want of a child brings -/
def wantRow (w u : Str) (some_ : List Str) : Ties := (some_.filter fun o => decide (o ≠ u)).map fun o => if w = ("last" : Str) then (o, u) else (u, o)
def wantUs (ks : Knots) (k w : Str) (ws : Ties) : List Str := (ws.filter fun q => decide (q.1 = w) && decide (q.2 ∈ kids ks k)).map (·.2)
def wantE (ks : Knots) (k w : Str) (ws : Ties) : Ties := (wantUs ks k w ws).flatMap fun u => wantRow w u (kids ks k)
def edges0 (ks : Knots) (ts ws : Ties) (k : Str) : Ties := tieE ks k ts ++ wantE ks k "first" ws ++ wantE ks k "last" ws
def edgesF (ks : Knots) (ts ws : Ties) (k : Str) : Ties := onceL (edges0 ks ts ws k)
def Parted (ks : Knots) (us : List Str) (ts : Ties) : Prop := ∀ e ∈ ts, e.1 ∈ us ∧ e.2 ∈ us ∧ ∃ k x y, partF ks e.1 e.2 = some (k, x, y)
theorem take_snoc {α : Type} {xs : List α} {i : Nat} {x : α} (h : xs[i]? = some x) : xs.take (i + 1) = xs.take i ++ [x] := take_next h
theorem flatMap_len {α β : Type} {f : α → List β} {n : Nat} : ∀ {xs : List α}, (∀ x ∈ xs, (f x).length ≤ n) → (xs.flatMap f).length ≤ n * xs.length
  | [], _ => by simp
  | x :: xs, h => by
    have ih := flatMap_len (f := f) (n := n) (xs := xs) fun y hy => h y (List.mem_cons_of_mem _ hy)
    have := h x List.mem_cons_self
    rw [List.flatMap_cons, List.length_append, List.length_cons, Nat.mul_add]
    omega
theorem wantRow_len (w u : Str) (xs : List Str) : (wantRow w u xs).length ≤ xs.length := by
  unfold wantRow; rw [List.length_map]; exact List.length_filter_le ..
theorem wantUs_len (ks : Knots) (k w : Str) (ws : Ties) : (wantUs ks k w ws).length ≤ ws.length := by
  unfold wantUs; rw [List.length_map]; exact List.length_filter_le ..
section
variable {ks : Knots} {us : List Str}
theorem edges0_len (h : TreeB ks us) (ts ws : Ties) (k : Str) : (edges0 ks ts ws k).length ≤ ts.length + 120 * ws.length := by
  unfold edges0
  rw [List.length_append, List.length_append]
  have h1 : (tieE ks k ts).length ≤ ts.length := List.length_filterMap_le ..
  have h2 : ∀ w, (wantE ks k w ws).length ≤ 60 * ws.length := fun w => by
    have := flatMap_len (f := fun u => wantRow w u (kids ks k)) (n := 60) (xs := wantUs ks k w ws) fun u _ => Nat.le_trans (wantRow_len ..) (h.kidsLen k)
    have := wantUs_len ks k w ws
    unfold wantE
    omega
  have := h2 "first"
  have := h2 "last"
  omega
theorem tieE_kids (h : TreeB ks us) {ts : Ties} (hp : Parted ks us ts) {k : Str} : ∀ e ∈ tieE ks k ts, e.1 ∈ kids ks k ∧ e.2 ∈ kids ks k ∧ e.1 ≠ e.2 := by
  intro e he
  obtain ⟨t, ht, e1⟩ := List.mem_filterMap.mp he
  obtain ⟨h1, h2, kk, x, y, hq⟩ := hp t ht
  unfold tieE1 at e1
  rw [hq] at e1
  simp only at e1
  split at e1
  · rename_i ek
    cases e1
    subst ek
    obtain ⟨a, b, c⟩ := h.part h1 h2 hq
    exact ⟨(mem_kids h.names).mpr a, (mem_kids h.names).mpr b, c⟩
  · cases e1
theorem wantE_kids {k w : Str} {ws : Ties} : ∀ e ∈ wantE ks k w ws, e.1 ∈ kids ks k ∧ e.2 ∈ kids ks k ∧ e.1 ≠ e.2 := by
  intro e he
  obtain ⟨u, hu, he⟩ := List.mem_flatMap.mp he
  unfold wantUs at hu
  obtain ⟨q, hq, rfl⟩ := List.mem_map.mp hu
  have hq2 : q.2 ∈ kids ks k := by
    have := (List.mem_filter.mp hq).2
    simp at this
    exact this.2
  unfold wantRow at he
  obtain ⟨o, ho, rfl⟩ := List.mem_map.mp he
  obtain ⟨ho1, ho2⟩ := List.mem_filter.mp ho
  have ho2 : o ≠ q.2 := of_decide_eq_true ho2
  split
  · exact ⟨ho1, hq2, ho2⟩
  · exact ⟨hq2, ho1, fun e => ho2 e.symm⟩
theorem edges_kids (h : TreeB ks us) {ts ws : Ties} (hp : Parted ks us ts) {k : Str} : ∀ e ∈ edgesF ks ts ws k, e.1 ∈ kids ks k ∧ e.2 ∈ kids ks k ∧ e.1 ≠ e.2 := by
  intro e he
  have := mem_onceL.mp he
  unfold edges0 at this
  rcases List.mem_append.mp this with h1 | h1
  · rcases List.mem_append.mp h1 with h1 | h1
    · exact tieE_kids h hp e h1
    · exact wantE_kids e h1
  · exact wantE_kids e h1
end
/-! what is come to over edges -/
inductive GoesS (es : Ties) : Str → Str → Prop
  | refl (a : Str) : GoesS es a a
  | tail {a b c : Str} : GoesS es a b → (b, c) ∈ es → GoesS es a c
structure Reached (es : Ties) (one : Str) (xs : List Str) : Prop where
  nd : xs.Nodup
  hd : xs.head? = some one
  all : ∀ y, y ∈ xs ↔ GoesS es one y
/-- midway: all edges of the first n, and the first j edges -/
structure Reaching (es : Ties) (one : Str) (n j : Nat) (xs : List Str) : Prop where
  nd : xs.Nodup
  hd : xs.head? = some one
  go : ∀ y ∈ xs, GoesS es one y
  old : ∀ (i : Nat) x, i < n → xs[i]? = some x → ∀ e ∈ es, e.1 = x → e.2 ∈ xs
  now : ∀ x, xs[n]? = some x → ∀ e ∈ es.take j, e.1 = x → e.2 ∈ xs
section
variable {es : Ties} {one : Str} {n j : Nat} {xs : List Str}
theorem Reaching.start (es : Ties) (one : Str) : Reaching es one 0 0 [one] where
  nd := by simp
  hd := rfl
  go := fun y hy => by cases List.mem_singleton.mp hy; exact .refl _
  old := fun i x hi => by omega
  now := fun x _ e he => by simp at he
theorem Reaching.len (h : Reaching es one n j xs) : xs.length ≤ es.length + 1 := by
  have := nodup_le (ys := one :: es.map (·.2)) h.nd fun y hy => by
    cases h.go y hy with
    | refl => exact List.mem_cons_self
    | tail _ h2 => exact List.mem_cons_of_mem _ (List.mem_map.mpr ⟨_, h2, rfl⟩)
  simpa using this
theorem Reaching.same (h : Reaching es one n j xs) {e : Str × Str} (he : es[j]? = some e) (hx : ∀ x, xs[n]? = some x → e.1 = x → e.2 ∈ xs) : Reaching es one n (j + 1) xs where
  nd := h.nd
  hd := h.hd
  go := h.go
  old := h.old
  now := fun x hn e' he' e1 => by
    rw [take_snoc he] at he'
    rcases List.mem_append.mp he' with q | q
    · exact h.now x hn e' q e1
    · cases List.mem_singleton.mp q; exact hx x hn e1
theorem Reaching.add (h : Reaching es one n j xs) {e : Str × Str} (he : es[j]? = some e) {x : Str} (hn : xs[n]? = some x) (hx : e.1 = x) (hm : ¬ e.2 ∈ xs) : Reaching es one n (j + 1) (xs ++ [e.2]) where
  nd := by
    rw [List.nodup_append]
    exact ⟨h.nd, by simp, fun a ha b hb => by cases List.mem_singleton.mp hb; exact fun q => hm (q ▸ ha)⟩
  hd := by
    have := h.hd
    cases xs with
    | nil => cases this
    | cons a b => exact this
  go := fun y hy => by
    rcases List.mem_append.mp hy with q | q
    · exact h.go y q
    · cases List.mem_singleton.mp q
      refine .tail (h.go x (List.mem_of_getElem? hn)) ?_
      subst hx
      exact List.mem_of_getElem? he
  old := fun i y hi hy e' he' e1 => by
    have hl := (List.getElem?_eq_some_iff.mp hn).1
    rw [List.getElem?_append_left (by omega)] at hy
    exact List.mem_append_left _ (h.old i y hi hy e' he' e1)
  now := fun y hy e' he' e1 => by
    have hl := (List.getElem?_eq_some_iff.mp hn).1
    rw [List.getElem?_append_left hl] at hy
    rw [take_snoc he] at he'
    rcases List.mem_append.mp he' with q | q
    · exact List.mem_append_left _ (h.now y hy e' q e1)
    · cases List.mem_singleton.mp q; simp
theorem Reaching.next (h : Reaching es one n es.length xs) : Reaching es one (n + 1) 0 xs where
  nd := h.nd
  hd := h.hd
  go := h.go
  old := fun i x hi hx e he e1 => by
    by_cases q : i = n
    · subst q
      exact h.now x hx e (by rw [List.take_length]; exact he) e1
    · exact h.old i x (by omega) hx e he e1
  now := fun x _ e he => by simp at he
theorem Reaching.done (h : Reaching es one n j xs) (hl : xs.length ≤ n) : Reached es one xs where
  nd := h.nd
  hd := h.hd
  all := fun y => by
    refine ⟨h.go y, fun g => ?_⟩
    induction g with
    | refl =>
      have := h.hd
      cases xs with
      | nil => cases this
      | cons a b => cases this; exact List.mem_cons_self
    | tail _ h2 ih =>
      obtain ⟨i, hi⟩ := List.getElem?_of_mem ih
      exact h.old i _ (by have := (List.getElem?_eq_some_iff.mp hi).1; omega) hi _ h2 rfl
end
/-! wants, ties, waiting ones of a good house -/
def WantOk (ks : Knots) (q : Str × Str) : Prop := (q.1 = "first" ∧ ∃ k ∈ ks, k.2.head? = some q.2) ∨ (q.1 = "last" ∧ ∃ k ∈ ks, k.2.getLast? = some q.2 ∧ 1 < k.2.length)
structure WantsOk (ks : Knots) (ws : Ties) : Prop where
  ok : ∀ q ∈ ws, WantOk ks q
  nd : (ws.map (·.2)).Nodup
def Forward (ks : Knots) (e : Str × Str) : Prop := ∀ k x y, partF ks e.1 e.2 = some (k, x, y) → (kids ks k).idxOf x < (kids ks k).idxOf y
structure TiesOk (ks : Knots) (us : List Str) (ts : Ties) : Prop where
  pa : Parted ks us ts
  fw : ∀ e ∈ ts, Forward ks e
  nd : ts.Nodup
def Closing (ks : Knots) (ts ws : Ties) (e : Str × Str) : Prop := ∀ k x y, partF ks e.1 e.2 = some (k, x, y) → GoesS (edgesF ks ts ws k) y x
structure WaitsOk (ks : Knots) (us : List Str) (ts ws wt : Ties) : Prop where
  pa : Parted ks us wt
  cl : ∀ e ∈ wt, Closing ks ts ws e
  nd : wt.Nodup
/-- a good house as the laws build it -/
structure HouseOk (ks : Knots) (us : List Str) (ts wt ws : Ties) : Prop where
  tree : TreeB ks us
  ties : TiesOk ks us ts
  tl : ts.length ≤ 40
  wants : WantsOk ks ws
  waits : WaitsOk ks us ts ws wt
  wl : wt.length ≤ 5
def houseD (ks : Knots) (ts wt ws : Ties) : PyData := .tuple [plD (ksPy ks), .tuple (pPy ts), .tuple (pPy wt), .tuple (pPy ws)]
theorem WantOk.unit {ks : Knots} {us : List Str} (h : TreeB ks us) {q : Str × Str} (hq : WantOk ks q) : q.2 ∈ us := by
  obtain ⟨_, _, T, _⟩ := h
  rcases hq with ⟨_, k, hk, e⟩ | ⟨_, k, hk, e, _⟩
  · exact (T.all _).mpr ⟨k.1, k.2, hk, List.mem_of_mem_head? (by rw [e]; rfl)⟩
  · exact (T.all _).mpr ⟨k.1, k.2, hk, List.mem_of_getLast? e⟩
theorem WantsOk.len {ks : Knots} {us : List Str} (h : TreeB ks us) {ws : Ties} (hw : WantsOk ks ws) : ws.length ≤ 60 := by
  have := nodup_le hw.nd (ys := us) fun u hu => by
    obtain ⟨q, hq, rfl⟩ := List.mem_map.mp hu
    exact (hw.ok q hq).unit h
  obtain ⟨_, _, T, _, hl⟩ := h
  rw [List.length_map] at this
  omega
theorem pPy_insAt (xs : Ties) (n : Nat) (x : Str × Str) : (pPy xs).take n ++ [PyData.tuple [.str x.1, .str x.2]] ++ (pPy xs).drop n = pPy (insAt xs n x) := by
  unfold insAt pPy
  simp [List.map_take, List.map_drop]
/-! a dict of knots; constants of a module; repr of plain tuples -/
def ksPrs (ks : Knots) : List (Key × PyData) := ks.map fun k => ((Sum.inr k.1 : Key), plD (sPy k.2))
theorem ksPy_prs (ks : Knots) : ksPy ks = (ksPrs ks).map prK := by
  unfold ksPy ksPrs
  rw [List.map_map]
  rfl
theorem lookD_mem {κ : Type} [DecidableEq κ] {k : κ} {v : PyData} : ∀ {kvs : List (κ × PyData)}, (kvs.map (·.1)).Nodup → (k, v) ∈ kvs → lookD kvs k = some v
  | [], _, h => by cases h
  | p :: kvs, hn, h => by
    rw [List.map_cons, List.nodup_cons] at hn
    rw [lookD_cons]
    rcases List.mem_cons.mp h with rfl | h
    · rw [if_pos rfl]
    · rw [if_neg fun e : p.1 = k => hn.1 (e ▸ List.mem_map_of_mem (f := (·.1)) h)]
      exact lookD_mem hn.2 h
theorem ksPrs_nd {ks : Knots} (hn : (ks.map (·.1)).Nodup) : ((ksPrs ks).map (·.1)).Nodup := by
  have e : (ksPrs ks).map (·.1) = (ks.map (·.1)).map (Sum.inr : Str → Key) := by unfold ksPrs; rw [List.map_map, List.map_map]; rfl
  rw [e]
  exact List.pairwise_map.mpr (hn.imp fun h q => h (Sum.inr.inj q))
theorem ksPrs_eq {ks : Knots} (hn : (ks.map (·.1)).Nodup) : mergeD [] (ksPrs ks) = ksPrs ks := by
  have := mergeD_new (more := ksPrs ks) (kvs := []) (ksPrs_nd hn) (fun p _ q hq => by cases hq)
  simpa using this
theorem ksPrs_look {ks : Knots} (hn : (ks.map (·.1)).Nodup) {k : Str} (hk : k ∈ ks.map (·.1)) : lookD (mergeD [] (ksPrs ks)) (.inr k) = some (plD (sPy (kids ks k))) := by
  rw [ksPrs_eq hn]
  obtain ⟨p, hp, rfl⟩ := List.mem_map.mp hk
  refine lookD_mem (ksPrs_nd hn) ?_
  rw [kids_of hn (k := p.1) (xs := p.2) hp]
  exact List.mem_map_of_mem (f := fun k => ((Sum.inr k.1 : Key), plD (sPy k.2))) hp
section
variable {X : Cx} {x : Str} {pos : Pos}
theorem pe_gs {z : Str} (hg : Gl X x) (hm : ∃ t : Tok, X.mg x = some (.str z t)) (hd : (x == ("__debug__" : Str)) = false := by decide) : PE X (.Name x pos) (tC (.str z)) := by
  obtain ⟨t, h⟩ := hm
  exact pe_glob hg h ⟨t, rfl⟩ hd
theorem pe_gi {z : Int} (hg : Gl X x) (hm : ∃ t : Tok, X.mg x = some (.int z t)) (hd : (x == ("__debug__" : Str)) = false := by decide) : PE X (.Name x pos) (tC (.int z)) := by
  obtain ⟨t, h⟩ := hm
  exact pe_glob hg h ⟨t, rfl⟩ hd
end
section
variable {K : PySem.W.Frag} {m m' : List Addr} {B B' H H' : Hp} {l : List O} {ρ : List (Option D)} {R : D → List O → Prop} {E : E3} {te tk : TE}
/-- dict(knots)[k] -/
theorem e_dictKnots {ks : Knots} (hn : (ks.map (·.1)).Nodup) (h : EvS K te ρ l fun x l1 => x = .f (plD (ksPy ks)) ∧ EvS K tk ρ (l1 ++ [.dct (mergeD [] (ksPrs ks))]) fun y l2 => ∃ k, y = .f (.str k) ∧ k ∈ ks.map (·.1) ∧ l2[l1.length]? = some (.dct (mergeD [] (ksPrs ks))) ∧ R (.f (plD (sPy (kids ks k)))) l2) : EvS K (tOp (rIxU K) (tCB (rDictQ K) (tCons te tNil)) tk) ρ l R := by
  refine e_op (e_cb (a_cons (h.imp fun x l1 ⟨hx, h2⟩ => ?_)))
  subst hx
  rw [ksPy_prs]
  refine a_nil (c_dictP (h2.imp fun y l2 ⟨k, hy, hk, hl, r⟩ => ?_))
  subst hy
  exact o_ixDk (n := l1.length) (k := .inr k) hl (ksPrs_look hn hk) r
mutual
theorem FR.dpU : ∀ (d : PyData) (v : V), (unpl d).hasDict = false → FR K B v d → Dp K B v (unpl d)
  | .none, _, _, h => by cases h; exact .non
  | .bool _, _, _, h => by cases h; exact .bl _
  | .int _, _, _, h => by cases h; exact .int _
  | .str _, _, _, h => by cases h; exact .str _
  | .list ds, _, n, h => by
    cases h with
    | lst h1 h2 => unfold unpl at n ⊢; exact .lst (SqL.of h1) (FRs.dpU ds _ (by simpa [PyData.hasDict] using n) h2)
  | .tuple ds, _, n, h => by
    cases h with
    | tup h1 h2 => unfold unpl at n ⊢; exact .tup h1.sq (FRs.dpU ds _ (by simpa [PyData.hasDict] using n) h2)
  | .dict [(.none, .tuple ds)], _, n, h => by
    cases h with
    | plt h1 h2 => unfold unpl at n ⊢; exact .tup h1.sq (FRs.dpU ds _ (by simpa [PyData.hasDict] using n) h2)
  | .dict [], _, n, h => by simp [unpl, PyData.hasDict] at n
  | .dict (_ :: _ :: _), _, _, h => by cases h
  | .dict [(.none, .none)], _, _, h => by cases h
  | .dict [(.none, .bool _)], _, _, h => by cases h
  | .dict [(.none, .int _)], _, _, h => by cases h
  | .dict [(.none, .str _)], _, _, h => by cases h
  | .dict [(.none, .list _)], _, _, h => by cases h
  | .dict [(.none, .dict _)], _, _, h => by cases h
  | .dict [(.bool _, _)], _, n, h => by simp [unpl, PyData.hasDict] at n
  | .dict [(.int _, _)], _, n, h => by simp [unpl, PyData.hasDict] at n
  | .dict [(.str _, _)], _, n, h => by simp [unpl, PyData.hasDict] at n
  | .dict [(.list _, _)], _, _, h => by cases h
  | .dict [(.tuple _, _)], _, n, h => by simp [unpl, PyData.hasDict] at n
  | .dict [(.dict _, _)], _, _, h => by cases h
theorem FRs.dpU : ∀ (ds : List PyData) (vs : List V), PyData.hasDictAll (unplAll ds) = false → FRs K B vs ds → DpAll K B vs (unplAll ds)
  | [], _, _, h => by cases h; unfold unplAll; exact .nil
  | d :: ds, _, n, h => by
    unfold unplAll at n ⊢
    have n' : (unpl d).hasDict = false ∧ PyData.hasDictAll (unplAll ds) = false := by simpa [PyData.hasDictAll] using n
    cases h with
    | cons h1 h2 => exact .cons (FR.dpU d _ n'.1 h1) (FRs.dpU ds _ n'.2 h2)
end
/-- repr of data in which plain tuples stand -/
theorem c_reprU {d : PyData} (hb : brief (unpl d) = true) (hw : wt (unpl d) ≤ 1000000) (hdp : (unpl d).depth ≤ 60) (z : R (.f (.str (unpl d).shown)) l) : CaS K (rRepr K) [.f d] l R := fun m B H vs S r Q q => by
  cases r with
  | cons r1 r2 =>
    cases r2
    exact ⟨_, _, rfl, FR.dpU d _ (brief_shows _ hb).2 (FR.same S.sub d _ r1), hb, hw, hdp, retF S q (FR.str _) z⟩
end
theorem unpl_sPy : ∀ xs : List Str, unplAll (sPy xs) = sPy xs
  | [] => by simp [sPy, unplAll]
  | x :: xs => by
    show unplAll (PyData.str x :: sPy xs) = _
    unfold unplAll
    rw [unpl_sPy xs]
    simp [unpl, sPy]
theorem unpl_pPy : ∀ xs : Ties, unplAll (pPy xs) = pPy xs
  | [] => by simp [pPy, unplAll]
  | x :: xs => by
    show unplAll (PyData.tuple [.str x.1, .str x.2] :: pPy xs) = _
    unfold unplAll
    rw [unpl_pPy xs]
    simp [unpl, unplAll, pPy]
def ksPl (ks : Knots) : List PyData := ks.map fun k => .tuple [.str k.1, .tuple (sPy k.2)]
theorem unpl_plD (ds : List PyData) : unpl (plD ds) = .tuple (unplAll ds) := by unfold plD unpl; rfl
theorem unpl_ksPy : ∀ ks : Knots, unplAll (ksPy ks) = ksPl ks
  | [] => by simp [ksPy, ksPl, unplAll]
  | k :: ks => by
    show unplAll (PyData.tuple [.str k.1, plD (sPy k.2)] :: ksPy ks) = PyData.tuple [.str k.1, .tuple (sPy k.2)] :: ksPl ks
    unfold unplAll
    rw [unpl_ksPy ks]
    simp only [unpl, unplAll]
    rw [show unpl (plD (sPy k.2)) = .tuple (sPy k.2) by rw [unpl_plD, unpl_sPy]]
theorem unpl_house (ks : Knots) (ts wt ws : Ties) : unpl (houseD ks ts wt ws) = .tuple [.tuple (ksPl ks), .tuple (pPy ts), .tuple (pPy wt), .tuple (pPy ws)] := by
  simp only [houseD, unpl, unplAll]
  rw [show unpl (plD (ksPy ks)) = .tuple (ksPl ks) by rw [unpl_plD, unpl_ksPy], unpl_pPy, unpl_pPy, unpl_pPy]
theorem brief_ksPl : ∀ {ks : Knots}, (∀ k ∈ ks, PyData.strOk k.1 = true ∧ ∀ x ∈ k.2, PyData.strOk x = true) → briefAll (ksPl ks) = true
  | [], _ => by simp [ksPl, briefAll]
  | k :: ks, h => by
    have ih := brief_ksPl (ks := ks) fun y hy => h y (List.mem_cons_of_mem _ hy)
    have h0 := h k List.mem_cons_self
    have := brief_sPy h0.2
    show briefAll (PyData.tuple [.str k.1, .tuple (sPy k.2)] :: ksPl ks) = true
    simp [briefAll, brief, ih, h0.1, this]
def unitsL (ks : Knots) : List Str := ks.flatMap (·.2)
theorem wt_ksPl : ∀ {ks : Knots}, (∀ k ∈ ks, k.1.length ≤ 30 ∧ ∀ x ∈ k.2, x.length ≤ 30) → wtAll (ksPl ks) ≤ 314 * ks.length + 304 * (unitsL ks).length
  | [], _ => by simp [ksPl, wtAll]
  | k :: ks, h => by
    have ih := wt_ksPl (ks := ks) fun y hy => h y (List.mem_cons_of_mem _ hy)
    obtain ⟨a, c⟩ := h k List.mem_cons_self
    have := wt_sPy c
    have e : unitsL (k :: ks) = k.2 ++ unitsL ks := rfl
    show wtAll (PyData.tuple [.str k.1, .tuple (sPy k.2)] :: ksPl ks) ≤ _
    rw [e, List.length_append, Nat.mul_add]
    simp only [wtAll, wt, List.length_cons]
    omega
theorem dep_ksPl : ∀ ks : Knots, PyData.depthAll (ksPl ks) ≤ 2
  | [] => by simp [ksPl, PyData.depthAll]
  | k :: ks => by
    have ih := dep_ksPl ks
    have := dep_sPy k.2
    show PyData.depthAll (PyData.tuple [.str k.1, .tuple (sPy k.2)] :: ksPl ks) ≤ 2
    simp only [PyData.depthAll, PyData.depth]
    omega
theorem atI_m1 {α : Type} {xs : List α} {x : α} (h : xs.getLast? = some x) : atI xs (-1) = some x := by
  rw [List.getLast?_eq_getElem?] at h
  have hl := (List.getElem?_eq_some_iff.mp h).1
  unfold atI ixN
  rw [if_neg (by decide), if_pos (by omega), Option.bind_some, show ((-1 : Int) + xs.length).toNat = xs.length - 1 by omega]
  exact h
theorem sPy_last {xs : List Str} {x : Str} (h : xs.getLast? = some x) : (sPy xs).getLast? = some (.str x) := by
  rw [List.getLast?_eq_getElem?] at h ⊢
  rw [sPy_len]
  exact sPy_get_of h
theorem atI_zero {α : Type} (x : α) (r : List α) : atI (x :: r) 0 = some x := by
  unfold atI ixN
  rw [if_pos (by decide), if_pos (by simp only [List.length_cons]; omega)]
  rfl
theorem ok_nil0 : PyData.strOk nil0 = true := by decide +kernel
theorem ok_first : PyData.strOk ("first" : Str) = true := by decide +kernel
theorem ok_last : PyData.strOk ("last" : Str) = true := by decide +kernel
theorem mem_unitsL {ks : Knots} {u : Str} : u ∈ unitsL ks ↔ ∃ k, Stands ks u k := by
  unfold unitsL
  rw [List.mem_flatMap]
  exact ⟨fun ⟨k, h1, h2⟩ => ⟨k.1, k.2, h1, h2⟩, fun ⟨k, xs, h1, h2⟩ => ⟨_, h1, h2⟩⟩
theorem Tree.unitsNd {ks : Knots} {us : List Str} {deep : Int} {r : Str → Int} (T : Tree ks us deep r) : (unitsL ks).Nodup := by
  unfold unitsL List.Nodup
  rw [List.pairwise_flatMap]
  refine ⟨fun k hk => T.nd k hk, ?_⟩
  have hn : ks.Pairwise fun a b => a.1 ≠ b.1 := List.pairwise_map.mp T.names
  refine hn.imp_of_mem fun {a b} ha hb hab x hx y hy e => hab ?_
  subst e
  exact T.one x _ _ ⟨_, ha, hx⟩ ⟨_, hb, hy⟩
theorem TreeB.unitsNd {ks : Knots} {us : List Str} (h : TreeB ks us) : (unitsL ks).Nodup := by obtain ⟨_, _, T, _⟩ := h; exact T.unitsNd
theorem TreeB.units {ks : Knots} {us : List Str} (h : TreeB ks us) (u : Str) : u ∈ unitsL ks ↔ u ∈ us := by
  obtain ⟨_, _, T, _⟩ := h
  rw [mem_unitsL, T.all]
theorem TreeB.unitsLen {ks : Knots} {us : List Str} (h : TreeB ks us) : (unitsL ks).length ≤ 60 := by
  have := nodup_le h.unitsNd fun u hu => (h.units u).mp hu
  obtain ⟨_, _, _, _, hl⟩ := h
  omega
theorem Tree.nameOk {ks : Knots} {us : List Str} {deep : Int} {r : Str → Int} (T : Tree ks us deep r) {P : Str → Prop} (h0 : P nil0) (h : ∀ u ∈ us, P u) : ∀ k ∈ ks, P k.1 ∧ ∀ x ∈ k.2, P x := fun k hk => by
  refine ⟨?_, fun x hx => h x ((T.all x).mpr ⟨k.1, k.2, hk, hx⟩)⟩
  rcases T.knot_in (List.mem_map_of_mem (f := (·.1)) hk) with e | e
  · rw [e]; exact h0
  · exact h _ e
theorem house_shows9 {ks : Knots} {us : List Str} {ts wt ws : Ties} (hB : TreeB ks us) (h1 : Parted ks us ts) (l1 : ts.length ≤ 400) (h2 : Parted ks us wt) (l2 : wt.length ≤ 400) (h3 : ∀ q ∈ ws, (q.1 = "first" ∨ q.1 = "last") ∧ q.2 ∈ us) (l3 : ws.length ≤ 120)
    (hs : ∀ u ∈ us, PyData.strOk u = true ∧ u.length ≤ 30) : brief (unpl (houseD ks ts wt ws)) = true ∧ L3.wt (unpl (houseD ks ts wt ws)) ≤ 900000 ∧ (unpl (houseD ks ts wt ws)).depth ≤ 60 := by
  rw [unpl_house]
  have hul := hB.unitsLen
  have hkl := hB.len
  obtain ⟨_, _, T, _⟩ := hB
  have hk := T.nameOk (P := fun u => PyData.strOk u = true ∧ u.length ≤ 30) ⟨ok_nil0, by decide⟩ hs
  have b1 := brief_ksPl (ks := ks) fun k h => ⟨(hk k h).1.1, fun x hx => ((hk k h).2 x hx).1⟩
  have b2 := brief_pPy (es := ts) fun e h => ⟨(hs _ (h1 e h).1).1, (hs _ (h1 e h).2.1).1⟩
  have b3 := brief_pPy (es := wt) fun e h => ⟨(hs _ (h2 e h).1).1, (hs _ (h2 e h).2.1).1⟩
  have hw : ∀ q ∈ ws, PyData.strOk q.1 = true ∧ q.1.length ≤ 30 := fun q h => by
    rcases (h3 q h).1 with e | e <;> rw [e]
    · exact ⟨ok_first, by decide⟩
    · exact ⟨ok_last, by decide⟩
  have b4 := brief_pPy (es := ws) fun e h => ⟨(hw e h).1, (hs _ (h3 e h).2).1⟩
  have w1 := wt_ksPl (ks := ks) fun k h => ⟨(hk k h).1.2, fun x hx => ((hk k h).2 x hx).2⟩
  have w2 := wt_pPy (es := ts) (k := 30) fun e h => ⟨(hs _ (h1 e h).1).2, (hs _ (h1 e h).2.1).2⟩
  have w3 := wt_pPy (es := wt) (k := 30) fun e h => ⟨(hs _ (h2 e h).1).2, (hs _ (h2 e h).2.1).2⟩
  have w4 := wt_pPy (es := ws) (k := 30) fun e h => ⟨(hw e h).2, (hs _ (h3 e h).2).2⟩
  have d1 := dep_ksPl ks
  have d2 := dep_pPy ts
  have d3 := dep_pPy wt
  have d4 := dep_pPy ws
  refine ⟨by simp [brief, briefAll, b1, b2, b3, b4], ?_, ?_⟩
  · simp only [L3.wt, wtAll]
    omega
  · simp only [PyData.depth, PyData.depthAll]
    omega
theorem HouseOk.shows9 {ks : Knots} {us : List Str} {ts wt ws : Ties} (h : HouseOk ks us ts wt ws) (hs : ∀ u ∈ us, PyData.strOk u = true ∧ u.length ≤ 30) : brief (unpl (houseD ks ts wt ws)) = true ∧ L3.wt (unpl (houseD ks ts wt ws)) ≤ 900000 ∧ (unpl (houseD ks ts wt ws)).depth ≤ 60 := by
  have l1 := h.tl
  have l2 := h.wl
  have l3 := h.wants.len h.tree
  refine house_shows9 h.tree h.ties.pa (by omega) h.waits.pa (by omega) (fun q hq => ⟨?_, (h.wants.ok q hq).unit h.tree⟩) (by omega) hs
  rcases h.wants.ok q hq with h | h
  · exact .inl h.1
  · exact .inr h.1
end L3
/-! L3zt: tuple(d), list(d) of a dict whose keys are tuples; d[k] = v of such -/
namespace L3
open PySem L2 PySem.Spec PyProof.Rows
open Sem (wp)
open PySem.W (KdlSrc kdl_extend kdl_call)
section
variable {prog : Program} {w : World} {A : Around} {E : Value → Shared → Prop} {s : Shared} {T : String} {r d : Addr} {n : Nat} {P : Nat → Value → Prop} {OK : Heap → Prop}
theorem wpAny_collect_kdl {Q : List Value → Shared → Prop} (K : KdlSrc prog w T r d n P OK) (hh : A.handled = none) (hok : OK s.heap) (hn : n ≤ sizeLine)
    (hQ : ∀ (h' : Heap) (tk : Nat) (acc : Array Value), (∀ b o, s.heap.get? b = some o → h'.get? b = some o) → ItemsOf P acc n → Q acc.toList { s with heap := h', toks := tk }) :
    wpAny (model prog w) A (collect (.ref r)) Q E s := by
  unfold collect
  refine wpAny_bind (wpAny_runValue (codeAny_builtin F.entry_proto_collect ?_))
  rw [Around.under_plainId F.plain_proto_collect _]
  show wpAny _ A.in1 (newList [] >>= fun l => again (.builtin "list.__iadd__" ⟨[l, .ref r], []⟩)) _ _ s
  refine wpAny_bind (wpAny_newObj_type ?_)
  refine wpAny_pure ⟨plainId_quiet F.plain_list_iadd _, codeAny_builtin F.entry_list_iadd ?_⟩
  rw [Around.under_plainId F.plain_list_iadd _]
  show wpAny _ A.in1 (Builtin.List.listExtendWith (.ref s.heap.objs.size) (.ref r) (.ref s.heap.objs.size)) _ _ _
  have hS : (s.heap.push { cls := .type "list", data := .seq ([] : List Value).toArray }).get? s.heap.objs.size = some { cls := .type "list", data := .seq #[] 0 } := Heap.get?_push_size _ rfl
  have hlt := K.there _ hok
  have fin' : ∀ s' : Shared, (∃ (h' : Heap) (tk : Nat) (acc : Array Value) (c' : Nat), s' = { s with heap := h', toks := tk } ∧ (∀ b o, s.heap.get? b = some o → h'.get? b = some o) ∧ h'.get? s.heap.objs.size = some { cls := .type "list", dict := none, data := .seq acc c', slots := #[] } ∧ ItemsOf P acc n) →
      wpAny (model prog w) A (match Value.ref s.heap.objs.size with
        | Value.ref a => do
          match (← load a).data with
            | Data.seq xs _ => pure xs.toList
            | _ => unsupported "internal:collect"
        | _ => unsupported "internal:collect") Q E s' := by
    rintro s' ⟨h', tk, acc, c', rfl, k, g, i⟩
    show wpAny _ A (load s.heap.objs.size >>= _) _ _ _
    exact wpAny_bind (wpAny_load g (wpAny_pure (hQ h' tk acc k i)))
  refine wpAny_mono (kdl_extend (A := A) (s := { s with heap := s.heap.push { cls := .type "list", data := .seq ([] : List Value).toArray } }) (R := fun r s' => r = .ok (.ret (.ref s.heap.objs.size)) ∧ ∃ (h' : Heap) (tk : Nat) (acc : Array Value) (c' : Nat), s' = { s with heap := h', toks := tk } ∧ (∀ b o, s.heap.get? b = some o → h'.get? b = some o) ∧ h'.get? s.heap.objs.size = some { cls := .type "list", dict := none, data := .seq acc c', slots := #[] } ∧ ItemsOf P acc n)
    K hh (K.keep _ _ hok fun b _ o e => Heap.get?_push_of_some _ e) _ (Nat.ne_of_gt hlt.1) (Nat.ne_of_gt hlt.2) (.ref s.heap.objs.size) 0 hS (fun h' tk acc' c' hk hS' hacc => ⟨rfl, h', tk, acc', c', rfl, fun b o e => hk b o (Nat.ne_of_lt (Heap.lt_size e)) (Heap.get?_push_of_some _ e), hS', hacc⟩) hn) (fun fin s' h => ?_) (fun e s' h => ?_)
  · cases fin with
    | done f =>
      obtain ⟨e, h⟩ := h
      cases e
      exact fin' s' h
    | again c' => exact ⟨h.1, codeAny_mono h.2 fun r s'' hr => by obtain ⟨rfl, hr⟩ := hr; exact fin' s'' hr⟩
  · exact absurd h.1 (by simp)
theorem code_tuple_new_kdl {Q₁ : Value → Shared → Prop} (K : KdlSrc prog w T r d n P OK) (hh : A.handled = none) (hok : OK s.heap) (hn : n ≤ sizeLine)
    (h : ∀ (h' : Heap) (tk : Nat) (acc : Array Value), (∀ b o, s.heap.get? b = some o → h'.get? b = some o) → ItemsOf P acc n → Q₁ (.ref h'.objs.size) { s with heap := h'.push { cls := .type "tuple", data := .seq acc }, toks := tk }) :
    codeAny (model prog w) A (.call (.builtin "tuple.__new__") ⟨[.type "tuple", .ref r], []⟩) (wants Q₁ E) s := by
  refine codeAny_of_tree ?_
  show wpAny _ A.in1 (do checkBuiltinCall "tuple.__new__" ⟨[.type "tuple", .ref r], []⟩; again (.builtin "tuple.__new__" ⟨[.type "tuple", .ref r], []⟩)) _ _ s
  refine wpAny_bind (wpAny_of_eq (F.newCall_tuple_1 _) (wpAny_pure ⟨plainId_quiet F.plain_tuple_new _, codeAny_builtin F.entry_tuple_new ?_⟩))
  rw [Around.under_plainId F.plain_tuple_new _]
  have hsub := sub_tuple_self
  have hinit := init_tuple_lookup
  have hmh := madeHere_tuple
  have hT := K.type s hok
  have hnt := K.notTuple
  have hh1 : A.in1.handled = none := hh
  wp_walk using wpAny_typeOf hT, wpAny_collect_kdl (A := A.in1) K hh1 hok hn
  intro h' tk acc hk hacc
  show wpAny _ _ (Builtin.Tuple.tupleExact acc.toList.toArray >>= fun v => ret v) _ _ _
  unfold Builtin.Tuple.tupleExact
  refine wpAny_bind (wpAny_newObj_type ?_ (by show acc.toList.toArray.size ≤ sizeLine; simp only [Array.toArray_toList]; rw [hacc.1]; exact hn))
  refine wpAny_pure ?_
  have e : acc.toList.toArray = acc := by simp
  rw [e]
  exact h h' tk acc hk hacc
theorem call_tuple_kdl {Q : Value → Shared → Prop} (K : KdlSrc prog w T r d n P OK) (hh : A.handled = none) (hok : OK s.heap) (hn : n ≤ sizeLine)
    (hQ : ∀ (h' : Heap) (tk : Nat) (acc : Array Value), (∀ b o, s.heap.get? b = some o → h'.get? b = some o) → ItemsOf P acc n → Q (.ref h'.objs.size) { s with heap := h'.push { cls := .type "tuple", data := .seq acc }, toks := tk }) :
    wpAny (model prog w) A (call (.type "tuple") [.ref r]) Q E s := by
  refine callType_codes (Q₁ := fun obj s₁ => s₁.TypeIs obj "tuple" ∧ Q obj s₁) F.called_tuple (F.typeCall_tuple_1 _) F.entry_object_init
    (code_tuple_new_kdl K hh hok hn fun h' tk acc hk hacc => ⟨⟨_, Heap.get?_push_size _ rfl, rfl⟩, hQ h' tk acc hk hacc⟩) fun obj s₁ h₁ => ?_
  exact ⟨h₁.1, F.args_object_init_2 obj _, object_init_meets F.called_tuple.init.lookup F.called_tuple.made (by decide) prog w A.in1 _ s₁ ⟨h₁.1, rfl, h₁.2⟩⟩
end
section
variable {X : Cx}
theorem keys_acc {es : Array DictEntry} {ts : List Addr} (he : es.toList.map (·.key) = ts.map Value.ref) {acc : Array Value} (h : ItemsOf (fun i v => ∃ hi : i < es.size, v = es[i].key) acc es.size) : acc.toList = ts.map Value.ref := by
  rw [← he]
  refine List.ext_getElem? fun i => ?_
  rw [List.getElem?_map, Array.getElem?_toList, Array.getElem?_toList]
  by_cases hi : i < es.size
  · have ha : i < acc.size := by rw [h.1]; exact hi
    obtain ⟨_, e⟩ := h.2 i acc[i] (Array.getElem?_eq_getElem ha)
    rw [Array.getElem?_eq_getElem ha, Array.getElem?_eq_getElem hi, e]
    rfl
  · rw [Array.getElem?_eq_none (by rw [h.1]; omega), Array.getElem?_eq_none (by omega)]
    rfl
/-- the keys of a dict of tuples, as they stand -/
theorem dT_raw {pins : List (Addr × Obj)} {σ : L2.St} {H : Hp} {s : Shared} (I : L2.Inv X pins σ H s) {a : Addr} {kvs : List (List Key × V)} (ha : H a = some (.dT kvs)) :
    ∃ (es : Array DictEntry) (ep : Nat) (ts : List Addr), (a == sysModules) = false ∧ s.heap.DictRaw a es ep ∧ es.size = kvs.length ∧ kvs.length ≤ sizeLine ∧ es.toList.map (·.key) = ts.map Value.ref ∧ Paired (fun (p : List Key × V) t => H t = some (.tup (p.1.map kV))) kvs ts := by
  obtain ⟨hz, hs, xs, pr, o, es, ep, hg, hx, hd, he, _⟩ := I.hok a _ ha
  refine ⟨es, ep, xs.map (·.2.1), hs, ⟨o, hg, hx, hd⟩, ?_, hz, ?_, ?_⟩
  · have e1 := congrArg List.length he
    rw [List.length_map, Array.length_toList] at e1
    rw [e1, pair_len pr]
  · rw [he, List.map_map, List.map_map]
    rfl
  · exact paired_map pr fun _ _ z => z.2.1
def rTupDT : List V → Hp → VK → Prop := fun xs H Q => ∃ a kvs, xs = [.ref a] ∧ H a = some (.dT kvs) ∧ ∀ ts : List Addr, Paired (fun (p : List Key × V) t => H t = some (.tup (p.1.map kV))) kvs ts → ∀ l, H l = none → Q (.ref l) (upd H l (.tup (ts.map V.ref)))
theorem vals_refs : ∀ ts : List Addr, Vals (ts.map V.ref) (ts.map Value.ref)
  | [] => .nil
  | t :: ts => .cons rfl (vals_refs ts)
theorem u_tupleDT (hc : X.calm = true) : CallR X (.type "tuple") rTupDT := by
  intro pins s σ H xs us Q I r h
  obtain ⟨a, kvs, rfl, ha, q⟩ := h
  obtain ⟨u, rfl, rx⟩ := vals1 r
  cases rx
  obtain ⟨es, ep, ts, hs, hr, hl, hz, he, pr⟩ := dT_raw I ha
  refine call_tuple_kdl (KdlSrc.rawDict hs) (I.ok.hd hc) hr (by omega) fun h' tk acc kp hacc => ?_
  have hacc2 := keys_acc he hacc
  have e : acc = (ts.map Value.ref).toArray := by rw [← hacc2]
  subst e
  have htl : ts.length = kvs.length := (pair_len pr).symm
  have I1 : L2.Inv X pins σ H { s with heap := h', toks := tk } := I.kept (t' := tk) kp
  have I2 := I1.laid (a := h'.objs.size) (o := .tup (ts.map V.ref)) (h' := h'.push { cls := .type "tuple", data := .seq (ts.map Value.ref).toArray }) (t' := tk) (fun b o e => Heap.get?_push_of_some _ e) (Nat.le_refl _) ⟨by rw [List.length_map]; omega, _, vals_refs ts, IsTup.new _ _⟩
  exact ⟨.ref h'.objs.size, _, I2, rfl, q ts pr _ (I1.hok.fresh (Nat.le_refl _))⟩
end
/-! all tuples of the heap are taken as data -/
def absorb (B H : Hp) : Hp := fun a => match B a with
  | some x => some x
  | none => match H a with
    | some (.tup xs) => some (.tup xs)
    | _ => none
theorem absorb_same (B H : Hp) : Same B (absorb B H) := fun a o e => by unfold absorb; rw [e]
theorem absorb_tup {B H : Hp} (S : Same B H) {a : Addr} {xs : List V} (h : H a = some (.tup xs)) : absorb B H a = some (.tup xs) := by
  unfold absorb
  cases e : B a with
  | none => simp [h]
  | some x =>
    have := S a x e
    rw [h] at this
    simp only
    exact this.symm
theorem absorb_none {B H : Hp} {a : Addr} (h1 : B a = none) (h2 : ∀ xs, H a ≠ some (.tup xs)) : absorb B H a = none := by
  unfold absorb
  rw [h1]
  cases e : H a with
  | none => rfl
  | some o => cases o <;> first | rfl | exact absurd e (h2 _)
section
variable {K : PySem.W.Frag} {m m' : List Addr} {B B' H H' : Hp} {l : List O} {ρ : List (Option D)} {R : D → List O → Prop} {E : E3} {ta tb tc te : TE} {t u : TS}
theorem SR.absorb (S : SR K m B H l) : SR K m (absorb B H) H l ∧ Step m B H m (L3.absorb B H) H := by
  refine ⟨⟨fun a o e => ?_, S.len, S.nd, S.live, fun n a o h1 h2 => ?_⟩, ⟨absorb_same B H, ⟨[], by simp⟩, fun _ _ h _ => h, fun _ h => h, fun a h1 h2 _ => absorb_none h2 h1.2, fun _ h => .inl h⟩⟩
  · unfold L3.absorb at e
    cases eb : B a with
    | some x => rw [eb] at e; cases e; exact S.sub a _ eb
    | none =>
      rw [eb] at e
      cases eh : H a with
      | none => rw [eh] at e; cases e
      | some u => rw [eh] at e; cases u <;> first | (cases e; done) | exact e
  · obtain ⟨r, b⟩ := S.obj n a o h1 h2
    exact ⟨r.up (absorb_same B H) ⟨[], by simp⟩ fun _ e => e, fun q => absorb_none (b q) (r.ntup q)⟩
def keysD (kvs : List (List Key × PyData)) : List PyData := kvs.map fun q => .tuple (q.1.map keyD)
theorem frs_kv : ∀ k : List Key, FRs K B (k.map kV) (k.map keyD)
  | [] => .nil
  | k :: ks => .cons (fr_key k) (frs_kv ks)
theorem keys_frs (S : Same B H) : ∀ {ks : List (List Key × V)} {kvs : List (List Key × PyData)} {ts : List Addr}, Paired (fun (p : List Key × V) (q : List Key × PyData) => p.1 = q.1 ∧ FR K B p.2 q.2) ks kvs → Paired (fun (p : List Key × V) t => H t = some (.tup (p.1.map kV))) ks ts → FRs K (absorb B H) (ts.map V.ref) (keysD kvs)
  | _, _, _, .nil, h => by cases h; exact .nil
  | _, _, _, .cons h t, h2 => by
    cases h2 with
    | cons h3 t3 => exact .cons (.tup (.inl (absorb_tup S (by rw [h3, h.1]))) (frs_kv _)) (keys_frs S t t3)
theorem c_tupleDT {n : Nat} {kvs : List (List Key × PyData)} (h : l[n]? = some (.dctT kvs)) (z : R (.f (.tuple (keysD kvs))) l) : CaS K rTupDT [.own n] l R := fun m B H vs S r Q q => by
  cases r with
  | cons r1 r2 =>
    cases r2
    obtain ⟨a, rfl, ha⟩ := r1
    obtain ⟨⟨ks, e, pr⟩, _⟩ := S.obj n a _ ha h
    obtain ⟨S2, s2⟩ := S.absorb
    exact ⟨a, ks, rfl, e, fun ts pt p hp => retT S2 (q.step s2) hp (keys_frs S.sub pr pt) z⟩
/-- d[k] = v, the key a tuple -/
theorem x_dputT (h : EvS K tc ρ l fun x l1 => EvS K ta ρ l1 fun o l2 => EvS K tb ρ l2 fun y l3 => ∃ n kvs k d, x = .f d ∧ o = .own n ∧ y = .f (.tuple (k.map keyD)) ∧ k.length = 2 ∧ l3[n]? = some (.dctT kvs) ∧ kvs.length ≤ 100000 ∧ E.nx ρ (l3.set n (.dctT (putD kvs k d)))) : ExS K (sDPut ta tb tc) ρ l E := fun m B H σ S e Dn F => by
  refine h m B H σ S e _ fun vx m1 B1 H1 x l1 s1 S1 r1 z1 => ?_
  refine z1 m1 B1 H1 σ S1 (e.step s1) _ fun vo m2 B2 H2 o l2 s2 S2 r2 z2 => ?_
  refine z2 m2 B2 H2 σ S2 (e.step (s1.trans s2)) _ fun vy m3 B3 H3 y l3 s3 S3 r3 ⟨n, kvs, k, d, ex, eo, ey, hk, hn, hl, z3⟩ => ?_
  subst ex eo ey
  have r1' : FR K B3 vx d := r1.step (s2.trans s3)
  obtain ⟨a, rfl, ha⟩ := r2.step s3
  obtain ⟨⟨ks, e1, pr⟩, hb⟩ := S3.obj n a _ ha hn
  have pr' := put_of pr k r1'
  obtain ⟨S4, s4⟩ := S3.write (u := .dT (putK ks k vx)) (o := .dctT (putD kvs k d)) ha (hb (by simp)) ⟨_, upd_same, pr'⟩
  cases r3 with
  | tup h1 hq =>
    have hkk := frs_keys hq
    subst hkk
    refine ⟨a, upd H3 a (.dT (putK ks k vx)), rfl, ?_, F.nx _ _ _ _ _ _ (((s1.trans s2).trans s3).trans s4) S4 (e.step (((s1.trans s2).trans s3).trans s4)) z3⟩
    rcases h1 with h1 | h1
    · exact DPut.t e1 (S3.sub _ _ h1) (small' (by rw [pair_len pr]; exact hl))
    · exact (h1.1.no hk).elim
end
/-! how many edges a knot's view has -/
theorem all_eq_len {α : Type} {xs : List α} (hn : xs.Nodup) (h : ∀ x ∈ xs, ∀ y ∈ xs, x = y) : xs.length ≤ 1 := by
  match xs, hn, h with
  | [], _, _ => exact Nat.zero_le _
  | [x], _, _ => exact Nat.le_refl _
  | x :: y :: r, hn, h =>
    rw [List.nodup_cons] at hn
    exact absurd (h x (by simp) y (by simp) ▸ (List.mem_cons_self : y ∈ y :: r)) hn.1
theorem WantsOk.one {ks : Knots} {us : List Str} (hB : TreeB ks us) {ws : Ties} (h : WantsOk ks ws) (k w : Str) : (wantUs ks k w ws).length ≤ 1 := by
  have hns := hB.names
  obtain ⟨_, _, T, _⟩ := hB
  have key : ∀ u ∈ wantUs ks k w ws, (w = "first" ∧ (kids ks k).head? = some u) ∨ (w = "last" ∧ (kids ks k).getLast? = some u) := fun u hu => by
    obtain ⟨q, hq, rfl⟩ := List.mem_map.mp hu
    obtain ⟨h1, h2⟩ := List.mem_filter.mp hq
    simp at h2
    have hs := (mem_kids hns).mp h2.2
    rcases h.ok q h1 with ⟨e, k', hk', hh⟩ | ⟨e, k', hk', hh, _⟩
    · have : k'.1 = k := T.one q.2 _ _ ⟨k'.2, hk', List.mem_of_mem_head? (by rw [hh]; rfl)⟩ hs
      subst this
      rw [kids_of hns (k := k'.1) (xs := k'.2) hk']
      exact .inl ⟨h2.1 ▸ e, hh⟩
    · have : k'.1 = k := T.one q.2 _ _ ⟨k'.2, hk', List.mem_of_getLast? hh⟩ hs
      subst this
      rw [kids_of hns (k := k'.1) (xs := k'.2) hk']
      exact .inr ⟨h2.1 ▸ e, hh⟩
  refine all_eq_len ?_ fun x hx y hy => ?_
  · unfold wantUs
    exact List.Sublist.nodup (List.Sublist.map _ List.filter_sublist) h.nd
  · rcases key x hx with ⟨a, b⟩ | ⟨a, b⟩
    · rcases key y hy with ⟨c, d⟩ | ⟨c, d⟩
      · rw [b] at d; exact Option.some.inj d
      · rw [a] at c; exact absurd c (by decide)
    · rcases key y hy with ⟨c, d⟩ | ⟨c, d⟩
      · rw [a] at c; exact absurd c (by decide)
      · rw [b] at d; exact Option.some.inj d
/-! pairs as keys, each once -/
def kT (e : Str × Str) : List Key := [.inr e.1, .inr e.2]
def onced (xs : Ties) : List (List Key × PyData) := xs.map fun e => (kT e, .bool true)
theorem kT_inj {a b : Str × Str} (h : kT a = kT b) : a = b := by
  unfold kT at h
  simp at h
  exact Prod.ext h.1 h.2
theorem onced_put (xs : Ties) (e : Str × Str) : putD (onced xs) (kT e) (.bool true) = onced (addOnce xs e) := by
  unfold putD addOnce
  by_cases h : e ∈ xs
  · rw [if_pos h, if_pos]
    · unfold onced
      rw [List.map_map]
      refine List.map_congr_left fun x hx => ?_
      show (if kT x = kT e then (kT x, PyData.bool true) else (kT x, PyData.bool true)) = _
      split <;> rfl
    · rw [List.any_eq_true]
      exact ⟨(kT e, .bool true), List.mem_map_of_mem (f := fun e => (kT e, PyData.bool true)) h, by simp⟩
  · rw [if_neg h, if_neg]
    · unfold onced; rw [List.map_append]; rfl
    · intro q
      rw [List.any_eq_true] at q
      obtain ⟨p, hp, e1⟩ := q
      obtain ⟨x, hx, rfl⟩ := List.mem_map.mp hp
      exact h (kT_inj (of_decide_eq_true e1) ▸ hx)
theorem onced_keys (xs : Ties) : keysD (onced xs) = pPy xs := by
  unfold keysD onced pPy
  rw [List.map_map]
  rfl
theorem onced_len (xs : Ties) : (onced xs).length = xs.length := List.length_map ..
end L3
/-! L3zu: defs that call themselves; steps along a way; the search by rows -/
namespace L3
open PySem L2
/-! steps -/
abbrev Step3 := Str × Str × Str
def stepF (ks : Knots) (ts ws : Ties) (k x y : Str) : Step3 := match ts.find? fun e => decide (partF ks e.1 e.2 = some (k, x, y)) with
  | some e => ("tie", e.1, e.2)
  | none => if (("first" : Str), x) ∈ ws then ("first", x, y) else ("last", x, y)
/-! the search by rows: the first a of them are done -/
theorem wayFold_pre {P : List Str} : ∀ (os : List Str) (Q : Ways), ∃ t, os.foldl (wayAdd P) Q = Q ++ t
  | [], Q => ⟨[], by simp⟩
  | o :: os, Q => by
    rw [List.foldl_cons]
    obtain ⟨t, e⟩ := wayFold_pre os (wayAdd P Q o)
    rw [e]
    unfold wayAdd
    split
    · exact ⟨t, rfl⟩
    · exact ⟨[o :: P] ++ t, by simp⟩
theorem wayGo_pre (nx : Str → List Str) : ∀ (n : Nat) (Q : Ways) (a : Nat), ∃ t, wayGo nx n Q a = Q ++ t
  | 0, Q, a => ⟨[], by simp [wayGo]⟩
  | n + 1, Q, a => by
    unfold wayGo
    cases Q[a]? with
    | none => exact ⟨[], by simp⟩
    | some P =>
      simp only
      obtain ⟨t, e⟩ := wayGo_pre nx n ((nx (P.headD "")).foldl (wayAdd P) Q) (a + 1)
      obtain ⟨u, e2⟩ := wayFold_pre (P := P) (nx (P.headD "")) Q
      exact ⟨u ++ t, by rw [e, e2, List.append_assoc]⟩
/-- the rows Q, the first a of them done, on the way to all of them -/
def Rows (ts : List Str) (es : Ties) (one : Str) (Q : Ways) (a : Nat) : Prop := ∃ n, wayQ ts es one false = wayGo (nextsM ts es) n Q a ∧ ts.length + 1 < n + a
section
variable {ts : List Str} {es : Ties} {one : Str} {Q : Ways} {a : Nat}
theorem Rows.start (ts : List Str) (es : Ties) (one : Str) : Rows ts es one [[one]] 0 := ⟨ts.length + 2, rfl, by omega⟩
theorem Rows.pre (h : Rows ts es one Q a) : ∃ t, wayQ ts es one false = Q ++ t := by
  obtain ⟨n, e, _⟩ := h
  obtain ⟨t, e2⟩ := wayGo_pre (nextsM ts es) n Q a
  exact ⟨t, by rw [e, e2]⟩
theorem wayQ_len (hn : ts.Nodup) (es : Ties) (one : Str) : (wayQ ts es one false).length ≤ ts.length + 1 := by
  have := (wayQ_ok hn es one false).cameOk.len
  rwa [List.length_map] at this
theorem Rows.len (hn : ts.Nodup) (h : Rows ts es one Q a) : Q.length ≤ ts.length + 1 := by
  obtain ⟨t, e⟩ := h.pre
  have := wayQ_len hn es one
  rw [e, List.length_append] at this
  omega
theorem Rows.mem (h : Rows ts es one Q a) {p : List Str} (hp : p ∈ Q) : p ∈ wayQ ts es one false := by
  obtain ⟨t, e⟩ := h.pre
  rw [e]
  exact List.mem_append_left _ hp
theorem Rows.next (hn : ts.Nodup) (h : Rows ts es one Q a) {P : List Str} (hP : Q[a]? = some P) : Rows ts es one ((nextsM ts es (P.headD "")).foldl (wayAdd P) Q) (a + 1) := by
  have hl := h.len hn
  have ha := (List.getElem?_eq_some_iff.mp hP).1
  obtain ⟨n, e, hf⟩ := h
  cases n with
  | zero => omega
  | succ n =>
    refine ⟨n, ?_, by omega⟩
    rw [e]
    conv => lhs; unfold wayGo
    rw [hP]
theorem Rows.done (h : Rows ts es one Q a) (ha : Q.length ≤ a) : wayQ ts es one false = Q := by
  obtain ⟨n, e, hf⟩ := h
  rw [e]
  cases n with
  | zero => rfl
  | succ n =>
    unfold wayGo
    rw [List.getElem?_eq_none ha]
end
def headsL (Q : Ways) : List Str := Q.map fun p => p.headD ""
theorem hasW_heads (Q : Ways) (o : Str) : hasW Q o = decide (o ∈ headsL Q) := by
  unfold hasW headsL
  cases h : hasK (Q.map toC) o with
  | true =>
    have := hasK_iff.mp h
    rw [List.map_map] at this
    exact (decide_eq_true this).symm
  | false =>
    refine (decide_eq_false fun h2 => ?_).symm
    have : hasK (Q.map toC) o = true := hasK_iff.mpr (by rw [List.map_map]; exact h2)
    rw [h] at this
    cases this
theorem WaysOk.sub {ts : List Str} {es : Ties} {one : Str} {back : Bool} {Q : Ways} (h : WaysOk ts es one back Q) {p : List Str} (hp : p ∈ Q) : ∀ v ∈ p, v = one ∨ v ∈ ts := by
  obtain ⟨a, ok, _⟩ := h.ok
  have := ok.rw p hp
  clear hp
  induction this with
  | base => intro v hv; exact .inl (List.mem_singleton.mp hv)
  | @step a b p h1 h2 ih =>
    intro v hv
    rcases List.mem_cons.mp hv with rfl | hv
    · exact .inr (stepM_sub _ _ h2)
    · exact ih v hv
section
variable {K : PySem.W.Frag} {l : List O} {R : D → List O → Prop}
theorem o_inS {x : Str} {y : D} {xs : List Str} (h : IsQ l y (sPy xs)) (z : R (.f (.bool (decide (x ∈ xs)))) l) : OpS K (rInU K false) (.f (.str x)) y l R := o_inQS h z
theorem o_ninS {x : Str} {y : D} {xs : List Str} (h : IsQ l y (sPy xs)) (z : R (.f (.bool (!decide (x ∈ xs)))) l) : OpS K (rInU K true) (.f (.str x)) y l R := o_inQS h z
end
theorem headsL_snoc (Q : Ways) (o : Str) (P : List Str) : headsL (Q ++ [o :: P]) = headsL Q ++ [o] := by
  unfold headsL
  rw [List.map_append]
  rfl
theorem headsL_len (Q : Ways) : (headsL Q).length = Q.length := List.length_map ..
theorem wayAdd_eq (P : List Str) (Q : Ways) (o : Str) : wayAdd P Q o = if o ∈ headsL Q then Q else Q ++ [o :: P] := by
  unfold wayAdd
  rw [hasW_heads]
  by_cases h : o ∈ headsL Q
  · rw [decide_eq_true h, if_pos rfl, if_pos h]
  · rw [decide_eq_false h, if_neg (by decide), if_neg h]
theorem Rows.ne {ts : List Str} {es : Ties} {one : Str} {Q : Ways} {a : Nat} (hn : ts.Nodup) (h : Rows ts es one Q a) {p : List Str} (hp : p ∈ Q) : ∃ c r, p = c :: r := (wayQ_ok hn es one false).ne (h.mem hp)
end L3
/-! L3zv: an own list in a slot becomes data; comprehensions over plain tuples; the search from a group -/
namespace L3
open PySem L2
/-! the search from a group of starts -/
def grpRow (M : List Str) (P : List Str) : List Str → Ways → Ways × Option (List Str)
  | [], Q => (Q, none)
  | o :: os, Q => if o ∈ M ∧ 2 ≤ P.length then (Q, some (o :: P)) else grpRow M P os (wayAdd P Q o)
def grpGo (nx : Str → List Str) (M : List Str) : Nat → Ways → Nat → Option (List Str)
  | 0, _, _ => none
  | n + 1, Q, a => match Q[a]? with
    | none => none
    | some P => match (grpRow M P (nx (P.headD "")) Q).2 with
      | some w => some w
      | none => grpGo nx M n (grpRow M P (nx (P.headD "")) Q).1 (a + 1)
def grpStart (ts M : List Str) : Ways := (ts.filter fun x => decide (x ∈ M)).map fun x => [x]
def grpQ (ts : List Str) (es : Ties) (M : List Str) : Option (List Str) := grpGo (nextsM ts es) M (ts.length + 1) (grpStart ts M) 0
structure GQ (ts M : List Str) (Q : Ways) : Prop where
  nd : (headsL Q).Nodup
  sub : ∀ x ∈ headsL Q, x ∈ ts
  all : ∀ x ∈ ts, x ∈ M → x ∈ headsL Q
  row : ∀ (i : Nat) p, Q[i]? = some p → (∃ x, p = [x] ∧ x ∈ M) ∨ ∃ x q j, p = x :: q ∧ j < i ∧ Q[j]? = some q ∧ x ∉ M
section
variable {ts M : List Str} {Q : Ways} {es : Ties}
theorem GQ.len (h : GQ ts M Q) : Q.length ≤ ts.length := by
  have := nodup_le h.nd h.sub
  rwa [headsL_len] at this
theorem GQ.ne (h : GQ ts M Q) {i : Nat} {p : List Str} (hp : Q[i]? = some p) : ∃ x q, p = x :: q := by
  rcases h.row i p hp with ⟨x, e, _⟩ | ⟨x, q, _, e, _⟩
  · exact ⟨x, [], e⟩
  · exact ⟨x, q, e⟩
theorem GQ.mem (h : GQ ts M Q) : ∀ (i : Nat) p, Q[i]? = some p → ∀ v ∈ p, v ∈ ts
  | i, p, hp => by
    have hh : p.headD "" ∈ ts := h.sub _ (List.mem_map.mpr ⟨p, List.mem_of_getElem? hp, rfl⟩)
    rcases h.row i p hp with ⟨x, rfl, hx⟩ | ⟨x, q, j, rfl, hj, hq, hx⟩
    · intro v hv
      cases List.mem_singleton.mp hv
      exact hh
    · intro v hv
      rcases List.mem_cons.mp hv with rfl | hv
      · exact hh
      · exact GQ.mem h j q hq v hv
termination_by i => i
theorem headsL_at {Q : Ways} {i : Nat} {p : List Str} (h : Q[i]? = some p) : (headsL Q)[i]? = some (p.headD "") := by
  unfold headsL; rw [List.getElem?_map, h]; rfl
theorem GQ.uniq (h : GQ ts M Q) {i j : Nat} {p q : List Str} (hp : Q[i]? = some p) (hq : Q[j]? = some q) (e : p.headD "" = q.headD "") : p = q := by
  have h1 := headsL_at hp
  have h2 := headsL_at hq
  have hi : i < (headsL Q).length := (List.getElem?_eq_some_iff.mp h1).1
  have : i = j := (List.getElem?_inj hi h.nd).mp (by rw [h1, h2, e])
  subst this
  rw [hp] at hq
  exact Option.some.inj hq
theorem GQ.start (hn : ts.Nodup) : GQ ts M (grpStart ts M) where
  nd := by
    have : headsL (grpStart ts M) = ts.filter fun x => decide (x ∈ M) := by
      unfold headsL grpStart
      rw [List.map_map]
      exact List.map_id _
    rw [this]
    exact hn.filter _
  sub := fun x hx => by
    unfold headsL grpStart at hx
    rw [List.map_map] at hx
    obtain ⟨y, hy, rfl⟩ := List.mem_map.mp hx
    exact (List.mem_filter.mp hy).1
  all := fun x h1 h2 => by
    unfold headsL grpStart
    rw [List.map_map]
    exact List.mem_map.mpr ⟨x, List.mem_filter.mpr ⟨h1, decide_eq_true h2⟩, rfl⟩
  row := fun i p hp => by
    have := List.mem_of_getElem? hp
    obtain ⟨y, hy, rfl⟩ := List.mem_map.mp this
    exact .inl ⟨y, rfl, of_decide_eq_true (List.mem_filter.mp hy).2⟩
theorem GQ.add (h : GQ ts M Q) {a : Nat} {P : List Str} (hP : Q[a]? = some P) {o : Str} (ho : o ∈ ts) (hno : ¬ (o ∈ M ∧ 2 ≤ P.length)) : GQ ts M (wayAdd P Q o) ∧ (wayAdd P Q o)[a]? = some P := by
  rw [wayAdd_eq]
  by_cases hm : o ∈ headsL Q
  · rw [if_pos hm]; exact ⟨h, hP⟩
  · rw [if_neg hm]
    have hal := (List.getElem?_eq_some_iff.mp hP).1
    refine ⟨⟨?_, ?_, ?_, ?_⟩, by rw [List.getElem?_append_left hal]; exact hP⟩
    · rw [headsL_snoc, List.nodup_append]
      exact ⟨h.nd, by simp, fun x hx y hy => by cases List.mem_singleton.mp hy; exact fun e => hm (e ▸ hx)⟩
    · intro x hx
      rw [headsL_snoc] at hx
      rcases List.mem_append.mp hx with q | q
      · exact h.sub x q
      · cases List.mem_singleton.mp q; exact ho
    · intro x h1 h2
      rw [headsL_snoc]
      exact List.mem_append_left _ (h.all x h1 h2)
    · intro i p hp
      by_cases hi : i < Q.length
      · rw [List.getElem?_append_left hi] at hp
        rcases h.row i p hp with ⟨x, e, hx⟩ | ⟨x, q, j, e, hj, hq, hx⟩
        · exact .inl ⟨x, e, hx⟩
        · exact .inr ⟨x, q, j, e, hj, by rw [List.getElem?_append_left (by omega)]; exact hq, hx⟩
      · rw [List.getElem?_append_right (by omega)] at hp
        have e0 : i - Q.length = 0 := by
          have := (List.getElem?_eq_some_iff.mp hp).1
          simp at this
          omega
        rw [e0] at hp
        cases hp
        refine .inr ⟨o, P, a, rfl, by omega, by rw [List.getElem?_append_left hal]; exact hP, fun hM => hm (h.all o ho hM)⟩
end
/-- the search midway: a rows are done -/
def GAt (ts : List Str) (es : Ties) (M : List Str) (Q : Ways) (a : Nat) : Prop := GQ ts M Q ∧ ∃ n, grpQ ts es M = grpGo (nextsM ts es) M n Q a ∧ ts.length < n + a
/-- within row a: the things left to go -/
def GMid (ts : List Str) (es : Ties) (M : List Str) (Q : Ways) (a : Nat) (P os : List Str) : Prop := GQ ts M Q ∧ Q[a]? = some P ∧ (∀ o ∈ os, o ∈ ts) ∧ ∃ n, (grpQ ts es M = match (grpRow M P os Q).2 with
      | some w => some w
      | none => grpGo (nextsM ts es) M n (grpRow M P os Q).1 (a + 1)) ∧ ts.length < n + (a + 1)
section
variable {ts M : List Str} {Q : Ways} {es : Ties} {a : Nat} {P os : List Str} {o : Str}
theorem GAt.start (hn : ts.Nodup) : GAt ts es M (grpStart ts M) 0 := ⟨GQ.start hn, _, rfl, by omega⟩
theorem GMid.step (h : GMid ts es M Q a P (o :: os)) (hf : ¬ (o ∈ M ∧ 2 ≤ P.length)) : GMid ts es M (wayAdd P Q o) a P os := by
  obtain ⟨hq, hP, hos, n, e, hl⟩ := h
  obtain ⟨h1, h2⟩ := hq.add hP (hos o List.mem_cons_self) hf
  refine ⟨h1, h2, fun x hx => hos x (List.mem_cons_of_mem _ hx), n, ?_, hl⟩
  rw [e]
  conv => lhs; unfold grpRow
  rw [if_neg hf]
theorem GMid.done (h : GMid ts es M Q a P []) : GAt ts es M Q (a + 1) := by
  obtain ⟨hq, hP, hos, n, e, hl⟩ := h
  exact ⟨hq, n, e, hl⟩
theorem GAt.none (h : GAt ts es M Q a) (ha : Q.length ≤ a) : grpQ ts es M = none := by
  obtain ⟨hq, n, e, hl⟩ := h
  rw [e]
  cases n with
  | zero => rfl
  | succ n =>
    unfold grpGo
    rw [List.getElem?_eq_none ha]
end
end L3
/-! L3zw: extend by a tuple; what stands within what -/
namespace L3
open PySem L2 PySem.Spec PyProof.Rows
set_option maxRecDepth 8000 in
theorem list_extend_tup (l : Addr) (items : Array Value) (n : Nat) (b : Addr) (items2 : Array Value) (n2 : Nat) (dc : Option Addr) (sl : Array (Option Value)) (hs0 : ¬(!items.isEmpty && Builtin.List.listTooLong (items.size + items2.size)) = true) (hs1 : items.size ≤ sizeLine) (hs2 : items.size + items2.size ≤ sizeLine + 1) :
    Meets (Builtin.«list.extend» ⟨[.ref l, .ref b], []⟩) (fun _ R s => s.heap.get? l = some { cls := .type "list", dict := none, data := .seq items n, slots := #[] } ∧ s.heap.get? b = some { cls := .type "tuple", dict := dc, data := .seq items2 n2, slots := sl } ∧ R (.ok (.ret Value.none)) { s with heap := s.heap.update l (Obj.mapSeq fun x => x ++ items2), toks := s.toks }) :=
  .of_wp fun prog w A R s h => by
    obtain ⟨hp, g, d, tk, os⟩ := s; obtain ⟨hl, hb, h⟩ := h; have f1 := AutoSeq1.idx_int; have f2 := AutoSeq1.sub_tuple_tuple; have f3 := AutoSeq1.sub_list_list; have f4 := AutoSeq1.sub_tuple_list; have f5 := AutoSeq1.sub_list_tuple;
    have hz' : (items ++ items2).size ≤ sizeLine + 1 := by rw [Array.size_append]; exact hs2
    wp_walk using (wpAny_updateSeq hl rfl (hz := hs1) (_hz' := hz')), AutoSeq1.wpAny_loadPart' hl, AutoSeq1.wpAny_loadPart' hb; exact ⟨_, rfl, h⟩
def rExtendT (K : PySem.W.Frag) : V → List V → Hp → VK → Prop := fun x vs H Q => ∃ l b xs zs, x = .ref l ∧ vs = [.ref b] ∧ H l = some (.lst xs) ∧ SqT K H b zs ∧ xs.length + zs.length ≤ sizeLine ∧ Q .non (upd H l (.lst (xs ++ zs)))
theorem u_extendT {X : Cx} {K : PySem.W.Frag} (hK : X.K = K) : MtR X "list.extend" (rExtendT K) := by
  subst hK
  intro pins s σ H x vs v us Q I rx rv h
  obtain ⟨l, b, xs, zs, rfl, rfl, hH, hB, hz, q⟩ := h
  cases rx
  obtain ⟨u, rfl, ru⟩ := rv.one
  cases ru
  obtain ⟨z, its, n, r, hl, e⟩ := I.lstM hH
  obtain ⟨its2, r2, ⟨o2, e2, hc, n2, hd⟩, hl2⟩ := I.tuple hB
  obtain ⟨cls, dc, data, sl⟩ := o2
  have hc : cls = .type "tuple" := hc
  have hd : data = .seq its2.toArray n2 := hd
  subst hc hd
  have h1 := r.length
  have h2 := r2.length
  have hsz : its.toArray.size + its2.toArray.size ≤ sizeLine := by rw [List.size_toArray, List.size_toArray]; omega
  have hlong : ¬ (!its.toArray.isEmpty && Builtin.List.listTooLong (its.toArray.size + its2.toArray.size)) = true := by
    rw [notLongL hsz, Bool.and_false]
    exact Bool.false_ne_true
  refine call_meets F.slot_list_extend ⟨_, e, rfl⟩ F.entry_list_extend (F.args_list_extend_2 _ _)
    (list_extend_tup l its.toArray n b its2.toArray n2 dc sl hlong (by rw [List.size_toArray]; omega) (by omega)) ⟨e, e2, ?_⟩
  refine ⟨.non, _, I.lset (its' := its ++ its2) hH e (by simp) (r.append r2) ?_, rfl, q⟩
  rw [List.length_append]
  omega
/-! what stands within what -/
def Fits (ks : Knots) : Nat → Str → Prop
  | 0, _ => False
  | n + 1, u => ∀ c ∈ kids ks u, Fits ks n c
def leafF (ks : Knots) : Nat → Str → List Str
  | 0, u => [u]
  | n + 1, u => if u ∈ ks.map (·.1) then (kids ks u).flatMap (leafF ks n) else [u]
theorem kids_none {ks : Knots} {u : Str} (h : ¬ u ∈ ks.map (·.1)) : kids ks u = [] := by
  unfold kids
  rw [List.find?_eq_none.mpr fun p hp => by
    intro q
    exact h (List.mem_map.mpr ⟨p, hp, of_decide_eq_true q⟩)]
  rfl
theorem flatMap_eq {α β : Type} {f g : α → List β} : ∀ {xs : List α}, (∀ x ∈ xs, f x = g x) → xs.flatMap f = xs.flatMap g
  | [], _ => rfl
  | x :: xs, h => by
    rw [List.flatMap_cons, List.flatMap_cons, h x List.mem_cons_self, flatMap_eq fun y hy => h y (List.mem_cons_of_mem _ hy)]
section
variable {ks : Knots} {us : List Str} {deep : Int} {r : Str → Int}
theorem Tree.fits (T : Tree ks us deep r) : ∀ (n : Nat) (u : Str), 1 ≤ n → (u ∈ ks.map (·.1) → deep - r u + 2 ≤ n) → Fits ks n u
  | 0, _, h, _ => by omega
  | n + 1, u, _, h => by
    intro c hc
    by_cases hu : u ∈ ks.map (·.1)
    · have hs := (mem_kids T.names).mp hc
      have h1 := h hu
      obtain ⟨k, hk, e⟩ := List.mem_map.mp hu
      have h2 := T.rng k hk
      rw [e] at h2
      refine Tree.fits T n c (by omega) fun hcn => ?_
      have := T.lev c u hs hcn
      omega
    · rw [kids_none hu] at hc; cases hc
theorem Fits.succ : ∀ {n : Nat} {u : Str}, Fits ks n u → Fits ks (n + 1) u
  | 0, _, h => h.elim
  | _ + 1, _, h => fun c hc => (h c hc).succ
theorem Fits.kid {n : Nat} {u c : Str} (h : Fits ks n u) (hc : c ∈ kids ks u) : Fits ks n c := by
  cases n with
  | zero => exact h.elim
  | succ n => exact (h c hc).succ
theorem leaf_succ : ∀ {n : Nat} {u : Str}, Fits ks n u → leafF ks (n + 1) u = leafF ks n u
  | 0, _, h => h.elim
  | n + 1, u, h => by
    show (if u ∈ ks.map (·.1) then (kids ks u).flatMap (leafF ks (n + 1)) else [u]) = if u ∈ ks.map (·.1) then (kids ks u).flatMap (leafF ks n) else [u]
    rw [flatMap_eq fun c hc => leaf_succ (h c hc)]
theorem leaf_knot {n : Nat} {u : Str} (h : Fits ks n u) (hu : u ∈ ks.map (·.1)) : leafF ks n u = (kids ks u).flatMap (leafF ks n) := by
  cases n with
  | zero => exact h.elim
  | succ n =>
    show (if u ∈ ks.map (·.1) then (kids ks u).flatMap (leafF ks n) else [u]) = _
    rw [if_pos hu]
    exact flatMap_eq fun c hc => (leaf_succ (h c hc)).symm
/-- one is under another: it, or within it -/
inductive Under (ks : Knots) (a : Str) : Str → Prop
  | refl : Under ks a a
  | step {v c : Str} : Under ks a v → Stands ks c v → Under ks a c
theorem Under.trans {a b c : Str} (h1 : Under ks a b) (h2 : Under ks b c) : Under ks a c := by
  induction h2 with
  | refl => exact h1
  | step _ h ih => exact .step ih h
theorem Under.rank (T : Tree ks us deep r) {a b : Str} (h : Under ks a b) : a = b ∨ (a ∈ ks.map (·.1) ∧ (b ∈ ks.map (·.1) → r a < r b)) := by
  have kn : ∀ {v c : Str}, Stands ks c v → v ∈ ks.map (·.1) := fun ⟨xs, h1, _⟩ => List.mem_map_of_mem (f := (·.1)) h1
  induction h with
  | refl => exact .inl rfl
  | @step v c h1 h2 ih =>
    right
    rcases ih with rfl | ⟨h3, h4⟩
    · exact ⟨kn h2, fun hc => T.lev _ _ h2 hc⟩
    · refine ⟨h3, fun hc => ?_⟩
      have := T.lev _ _ h2 hc
      have := h4 (kn h2)
      omega
theorem Under.linear (T : Tree ks us deep r) {a b v : Str} (h1 : Under ks a v) (h2 : Under ks b v) : Under ks a b ∨ Under ks b a := by
  induction h1 with
  | refl => exact .inr h2
  | @step w c g1 g2 ih =>
    cases h2 with
    | refl => exact .inl (.step g1 g2)
    | @step w' _ k1 k2 =>
      cases T.one _ _ _ g2 k2
      exact ih k1
theorem Under.same (T : Tree ks us deep r) {k a b v : Str} (ha : Stands ks a k) (hb : Stands ks b k) (h1 : Under ks a v) (h2 : Under ks b v) : a = b := by
  have kn : ∀ {v c : Str}, Stands ks c v → v ∈ ks.map (·.1) := fun ⟨xs, h1, _⟩ => List.mem_map_of_mem (f := (·.1)) h1
  have key : ∀ {a b : Str}, Stands ks a k → Stands ks b k → Under ks a b → a = b := fun {a b} ha hb h => by
    cases h with
    | refl => rfl
    | @step w _ g1 g2 =>
      cases T.one _ _ _ g2 hb
      rcases g1.rank T with rfl | ⟨h3, h4⟩
      · have := T.lev _ _ ha (kn ha)
        omega
      · have := T.lev _ _ ha h3
        have := h4 (kn ha)
        omega
  rcases h1.linear T h2 with h | h
  · exact key ha hb h
  · exact (key hb ha h).symm
theorem Under.unit (T : Tree ks us deep r) {a v : Str} (h : Under ks a v) : v = a ∨ v ∈ us := by
  cases h with
  | refl => exact .inl rfl
  | step _ h => exact .inr ((T.all _).mpr ⟨_, h⟩)
theorem Under.fits {n : Nat} {a v : Str} (hn : (ks.map (·.1)).Nodup) (h : Under ks a v) (hf : Fits ks n a) : Fits ks n v := by
  induction h with
  | refl => exact hf
  | step _ h ih => exact ih.kid ((mem_kids hn).mpr h)
/-- what is under another stands there in one stretch -/
theorem Under.part {n : Nat} {a v : Str} (hn : (ks.map (·.1)).Nodup) (h : Under ks a v) (hf : Fits ks n a) : ∃ A B, leafF ks n a = A ++ leafF ks n v ++ B := by
  induction h with
  | refl => exact ⟨[], [], by simp⟩
  | @step w c h1 h2 ih =>
    obtain ⟨A, B, e⟩ := ih
    have hw := h1.fits hn hf
    have hwn : w ∈ ks.map (·.1) := by obtain ⟨xs, q, _⟩ := h2; exact List.mem_map_of_mem (f := (·.1)) q
    obtain ⟨K1, K2, ek⟩ := List.append_of_mem ((mem_kids hn).mpr h2)
    rw [leaf_knot hw hwn, ek, List.flatMap_append, List.flatMap_cons] at e
    exact ⟨A ++ K1.flatMap (leafF ks n), K2.flatMap (leafF ks n) ++ B, by rw [e]; simp only [List.append_assoc]⟩
theorem Up.under {u : Str} {p : List Str} (h : Up ks u p) : ∀ x ∈ p, Under ks x u := by
  induction h with
  | top => intro x hx; cases List.mem_singleton.mp hx; exact .refl
  | step h1 h2 h3 ih =>
    intro x hx
    rcases List.mem_append.mp hx with q | q
    · exact .step (ih x q) h2
    · cases List.mem_singleton.mp q; exact .refl
end
/-! places of a stretch -/
end L3
/-! L3zx: repr of data in which small dicts stand -/
namespace L3
open PySem L2 PySem.Spec PyProof.Rows
mutual
inductive Dq (K : PySem.W.Frag) (H : Hp) : V → PyData → Prop
  | fl {v : V} {d : PyData} : FlR v d → Dq K H v d
  | lst {a : Addr} {vs : List V} {ds : List PyData} : SqL K H a vs → Dqs K H vs ds → Dq K H (.ref a) (.list ds)
  | tup {a : Addr} {vs : List V} {ds : List PyData} : SqT K H a vs → Dqs K H vs ds → Dq K H (.ref a) (.tuple ds)
  | dk0 {a : Addr} : H a = some (.dK []) → Dq K H (.ref a) (.dict [])
  | dk1 {a : Addr} {x : Str} {v : V} {d : PyData} : H a = some (.dK [(.inr x, v)]) → FlR v d → Dq K H (.ref a) (.dict [(.str x, d)])
  | dki {a : Addr} {x : Int} {v : V} {d : PyData} : H a = some (.dK [(.inl x, v)]) → FlR v d → Dq K H (.ref a) (.dict [(.int x, d)])
inductive Dqs (K : PySem.W.Frag) (H : Hp) : List V → List PyData → Prop
  | nil : Dqs K H [] []
  | cons {v : V} {vs : List V} {d : PyData} {ds : List PyData} : Dq K H v d → Dqs K H vs ds → Dqs K H (v :: vs) (d :: ds)
end
section
variable {X : Cx} {pins : List (Addr × Obj)} {σ : L2.St} {H : Hp} {s : Shared}
theorem flat_reads {v : V} {u : Value} {d : PyData} (h : FlR v d) (r : RelV v u) : Reads s.heap u d [] := by
  cases h with
  | non => cases (show u = Value.none from r); exact .none
  | bl b => cases (show u = Value.bool b from r); exact .bool b
  | int i => obtain ⟨t, rfl⟩ := r; exact .int i t
  | str x => obtain ⟨t, rfl⟩ := r; exact .str x t
/-- a dict of no or one text key, as it lies in the heap -/
theorem dk0_at (I : Inv X pins σ H s) {a : Addr} (h : H a = some (.dK [])) : (a == sysModules) = false ∧ ∃ o es n, s.heap.get? a = some o ∧ o.cls = .type "dict" ∧ o.data = .dict es n ∧ es.toList = [] := by
  obtain ⟨_, h1, vs, r, o, es, n, h2, h3, h4, _, h6, _⟩ := dk_of I.hok h
  cases r
  cases hes : es.toList with
  | nil => exact ⟨h1, o, es, n, h2, h3.1, h4, hes⟩
  | cons a b => rw [hes] at h6; cases h6
theorem dk1_at (I : Inv X pins σ H s) {a : Addr} {x : Str} {v : V} (h : H a = some (.dK [(.inr x, v)])) : (a == sysModules) = false ∧ ∃ o es n e t, s.heap.get? a = some o ∧ o.cls = .type "dict" ∧ o.data = .dict es n ∧ es.toList = [e] ∧ e.key = .str x t ∧ RelV v e.val := by
  obtain ⟨_, h1, vs, r, o, es, n, h2, h3, h4, _, h6, _⟩ := dk_of I.hok h
  cases r with
  | @cons p0 q p1 q1 r1 r2 =>
    cases r2
    cases hes : es.toList with
    | nil => rw [hes] at h6; cases h6
    | cons e b =>
      rw [hes] at h6
      cases h6 with
      | cons k1 k2 k3 =>
        cases k3
        have ek : q.1 = .inr x := r1.1.symm
        rw [ek] at k1
        rcases keyIs_shape (show keyIs (.inr x) e.key = true from k1) with ⟨i, t, e2, _⟩ | ⟨y, t, e2, e1⟩
        · cases e2
        · cases e2
          exact ⟨h1, o, es, n, e, t, h2, h3.1, h4, hes, e1, by rw [k2]; exact r1.2⟩
theorem dki_at (I : Inv X pins σ H s) {a : Addr} {x : Int} {v : V} (h : H a = some (.dK [(.inl x, v)])) : (a == sysModules) = false ∧ ∃ o es n e t, s.heap.get? a = some o ∧ o.cls = .type "dict" ∧ o.data = .dict es n ∧ es.toList = [e] ∧ e.key = .int x t ∧ RelV v e.val := by
  obtain ⟨_, h1, vs, r, o, es, n, h2, h3, h4, _, h6, _⟩ := dk_of I.hok h
  cases r with
  | @cons p0 q p1 q1 r1 r2 =>
    cases r2
    cases hes : es.toList with
    | nil => rw [hes] at h6; cases h6
    | cons e b =>
      rw [hes] at h6
      cases h6 with
      | cons k1 k2 k3 =>
        cases k3
        have ek : q.1 = .inl x := r1.1.symm
        rw [ek] at k1
        rcases keyIs_shape (show keyIs (.inl x) e.key = true from k1) with ⟨i, t, e2, e1⟩ | ⟨y, t, e2, _⟩
        · cases e2
          exact ⟨h1, o, es, n, e, t, h2, h3.1, h4, hes, e1, by rw [k2]; exact r1.2⟩
        · cases e2
mutual
theorem Dq.reads (I : Inv X pins σ H s) : ∀ (d : PyData) (v : V) (u : Value), Dq X.K H v d → RelV v u → ∃ bs, Reads s.heap u d bs
  | d, _, u, h, r => by
    cases h with
    | fl h => exact ⟨_, flat_reads h r⟩
    | lst h1 h2 =>
      cases (show u = _ from r)
      obtain ⟨ys, ry, ⟨ob, k, g1, g2, _, g3⟩, _⟩ := I.list h1
      obtain ⟨bs, q⟩ := Dqs.reads I _ _ ys h2 ry
      exact ⟨_, .list g1 g2 g3 q⟩
    | tup h1 h2 =>
      cases (show u = _ from r)
      obtain ⟨ys, ry, ⟨ob, g1, g2, k, g3⟩, _⟩ := I.tuple h1
      obtain ⟨bs, q⟩ := Dqs.reads I _ _ ys h2 ry
      exact ⟨_, .tuple g1 g2 g3 q⟩
    | dk0 h1 =>
      cases (show u = _ from r)
      obtain ⟨_, ob, es, k, g1, g2, g3, g4⟩ := dk0_at I h1
      exact ⟨_, .dict (kvs := []) g1 g2 g3 (by rw [g4]; exact .nil) (by rw [g4]; exact .nil)⟩
    | @dk1 a x v d h1 h2 =>
      cases (show u = _ from r)
      obtain ⟨_, ob, es, k, e, t, g1, g2, g3, g4, g5, g6⟩ := dk1_at I h1
      exact ⟨_, .dict (kvs := [(.str x, d)]) g1 g2 g3 (by rw [g4]; show ReadsAll _ [e.key] _ _; rw [g5]; exact .cons (.str x t) .nil) (by rw [g4]; exact .cons (flat_reads h2 g6) .nil)⟩
    | @dki a x v d h1 h2 =>
      cases (show u = _ from r)
      obtain ⟨_, ob, es, k, e, t, g1, g2, g3, g4, g5, g6⟩ := dki_at I h1
      exact ⟨_, .dict (kvs := [(.int x, d)]) g1 g2 g3 (by rw [g4]; show ReadsAll _ [e.key] _ _; rw [g5]; exact .cons (.int x t) .nil) (by rw [g4]; exact .cons (flat_reads h2 g6) .nil)⟩
termination_by d => sizeOf d
theorem Dqs.reads (I : Inv X pins σ H s) : ∀ (ds : List PyData) (vs : List V) (us : List Value), Dqs X.K H vs ds → Vals vs us → ∃ bs, ReadsAll s.heap us ds bs
  | [], _, _, h, r => by cases h; cases r; exact ⟨_, .nil⟩
  | d :: ds, _, _, h, r => by
    cases h with
    | cons h1 h2 =>
      cases r with
      | cons r1 r2 =>
        obtain ⟨bs, q1⟩ := Dq.reads I d _ _ h1 r1
        obtain ⟨cs, q2⟩ := Dqs.reads I ds _ _ h2 r2
        exact ⟨_, .cons q1 q2⟩
termination_by ds => sizeOf ds
end
end
/-! sizes -/
def briefF (d : PyData) : Bool := match d with | .none | .bool _ | .int _ | .str _ => brief d | _ => false
def keyOkQ : PyData → Bool
  | .str x => PyData.strOk x
  | .int i => brief (.int i)
  | _ => false
def briefK : List (PyData × PyData) → Bool
  | [] => true
  | p :: r => match r with
    | [] => keyOkQ p.1 && briefF p.2
    | _ :: _ => false
def wtK : List (PyData × PyData) → Nat
  | [] => 2
  | p :: _ => (match p.1 with | .str x => 10 * x.length + 8 | .int i => wt (.int i) + 8 | _ => 0) + wt p.2
mutual
def briefQ : PyData → Bool
  | .list xs | .tuple xs => briefQs xs
  | .dict kvs => briefK kvs
  | .none => true
  | .bool _ => true
  | .int i => brief (.int i)
  | .str x => brief (.str x)
def briefQs : List PyData → Bool
  | [] => true
  | x :: xs => briefQ x && briefQs xs
end
mutual
def wtQ : PyData → Nat
  | .list xs | .tuple xs => 3 + wtQs xs
  | .dict kvs => wtK kvs
  | .none => 5
  | .bool _ => 5
  | .int i => wt (.int i)
  | .str x => wt (.str x)
def wtQs : List PyData → Nat
  | [] => 0
  | x :: xs => wtQ x + 2 + wtQs xs
end
end L3
/-! L3zy: texts walked sign by sign, chained comparisons, a dict display as data -/
namespace L3
open PySem L2
def rInSg : R2 := fun x y H Q => ∃ (c : Nat) (z : Str), x = .str ⟨#[c]⟩ ∧ y = .str z ∧ Q (.bl (decide (c ∈ z.cps.toList))) H
theorem u_inSg {X : Cx} : OpR X (compareOp .In) rInSg := op_in_sign
section
variable {K : PySem.W.Frag} {m m' : List Addr} {B B' H H' : Hp} {l : List O} {ρ : List (Option D)} {R : D → List O → Prop} {te tl ta tb tc : TE} {tt : TT} {t : TS} {g : TG} {E : E3}
theorem i_str {R : (List O → Prop) → Nat → (Nat → D) → List O → Prop} (h : EvS K tl ρ l fun x l1 => ∃ s : Str, x = .f (.str s) ∧ R (fun _ => True) s.cps.size (fun i => .f (.str ⟨#[s.cps.getD i 0]⟩)) l1) : EvI K (iStr tl) ρ l R := fun m B H σ S e Rt q => by
  refine h m B H σ S e _ fun v m1 B1 H1 x l1 s1 S1 r1 ⟨s, ex, z⟩ => ?_
  subst ex
  refine ⟨s, str_of r1, q (Its s) m1 B1 H1 l1 (fun _ => True) s.cps.size _ s1 S1 (fun i m' B' H' l' hs hp S' _ => ⟨fun hi => ⟨hi, fun y H' ⟨eH, c, hc, ev⟩ => ?_⟩, fun hi => by subst hi; exact Nat.le_refl _⟩) z⟩
  subst eH ev
  refine ⟨B', Step.refl _ _ _, S', ?_⟩
  show FR K B' (.str ⟨#[c]⟩) (.str ⟨#[s.cps.getD i 0]⟩)
  have e2 : s.cps.getD i 0 = c := by
    obtain ⟨hi2, he⟩ := Array.getElem?_eq_some_iff.mp hc
    simp [Array.getD, hi2, he]
  rw [e2]
  exact .str _
def signs (s : Str) : List PyData := s.cps.toList.map fun c => .str ⟨#[c]⟩
theorem signs_len (s : Str) : (signs s).length = s.cps.size := by unfold signs; rw [List.length_map, Array.length_toList]
/-- a pure comprehension over a text -/
theorem e_lcS {vs : List Nat} (F : PyData → Option PyData) (hg : GG g vs) (h : EvS K tl ρ l fun x l1 => ∃ s : Str, x = .f (.str s) ∧ s.cps.size ≤ 100000 ∧
      (∀ c, c ∈ s.cps.toList → AsS K g (.f (.str ⟨#[c]⟩)) (wipe3 ρ vs) l1 fun ρ2 l2 => EvT K tt ρ2 l2 fun b l3 => if b = true then EvS K te ρ2 l3 fun z l4 => ∃ y, z = .f y ∧ F (.str ⟨#[c]⟩) = some y ∧ l4 = l1 else F (.str ⟨#[c]⟩) = none ∧ l3 = l1) ∧
      R (.own l1.length) (l1 ++ [.lst ((signs s).filterMap F)])) : EvS K (tLc (iStr tl) g tt te vs) ρ l R := by
  refine e_lc (good_of hg) (i_str (h.imp fun x l1 ⟨s, hx, hl, hs, hd⟩ => ⟨s, hx, fun i acc l' => l' = l1 ∧ acc = ((signs s).take i).filterMap F, ⟨rfl, by simp⟩, ?_, ?_, ?_⟩))
  · rintro i acc l' hi ⟨rfl, rfl⟩
    refine ⟨trivial, Nat.le_trans (List.length_filterMap_le _ _) ?_⟩
    rw [List.length_take]; omega
  · rintro i acc l' hi ⟨rfl, rfl⟩
    have hc : s.cps.toList[i]? = some (s.cps.getD i 0) := by simp [Array.getD, hi]
    have hd2 : (signs s)[i]? = some (.str ⟨#[s.cps.getD i 0]⟩) := by unfold signs; rw [List.getElem?_map, hc]; rfl
    refine (hs _ (List.mem_of_getElem? hc)).imp fun ρ2 l2 h2 => h2.imp fun b l3 z => ?_
    cases b with
    | true =>
      rw [if_pos rfl] at z ⊢
      refine z.imp fun w l4 ⟨y, e1, e2, e3⟩ => ⟨y, e1, e3, ?_⟩
      rw [take_next hd2, List.filterMap_append, List.filterMap_cons, e2]
      rfl
    | false =>
      rw [if_neg (by decide)] at z ⊢
      refine ⟨z.2, ?_⟩
      rw [take_next hd2, List.filterMap_append, List.filterMap_cons, z.1]
      simp
  · rintro acc l' ⟨rfl, rfl⟩
    rw [← signs_len, List.take_length]
    exact hd
theorem e_chain {r r' : R2} (h : EvS K ta ρ l fun x l1 => EvS K tb ρ l1 fun y l2 => OpS K r x y l2 fun z l3 => ∃ b, z = .f (.bool b) ∧ if b = true then EvS K tc ρ l3 fun w l4 => OpS K r' y w l4 R else R (.f (.bool false)) l3) : EvS K (tChain r r' ta tb tc) ρ l R := fun m B H σ S e Q q => by
  refine h m B H σ S e _ fun vx m1 B1 H1 x l1 s1 S1 r1 z1 => ?_
  refine z1 m1 B1 H1 σ S1 (e.step s1) _ fun vy m2 B2 H2 y l2 s2 S2 r2 z2 => ?_
  refine z2 m2 B2 H2 vx vy S2 (r1.step s2) r2 _ fun vz m3 B3 H3 z l3 s3 S3 r3 ⟨b, ez, z3⟩ => ?_
  subst ez
  cases r3
  refine ⟨b, rfl, ?_⟩
  cases b with
  | true =>
    rw [if_pos rfl] at z3 ⊢
    refine z3 m3 B3 H3 σ S3 (e.step ((s1.trans s2).trans s3)) _ fun vw m4 B4 H4 w l4 s4 S4 r4 z4 => ?_
    exact z4 m4 B4 H4 vy vw S4 (r2.step (s3.trans s4)) r4 Q (q.step (((s1.trans s2).trans s3).trans s4))
  | false =>
    rw [if_neg (by decide)] at z3 ⊢
    exact q _ m3 B3 H3 (.f (.bool false)) l3 ((s1.trans s2).trans s3) S3 (FR.bl false) z3
/-- one sign in a text -/
theorem o_inSg {c : Nat} {z : Str} (r : R (.f (.bool (decide (c ∈ z.cps.toList)))) l) : OpS K rInSg (.f (.str ⟨#[c]⟩)) (.f (.str z)) l R := fun m B H vx vy S r1 r2 Q q =>
  ⟨c, z, str_of r1, str_of r2, retF S q (FR.bl _) r⟩
end
end L3
/-! L3zz: how many unlike texts a list has: len(set(xs)) -/
namespace L3
open PySem L2 PySem.Spec PyProof.Rows
theorem once_take {xs : List Str} {i : Nat} {x : Str} (h : xs[i]? = some x) : onceL (xs.take (i + 1)) = addOnce (onceL (xs.take i)) x := by
  rw [take_snoc h, onceL_snoc]
section
variable {prog : Program} {w : World} {A : Around} {R : Result → Shared → Prop} {it : Addr} {fp wr : List Addr} {G : Array GenState → Array GenState → Prop} {n : Nat} {P : Nat → Value → Prop} {St : Nat → Shared → Prop}
/-- a set of texts so far: of the first i -/
def Seen (prog : Program) (w : World) (h : Heap) (a : Addr) (xs : List Str) (i : Nat) : Prop := h.SetOf (strKind prog w) a (fun y => decide (y ∈ xs.take i)) (onceL (xs.take i)).length
theorem Seen.at_ {h h' : Heap} {a : Addr} {xs : List Str} {i : Nat} (q : Seen prog w h a xs i) (k : ∀ o, h.get? a = some o → h'.get? a = some o) : Seen prog w h' a xs i :=
  let ⟨o, es, ep, t, e, r⟩ := q; ⟨o, es, ep, t, k o e, r⟩
theorem loop_txt (W : WalksS prog w A.in1 it fp wr G n P St) (a : Addr) (off : a ∉ fp) (xs : List Str) (hn : xs.length = n) (hb : n + 1 < scanBound) (hval : ∀ i v, P i v → ∃ t, v = .str (xs.getD i Str.empty) t) :
    ∀ (k i : Nat) (s : Shared), n - i = k → i ≤ n → St i s → Seen prog w s.heap a xs i → (∀ s', Moved (a :: wr) G s s' → Seen prog w s'.heap a xs n → R (.ok (.ret .none)) s') →
      codeAny (model prog w) A (.builtin "set.update.loop" ⟨[.ref a, .ref it], []⟩) R s := by
  have offw : a ∉ wr := fun h => off (W.sub _ h)
  have more : ∀ b ∈ wr, b ∈ a :: wr := fun _ h => List.mem_cons.mpr (.inr h)
  intro k
  induction k with
  | zero =>
    intro i s e1 e2 st sn fin
    obtain rfl : i = n := by omega
    refine codeAny_builtin F.entry_set_update_loop ?_
    rw [Around.under_plainId F.plain_set_update_loop]
    show wpAny _ A.in1 (pyNext (.ref it) >>= _) _ _ _
    refine wpAny_bind (W.done s _ _ st fun s1 mv => ?_)
    show wpAny _ _ (ret Value.none) _ _ s1
    exact wpAny_pure (fin s1 (mv.mono more) (sn.at_ fun o q => mv.heap a o offw q))
  | succ k ih =>
    intro i s e1 e2 st sn fin
    have lt : i < n := by omega
    have hx : xs[i]? = some (xs.getD i Str.empty) := by rw [List.getD_eq_getElem?_getD, List.getElem?_eq_getElem (by omega)]; rfl
    refine codeAny_builtin F.entry_set_update_loop ?_
    rw [Around.under_plainId F.plain_set_update_loop]
    show wpAny _ A.in1 (pyNext (.ref it) >>= _) _ _ _
    refine wpAny_bind (W.item i s _ _ lt st fun v s1 hv st1 mv => ?_)
    obtain ⟨t, rfl⟩ := hval i v hv
    have sn1 := sn.at_ fun o q => mv.heap a o offw q
    generalize xs.getD i Str.empty = x at hx
    have few : (onceL (xs.take i)).length ≤ i := Nat.le_trans (onceL_len _) (by rw [List.length_take]; omega)
    show wpAny _ A.in1 (holding [Value.str x t] (setAdd a (.str x t)) >>= _) _ _ s1
    refine wpAny_bind (wpAny_holding ?_)
    unfold setAdd
    refine wpAny_holding (wpAny_bind ((strKind prog w).pyHash (k := x) (strKind_is _ _ _ _) ?_))
    refine wpAny_setAddHashed_of (s := { s1 with toks := s1.toks + 1 }) (strKind_is prog w x t) rfl sn1 (by omega) fun h2 sb s2 => ?_
    have sn2 : Seen prog w h2 a xs (i + 1) := by
      refine SetOf_congr s2 (fun y => ?_) ?_
      · show (decide (y ∈ xs.take i) || decide (y = x)) = decide (y ∈ xs.take (i + 1))
        rw [take_snoc hx, ← Bool.decide_or]
        exact decide_eq_decide.mpr (by simp)
      · rw [once_take hx]
        unfold addOnce
        by_cases hm : x ∈ xs.take i
        · rw [if_pos (decide_eq_true hm), if_pos (mem_onceL.mpr hm)]
        · rw [if_neg (by rw [decide_eq_false hm]; decide), if_neg fun q => hm (mem_onceL.mp q), List.length_append]
          rfl
    refine wpAny_pure ⟨plainId_quiet F.plain_set_update_loop _, ih (i + 1) _ (by omega) lt (W.frame _ s1 _ _ st1 (Nat.le_succ _) fun b hm o q => ?_) sn2 fun s3 mv3 sn3 => ?_⟩
    · rw [sb.2 b fun z => off (z ▸ hm)]
      exact q
    · refine fin s3 (Moved.trans W.gtrans ((mv.mono more).then_heap (Nat.le_succ _) fun b o hm q => ?_) mv3) sn3
      rw [sb.2 b fun z => hm (z ▸ List.mem_cons_self)]
      exact q
end
section
variable {prog : Program} {w : World} {A : Around} {E : Value → Shared → Prop} {s : Shared}
def freshSet (led : Bool) : Obj := { cls := .type "set", dict := none, data := .set #[] 0 (.fresh 0 0 led) }
set_option maxHeartbeats 3200000 in
theorem set_of_list {l : Addr} {items : Array Value} {xs : List Str} {Q : Value → Shared → Prop} (calm : A.handled = none) (hl : s.heap.IsList l items) (hi : StrsAre items.toList xs) (hb : xs.length + 1 < scanBound)
    (fin : ∀ (h' : Heap) (tk : Nat), Seen prog w h' s.heap.objs.size xs xs.length → (∀ b o, b < s.heap.objs.size → s.heap.get? b = some o → h'.get? b = some o) → Q (.ref s.heap.objs.size) { s with heap := h', toks := tk }) :
    wpAny (model prog w) A (call (.type "set") [.ref l]) Q E s := by
  obtain ⟨mc, mt, hmro⟩ := PySem.F.called_set.mro
  have d1 := PySem.F.called_set.made
  have d2 := PySem.F.called_set.sub
  refine wpAny_call (codeAny_of_tree ?_)
  show wpAny _ _ (callAny (.type "set") _) _ _ s
  refine wpAny_pure ⟨Code.quiet_builtin _ (by decide +kernel), codeAny_builtin PySem.F.entry_type_call ?_⟩
  rw [Around.under_plain (weight_type_call_type "set" [.ref l] []) rfl]
  have d3 := PySem.F.called_set.notType
  have d4 := PySem.F.called_set.canCreate
  have d5 := PySem.F.typeCall_set_1 (.ref l)
  repeat (any_goals (first | assumption | wp_step))
  refine codeAny_mono (code_set_new_1 (.ref l) (E := E) (Q₁ := fun y s1 => ∃ led : Bool, y = .ref s.heap.objs.size ∧ s1 = { s with heap := s.heap.push (freshSet led) }) fun led => ⟨led, rfl, rfl⟩) fun r s1 hr => ?_
  cases r with
  | error e => exact hr
  | ok fl =>
    cases fl with
    | ret y =>
      obtain ⟨led, rfl, rfl⟩ := hr
      have gS : (s.heap.push (freshSet led)).get? s.heap.objs.size = some (freshSet led) := Heap.get?_push_size _ rfl
      have tS : Shared.TypeIs { s with heap := s.heap.push (freshSet led) } (.ref s.heap.objs.size) "set" := ⟨_, gS, rfl⟩
      have d6 := PySem.F.called_set.init.lookup
      have d7 := PySem.F.called_set.init.bind (.ref s.heap.objs.size)
      repeat (any_goals (first | assumption | wp_step))
      refine codeAny_mono (codeAny_call_builtin (R := wants (fun r s2 => r = .none ∧ ∃ h' tk, s2 = { s with heap := h', toks := tk } ∧ Seen prog w h' s.heap.objs.size xs xs.length ∧ ∀ b o, b < s.heap.objs.size → s.heap.get? b = some o → h'.get? b = some o) E)
        PySem.F.called_set.init.plain PySem.F.entry_set_init (check_set_init_1 tS ?_)) fun r2 s2 hr2 => ?_
      · have sz : xs.length = items.size := by rw [← StrsAre.len_eq hi, Array.length_toList]
        obtain ⟨ob, hob, hcl, nl, hdl⟩ := hl
        obtain ⟨cls, dc, data, sl⟩ := ob
        have hcl : cls = .type "list" := hcl
        have hdl : data = .seq items nl := hdl
        subst hcl hdl
        have lt : l < s.heap.objs.size := Heap.lt_size hob
        have hob1 : (s.heap.push (freshSet led)).get? l = some { cls := .type "list", dict := dc, data := .seq items nl, slots := sl } := Heap.get?_push_of_some _ hob
        have u1 := PySem.F.sub_list_set
        have u2 := PySem.F.sub_list_frozenset
        have u3 : (Value.type "list" == Value.type "dict") = false := by decide
        have il : (s.heap.push (freshSet led)).IsList l items := ⟨_, hob1, rfl, nl, rfl⟩
        unfold Builtin.«set.__init__» noKeywords Builtin.Frozenset.updateFrom
        generalize hp : pyIter = py
        wp_walk
        subst hp
        refine wpAny_pyIter_list il (wpAny_bind (wpAny_runValue ?_))
        have calm3 : A.in1.in1.in1.handled = none := by simp [calm]
        have ps : (s.heap.push (freshSet led)).objs.size = s.heap.objs.size + 1 := Heap.size_push ..
        have n1 : l ≠ (s.heap.push (freshSet led)).objs.size := by
          rw [ps]; exact Nat.ne_of_lt (Nat.lt_succ_of_lt lt)
        have n2 : s.heap.objs.size ∉ [(s.heap.push (freshSet led)).objs.size, l] := by
          rw [ps]
          simp only [List.mem_cons, List.not_mem_nil, or_false, not_or]
          exact ⟨Nat.ne_of_lt (Nat.lt_succ_self _), Nat.ne_of_gt lt⟩
        have g2 : ((s.heap.push (freshSet led)).push { cls := .type "list_iterator", data := .fields #[.ref l, .int 0 0] }).get? s.heap.objs.size = some (freshSet led) := Heap.get?_push_of_some _ gS
        refine loop_txt ((Walks.list calm3 _ l n1 items).toS) s.heap.objs.size n2 xs sz (by omega) (fun i v hv => SS.strs_at hi i v (by rw [Array.getElem?_toList]; exact hv)) (items.size - 0) 0 _ rfl (Nat.zero_le _)
          ⟨⟨_, Heap.get?_push_size _ rfl, rfl, rfl⟩, il.push _⟩ (SetOf_congr ((setObjOf_fresh (knd := strKind prog w) led).setOf g2 (by unfold scanBound; omega)) (fun _ => rfl) rfl) fun s3 mv sn => ?_
        obtain ⟨h3, gs3, dr3, tk3, os3⟩ := s3
        have m1 : gs3 = s.gens := mv.gens
        have m2 : dr3 = s.drawn := mv.drawn
        have m3 : os3 = s.os := mv.os
        subst m1 m2 m3
        show wpAny _ _ _ _ _ _
        refine wpAny_pure ?_
        show wpAny _ _ (ret Value.none) _ _ _
        rw [← sz] at sn
        refine wpAny_pure ⟨rfl, h3, tk3, rfl, sn, fun b o hb e => mv.heap b o ?_ (Heap.get?_push_of_some _ (Heap.get?_push_of_some _ e))⟩
        rw [ps]
        simp only [List.mem_cons, List.not_mem_nil, or_false, not_or]
        exact ⟨Nat.ne_of_lt hb, Nat.ne_of_lt (Nat.lt_succ_of_lt hb)⟩
      · cases r2 with
        | error e => exact hr2
        | ok fl2 =>
          cases fl2 with
          | ret r =>
            obtain ⟨rfl, h3, tk3, rfl, sn, kp⟩ := hr2
            repeat (any_goals (first | assumption | wp_step))
            exact fin _ _ sn kp
          | _ => exact hr2.elim
    | _ => exact hr.elim
end
section
variable {X : Cx}
/-- len(set(xs)) -/
def tLenSetT (K : PySem.W.Frag) (ta : TE) : TE := fun σ H Q => ta σ H fun x H1 => ∃ l, ∃ xs : List Str, x = .ref l ∧ SqL K H1 l (xs.map V.str) ∧ xs.length ≤ 4000 ∧ Q (.int (onceL xs).length) H1
theorem strs_of_vals : ∀ {xs : List Str} {us : List Value}, Vals (xs.map V.str) us → StrsAre us xs
  | [], _, .nil => .nil
  | x :: xs, _, .cons r t => by
    obtain ⟨k, rfl⟩ := r
    exact .cons x k (strs_of_vals t)
theorem pe_lenSetT {K : PySem.W.Frag} (hK : X.K = K) {a : Expr} {ta : TE} {p p2 q pos : Pos} (calm : X.calm = true) (g1 : Gl X "len") (m1 : X.mg "len" = none) (g2 : Gl X "set") (m2 : X.mg "set" = none) (ha : PE X a ta)
    (na : starEach [a] X.env = (false, eval a X.env) :: starEach [] X.env := by rfl) : PE X (.Call (.Name "len" p) [.Call (.Name "set" p2) [a] [] q] [] pos) (tLenSetT K ta) := by
  subst hK
  refine ⟨fun pins s σ H Q I h => Call_ (ld_blt I g1 m1 boot_len ?_)⟩
  refine callWith_builtin1 (args_cons ?_ rfl) rfl rfl
  refine Call_ (ld_blt I g2 m2 boot_set (callWith_type1 (args_cons (thn (ha.run pins s σ H _ I h) fun v s1 ⟨x, H1, I1, r1, q1⟩ => args_nil ?_) na) na rfl))
  obtain ⟨l, xs, ex, hq, hl, q1⟩ := q1
  subst ex
  cases r1
  obtain ⟨its, rv, pl, hz⟩ := I1.list hq
  refine set_of_list (I1.ok.hd calm) pl.isList (by simpa using strs_of_vals rv) (by unfold scanBound; omega) fun h2 tk sn kp => ?_
  refine args_nil ?_
  obtain ⟨o, es, ep, t, ho, hex, hd, _, _, _, hf, hn⟩ := sn
  rw [List.take_length] at hn
  have I2 : Inv X pins σ H1 { s1 with heap := h2, toks := tk } := I1.kept fun b o e => kp b o (Heap.lt_size e) e
  have few := onceL_len xs
  exact call_len_set ho hex hd hf (by rw [hn]; omega) ⟨.int (onceL xs).length, H1, I2.tok _, ⟨_, by rw [hn]⟩, q1⟩
end
section
variable {K : PySem.W.Frag} {l : List O} {ρ : List (Option D)} {R : D → List O → Prop} {ta : TE}
theorem e_lenSet (h : EvS K ta ρ l fun x l1 => ∃ xs : List Str, IsL l1 x (sPy xs) ∧ xs.length ≤ 4000 ∧ R (.f (.int (onceL xs).length)) l1) : EvS K (tLenSetT K ta) ρ l R := fun m B H σ S e Q q => by
  refine h m B H σ S e _ fun v m1 B1 H1 x l1 s1 S1 r1 ⟨xs, hx, hl, z⟩ => ?_
  obtain ⟨a, us, rfl, e2, pr⟩ := hx.at S1 r1
  have eu := frs_str pr
  subst eu
  exact ⟨a, xs, rfl, SqL.of e2, hl, q _ m1 B1 H1 (.f (.int (onceL xs).length)) l1 s1 S1 (FR.int _) z⟩
end
theorem onceL_full {xs : List Str} : (onceL xs).length = xs.length ↔ xs.Nodup := by
  have go : ∀ (n : Nat) (xs : List Str), xs.length = n → (onceL xs).length = xs.length → xs.Nodup := by
    intro n
    induction n with
    | zero => intro xs h _; rw [List.length_eq_zero_iff.mp h]; exact List.nodup_nil
    | succ n ih =>
      intro xs h e
      rcases List.eq_nil_or_concat xs with rfl | ⟨ys, x, rfl⟩
      · cases h
      · rw [List.concat_eq_append] at *
        rw [List.length_append, List.length_singleton] at h e
        rw [onceL_snoc] at e
        have hl := onceL_len ys
        unfold addOnce at e
        by_cases hm : x ∈ onceL ys
        · rw [if_pos hm] at e; omega
        · rw [if_neg hm, List.length_append, List.length_singleton] at e
          have := ih ys (by omega) (by omega)
          rw [List.nodup_append]
          exact ⟨this, by simp, fun a ha b hb => by cases List.mem_singleton.mp hb; exact fun q => hm (mem_onceL.mpr (q ▸ ha))⟩
  refine ⟨go _ xs rfl, fun h => ?_⟩
  have h1 := onceL_len xs
  have h2 := nodup_le h fun x hx => mem_onceL.mpr hx
  omega
end L3
/-! L3zza: steps looked at: their ends, whether they go on, go round -/
namespace L3
open PySem L2
/-! going on, going round -/
def Linked (es : List Step3) : Prop := ∀ p ∈ es.zip es.tail, p.1.2.2 = p.2.2.1
structure GoOn (es : List Step3) : Prop where
  two : 2 ≤ es.length
  nd : (es.map (·.2.1)).Nodup
  knot : ∀ e ∈ es, ∀ f ∈ es, e.1 = f.1
  link : Linked es
/-! ways have unlike things -/
theorem WaysOk.nodup {ts : List Str} {es : Ties} {one : Str} {Q : Ways} (W : WaysOk ts es one false Q) : ∀ (n : Nat) (p : List Str), p.length = n → p ∈ Q → p.Nodup ∧ ∀ v ∈ p, ∃ s, v :: s ∈ Q ∧ (v :: s).length ≤ n
  | 0, p, h, hp => by
    obtain ⟨c, r, rfl⟩ := W.ne hp
    simp at h
  | n + 1, p, h, hp => by
    obtain ⟨x, r, rfl⟩ := W.ne hp
    have me : ∃ s, x :: s ∈ Q ∧ (x :: s).length ≤ n + 1 := ⟨r, hp, by omega⟩
    by_cases hx : x = one
    · subst hx
      have e0 : r = [] := by
        have e := W.uniq hp (List.mem_of_getElem? (W.ok.choose_spec.1.root)) rfl
        exact (List.cons.inj e).2
      subst e0
      exact ⟨by simp, fun v hv => by cases List.mem_singleton.mp hv; exact me⟩
    · obtain ⟨y, r', e1, hy, _⟩ := W.up hp hx
      subst e1
      obtain ⟨i1, i2⟩ := WaysOk.nodup W n (y :: r') (by simpa using h) hy
      refine ⟨List.nodup_cons.mpr ⟨fun hm => ?_, i1⟩, fun v hv => ?_⟩
      · obtain ⟨s, hs, hl⟩ := i2 x hm
        have := W.uniq hs hp rfl
        rw [this] at hl
        omega
      · rcases List.mem_cons.mp hv with rfl | hv
        · exact me
        · obtain ⟨s, hs, hl⟩ := i2 v hv
          exact ⟨s, hs, by omega⟩
theorem GQ.nodup {ts M : List Str} {Q : Ways} (h : GQ ts M Q) : ∀ (i : Nat) (p : List Str), Q[i]? = some p → p.Nodup ∧ (∀ v ∈ p, ∃ (j : Nat) (s : List Str), j ≤ i ∧ Q[j]? = some (v :: s)) ∧ (∀ v ∈ p.dropLast, v ∉ M) ∧ (∃ m, p.getLast? = some m ∧ m ∈ M)
  | i, p, hp => by
    rcases h.row i p hp with ⟨x, rfl, hx⟩ | ⟨x, q, j, rfl, hj, hq, hx⟩
    · exact ⟨by simp, fun v hv => by cases List.mem_singleton.mp hv; exact ⟨i, [], Nat.le_refl _, hp⟩, nofun, x, rfl, hx⟩
    · obtain ⟨i1, i2, i3, m, i4, i5⟩ := GQ.nodup h j q hq
      obtain ⟨y, q', rfl⟩ := h.ne hq
      refine ⟨List.nodup_cons.mpr ⟨fun hm => ?_, i1⟩, fun v hv => ?_, fun v hv => ?_, m, by rw [List.getLast?_cons_cons]; exact i4, i5⟩
      · obtain ⟨n, s, hn, hs⟩ := i2 x hm
        have h1 := headsL_at hs
        have h2 := headsL_at hp
        have hl : n < (headsL Q).length := (List.getElem?_eq_some_iff.mp h1).1
        have : n = i := (List.getElem?_inj hl h.nd).mp (by rw [h1, h2]; rfl)
        omega
      · rcases List.mem_cons.mp hv with rfl | hv
        · exact ⟨i, y :: q', Nat.le_refl _, hp⟩
        · obtain ⟨n, s, hn, hs⟩ := i2 v hv
          exact ⟨n, s, by omega, hs⟩
      · rw [List.dropLast_cons_cons] at hv
        rcases List.mem_cons.mp hv with rfl | hv
        · exact hx
        · exact i3 v hv
termination_by i => i
end L3
/-! L3zzb: whole rings: what looks let by closes, what is told is let by -/
namespace L3
open PySem L2
theorem GoesS.trans {E : Ties} {a b c : Str} (h1 : GoesS E a b) (h2 : GoesS E b c) : GoesS E a c := by
  induction h2 with
  | refl => exact h1
  | tail _ q ih => exact .tail ih q
section
variable {ks : Knots} {us : List Str} {ts ws : Ties} {k : Str}
theorem GoOn.tail {f g : Step3} {r : List Step3} (h : GoOn (f :: g :: r)) : Linked (g :: r) ∧ f.2.2 = g.2.1 := by
  have := h.link
  refine ⟨fun p hp => this p (by simp only [List.tail_cons, List.zip_cons_cons]; exact List.mem_cons_of_mem _ (by simpa using hp)), this (f, g) (by simp)⟩
end
/-! a way through edges, as ends -/
/-- a way backward -/
def BackW (E : Ties) : List Str → Prop
  | x :: y :: r => (y, x) ∈ E ∧ BackW E (y :: r)
  | _ => True
theorem RW.back {ks : List Str} {E : Ties} {one : Str} {p : List Str} (h : RW (stepM ks E false) one p) : BackW E p ∧ p.getLast? = some one := by
  induction h with
  | base => exact ⟨trivial, rfl⟩
  | @step a b q h1 h2 ih =>
    have h2 : b ∈ nextsM ks E a := h2
    exact ⟨⟨(mem_nextsM.mp h2).2, ih.1⟩, by rw [List.getLast?_cons_cons]; exact ih.2⟩
/-! the search by groups, to its end -/
end L3
/-! L3zzc: x or y, by truth -/
namespace L3
open PySem L2
section
variable {K : PySem.W.Frag} {l : List O} {ρ : List (Option D)} {R : D → List O → Prop} {ta tb : TE}
/-- the truth of a value -/
inductive TruD (l : List O) : D → Bool → Prop
  | non : TruD l (.f .none) false
  | bl (b : Bool) : TruD l (.f (.bool b)) b
  | lst (ds : List PyData) : TruD l (.f (.list ds)) (!ds.isEmpty)
  | own {n : Nat} {ds : List PyData} (h : l[n]? = some (.lst ds)) : TruD l (.own n) (!ds.isEmpty)
theorem frs_empty {B : Hp} {xs : List V} {ds : List PyData} (h : FRs K B xs ds) : xs.isEmpty = ds.isEmpty := by
  cases h <;> rfl
theorem TruD.ok {m : List Addr} {B H : Hp} {x : D} {b : Bool} {v : V} (h : TruD l x b) (S : SR K m B H l) (r : VR K m B v x) : TruV K v H b := by
  cases h with
  | non => cases r; rfl
  | bl b => cases r; rfl
  | lst ds =>
    cases r with
    | lst h1 h2 => exact .inl ⟨_, SqL.of (S.sub _ _ h1), by rw [frs_empty h2]⟩
  | own hn =>
    obtain ⟨a, rfl, ha⟩ := r
    obtain ⟨⟨xs, e, q⟩, _⟩ := S.obj _ _ _ ha hn
    exact .inl ⟨_, SqL.of e, by rw [frs_empty q]⟩
end
end L3
/-! L3zzd: a caught exception stands among the tracked objects: try .. except C as n, isinstance, its fields -/
namespace L3
open PySem L2 PySem.Spec PyProof.Rows
end L3
/-! L3zze: isinstance of a tracked exception, with or without a dict of its own -/
namespace L3
open PySem PySem.Spec PySem.Calls PyProof.Rows PySem.W
end L3
namespace L3
open PySem L2 PySem.Spec PyProof.Rows
end L3
/-! L3zzf: what may raise: the judgements with what flies, raise, calls of defs that may raise, try .. except .. as n -/
namespace L3
open PySem L2 PySem.Spec PyProof.Rows
/-- what flies, as data -/
def Fly (K : PySem.W.Frag) (B : Hp) (cls : Value) (d : Option Addr) (e : PyData) : Prop :=
  ∃ (C : Addr) (x : Str) (ns : List Str) (vs : List V) (ds : List PyData), cls = .ref C ∧ e = exD x ns ds ∧ PySem.W.nsIn K mainGlobals x = some (some (.ref C)) ∧ XdOk B (ns.zip vs) d ∧ ns.length = vs.length ∧ FRs K B vs ds
abbrev RXT := PyData → List (Option D) → List O → Prop
/-- the wish W takes what flies as RX says -/
def XW (K : PySem.W.Frag) (m : List Addr) (B H : Hp) (W : WX) (RX : RXT) : Prop :=
  ∀ cls d e σ' ρ' m' B' H' l', Step m B H m' B' H' → SR K m' B' H' l' → ER K m' B' σ' ρ' → Fly K B' cls d e → RX e ρ' l' → W cls d σ' H'
/-- a def that may raise: arguments, what is wanted of the value, of what flies -/
abbrev SpecX := List D → (D → List O → Prop) → (PyData → Prop) → Prop
def PostX (K : PySem.W.Frag) (B H : Hp) (RX : PyData → Prop) (E : XK) : Prop := ∀ cls d e m' B' H', Step [] B H m' B' H' → SR K [] B' H' [] → Fly K B' cls d e → RX e → E cls d H'
def P3X (K : PySem.W.Frag) (S : SpecX) : Sp := fun vs H Q E => ∃ B ds R RX, SR K [] B H [] ∧ Paired (VR K [] B) vs ds ∧ S ds R RX ∧ Post K [] B H R Q ∧ PostX K B H RX E
section
variable {K : PySem.W.Frag} {m m' m2 : List Addr} {B B' B2 H H' H2 : Hp} {l : List O} {σ : L2.St} {ρ : List (Option D)} {R R' : D → List O → Prop} {E E' : E3} {ta tb te tc : TE} {tt tu : TT} {t u : TS} {ty tz : TA} {g : TG} {W : WX} {RX : RXT}
theorem XW.step (s : Step m B H m' B' H') (h : XW K m B H W RX) : XW K m' B' H' W RX := fun cls d e σ2 ρ2 m2 B2 H2 l2 s2 => h cls d e σ2 ρ2 m2 B2 H2 l2 (s.trans s2)
end
/-- the def at x keeps the promise S; it may raise -/
structure CalX (P : Program) (w : World) (K : PySem.W.Frag) (mg : Str → Option Value) (base : Heap) (k : Nat) (x : Str) (ps : List Str) (S : SpecX) : Prop where
  ex : ∃ a fd, mg x = some (.ref a) ∧ PySem.W.keepIn K (.ref a) = true ∧ Binds K fd ps [] ∧ FnG P w K mg base (L2.CX P w) k a fd ps (P3X K S)
section
variable {P : Program} {w : World} {K : PySem.W.Frag} {mg : Str → Option Value} {base : Heap}
theorem CalX.mono {j k : Nat} {x : Str} {ps : List Str} {S : SpecX} (C : CalX P w K mg base j x ps S) (h : j ≤ k) : CalX P w K mg base k x ps S := by
  obtain ⟨a, fd, h1, h2, h3, h4⟩ := C.ex
  exact ⟨a, fd, h1, h2, h3, h4.mono h⟩
end
/-! try -/
end L3
/-! L3zzg: classes by name, isinstance of what was caught, its field, raise, exceptions with an __init__ of their own -/
namespace L3
open PySem L2 PySem.Spec PyProof.Rows
abbrev NsC (K : PySem.W.Frag) (x : Str) (C : Addr) : Prop := PySem.W.nsIn K mainGlobals x = some (some (.ref C))
/-- the class x of the module -/
structure ClsAt (K : PySem.W.Frag) (mg : Str → Option Value) (x : Str) : Prop where
  ex : ∃ C, NsC K x C ∧ mg x = some (.ref C) ∧ PySem.W.keepIn K (.ref C) = true
/-! isinstance -/
section
variable {K : PySem.W.Frag} {m m' m2 : List Addr} {B B' B2 H H' H2 : Hp} {l : List O} {σ : L2.St} {ρ : List (Option D)} {R R' : D → List O → Prop} {E E' : E3} {ta tb te tc : TE} {tt tu : TT} {t u : TS} {ty tz : TA} {g : TG} {W : WX} {RX : RXT}
/-! raise -/
/-- a class without an __init__ of its own may be raised -/
structure CanRaise (K : PySem.W.Frag) (mg : Str → Option Value) (x : Str) : Prop where
  ex : ∃ (C : Addr) (bm : List Value) (B nI iI : String), NsC K x C ∧ mg x = some (.ref C) ∧ PySem.W.keepIn K (.ref C) = true ∧ ExcBaseFacts B nI iI bm ∧ PySem.W.excIn K C bm nI = true ∧ PySem.W.subIn K (.ref C) (.type "BaseException") = some true ∧ PySem.W.typeIn K (.ref C) = some (.type "type")
/-! an __init__ of its own: OrderError.__init__(self, text), self.f = e -/
end
end L3
/-! L3zzh: raise of an exception with a field; except clauses by name; __init__ by its body -/
namespace L3
open PySem L2 PySem.Spec PyProof.Rows
section
variable {K : PySem.W.Frag} {m m' m2 : List Addr} {B B' B2 H H' H2 : Hp} {l l2 : List O} {σ : L2.St} {ρ : List (Option D)} {R R' : D → List O → Prop} {E E' : E3} {ta tb te tc : TE} {tt tu : TT} {t u : TS} {ty tz : TA} {g : TG} {W : WX} {RX : RXT}
/-- what was aside is let go, and a dict of an exception stands -/
theorem SR.fields {a dx : Addr} {u : HO} {fs : List (Str × V)} {X1 X2 : HO} (S1 : SR K m B H l) (na : H a = none) (hu : ∀ xs, u ≠ .tup xs) (s2 : Step m B (upd H a u) m2 B2 H2) (S2 : SR K m2 B2 H2 l2) (ndx : H2 dx = none) (nda : dx ≠ a) :
    SR K m2 (upd B2 dx (.xd fs)) (upd (del (upd (upd H2 dx X1) a X2) a) dx (.xd fs)) l2 ∧ Step m B H m2 (upd B2 dx (.xd fs)) (upd (del (upd (upd H2 dx X1) a X2) a) dx (.xd fs)) ∧ H2 a = some u ∧ H dx = none := by
  have h1a : a ∉ m := S1.notin na
  have ha2 : H2 a = some u := s2.keep a u upd_same h1a
  have hBa : B2 a = none := s2.sep a ⟨by rw [upd_same]; simp, fun xs => by rw [upd_same]; intro h; exact hu xs (Option.some.inj h)⟩ (S1.bnone na) h1a
  have hBd : B2 dx = none := S2.bnone ndx
  have h2a : a ∉ m2 := fun h => by
    rcases s2.new a h with h | h
    · exact h1a h
    · rw [upd_same] at h; cases h
  have h2d : dx ∉ m2 := S2.notin ndx
  have hf : ∀ {b : Addr}, b ≠ a → b ≠ dx → (upd (del (upd (upd H2 dx X1) a X2) a) dx (.xd fs)) b = H2 b := fun {b} h1 h2 => by
    rw [upd_ne h2, del_ne h1, upd_ne h1, upd_ne h2]
  have hdn : H dx = none := by
    cases e : H dx with
    | none => rfl
    | some o => exact absurd ndx (s2.live dx (by rw [upd_ne nda, e]; simp))
  have ne1 : ∀ {b o}, H b = some o → b ≠ a ∧ b ≠ dx := fun {b o} e => ⟨(fun z => by rw [z, na] at e; cases e), (fun z => by rw [z, hdn] at e; cases e)⟩
  have sB : Same B2 (upd B2 dx (.xd fs)) := same_new hBd
  refine ⟨⟨fun b o e => ?_, S2.len, S2.nd, fun b hb => ?_, fun n b o g1 g2 => ?_⟩, ⟨s2.sub.trans sB, s2.pre, fun b o e hn => ?_, fun b e => ?_, fun b e1 e2 hn => ?_, fun b hb => ?_⟩, ha2, hdn⟩
  · by_cases hb : b = dx
    · subst hb; rw [upd_same] at e ⊢; exact e
    · rw [upd_ne hb] at e
      rw [hf (fun z => by rw [z, hBa] at e; cases e) hb]
      exact S2.sub b o e
  · rw [hf (fun z => h2a (z ▸ hb)) fun z => h2d (z ▸ hb)]
    exact S2.live b hb
  · obtain ⟨r, q⟩ := S2.obj n b o g1 g2
    have hb := List.mem_of_getElem? g1
    have na' : b ≠ a := fun z => h2a (z ▸ hb)
    have nd' : b ≠ dx := fun z => h2d (z ▸ hb)
    exact ⟨r.up sB ⟨[], by simp⟩ fun u' e => by rw [hf na' nd']; exact e, fun z => by rw [upd_ne nd']; exact q z⟩
  · obtain ⟨h1, h2⟩ := ne1 e
    rw [hf h1 h2]
    exact s2.keep b o (by rw [upd_ne h1]; exact e) hn
  · cases e' : H b with
    | none => exact absurd e' e
    | some o =>
      obtain ⟨h1, h2⟩ := ne1 e'
      rw [hf h1 h2]
      exact s2.live b (by rw [upd_ne h1]; exact e)
  · cases e' : H b with
    | none => exact absurd e' e1.1
    | some o =>
      obtain ⟨h1, h2⟩ := ne1 e'
      rw [upd_ne h2]
      exact s2.sep b (by rw [upd_ne h1]; exact e1) e2 hn
  · rcases s2.new b hb with h | h
    · exact .inl h
    · by_cases hba : b = a
      · exact absurd (hba ▸ hb) h2a
      · rw [upd_ne hba] at h; exact .inr h
end
/-! except x as n -/
end L3
/-! L3zzi: the facts of the exception classes, put together from what the written part says -/
namespace L3
open PySem L2 PySem.Spec PyProof.Rows
section
variable {K : PySem.W.Frag} {x y : Str} {C D : Addr} {b : Bool}
/-- a class by its name: what does not lean on the globals' map -/
def ClsN (K : PySem.W.Frag) (x : Str) : Prop := ∃ C, NsC K x C ∧ PySem.W.keepIn K (.ref C) = true
theorem ClsN.at {h : Heap} {mg : Str → Option Value} (X : K.In h) (G : h.Ns mainGlobals mg) (c : ClsN K x) : ClsAt K mg x := by
  obtain ⟨C, h1, h2⟩ := c
  exact ⟨C, h1, PySem.W.mg_of X G h1, h2⟩
def RaiseN (K : PySem.W.Frag) (x : Str) : Prop := ∃ (C : Addr) (bm : List Value) (B nI iI : String), NsC K x C ∧ PySem.W.keepIn K (.ref C) = true ∧ ExcBaseFacts B nI iI bm ∧ PySem.W.excIn K C bm nI = true ∧ PySem.W.subIn K (.ref C) (.type "BaseException") = some true ∧ PySem.W.typeIn K (.ref C) = some (.type "type")
theorem RaiseN.at {h : Heap} {mg : Str → Option Value} (X : K.In h) (G : h.Ns mainGlobals mg) (c : RaiseN K x) : CanRaise K mg x := by
  obtain ⟨C, bm, B, nI, iI, h1, h2, F, h3, h4, h5⟩ := c
  exact ⟨C, bm, B, nI, iI, h1, PySem.W.mg_of X G h1, h2, F, h3, h4, h5⟩
end
end L3
/-! L3zzj: d.get(k) -/
namespace L3
open PySem L2
end L3
/-! L3zzk: distances to a goal, found ring by ring around it, in a dict -/
namespace L3
open PySem L2
abbrev Dists := List (Int × Nat)
/-- the search, at the place a -/
structure Bfs (es : List (Int × Int)) (g : Int) (a : Nat) (L : Dists) : Prop where
  far : ∀ p ∈ L, Far es g p.1 p.2
  inc : ∀ (i j : Nat) (p q : Int × Nat), i ≤ j → L[i]? = some p → L[j]? = some q → p.2 ≤ q.2
  nd : (L.map (·.1)).Nodup
  root : L[0]? = some (g, 0)
  shut : ∀ (j : Nat) (p : Int × Nat), j < a → L[j]? = some p → ∀ e ∈ es, e.2 = p.1 → e.1 ∈ L.map (·.1)
  cap : ∀ (q : Int × Nat), L[a]? = some q → ∀ p ∈ L, p.2 ≤ q.2 + 1
/-- .. within the row at the place a, behind the first j ties -/
structure BfsRow (es : List (Int × Int)) (g : Int) (a j : Nat) (c : Int) (D : Nat) (L : Dists) : Prop where
  b : Bfs es g a L
  here : L[a]? = some (c, D)
  top : ∀ p ∈ L, p.2 ≤ D + 1
  done : ∀ e ∈ es.take j, e.2 = c → e.1 ∈ L.map (·.1)
section
variable {es : List (Int × Int)} {g : Int} {a j : Nat} {c : Int} {D : Nat} {L : Dists}
theorem Bfs.start : Bfs es g 0 [(g, 0)] where
  far := fun p hp => by cases List.mem_singleton.mp hp; exact far_goal
  inc := fun i j p q h h1 h2 => by
    cases i with
    | zero => cases h1; exact Nat.zero_le _
    | succ i => simp at h1
  nd := by simp
  root := rfl
  shut := fun j p h => by omega
  cap := fun q hq p hp => by cases List.mem_singleton.mp hp; exact Nat.zero_le _
theorem Bfs.row (h : Bfs es g a L) (hc : L[a]? = some (c, D)) : BfsRow es g a 0 c D L := ⟨h, hc, h.cap _ hc, fun e he => by simp at he⟩
theorem BfsRow.near (h : BfsRow es g a j c D L) : ∀ (d : Nat) (y : Int), d ≤ D → Far es g y d → y ∈ L.map (·.1)
  | 0, y, _, hy => by
    rw [hy.zero]
    exact List.mem_map.mpr ⟨(g, 0), List.mem_of_getElem? h.b.root, rfl⟩
  | d + 1, y, hd, hy => by
    obtain ⟨b, hb, fb⟩ := hy.next
    have hm := h.near d b (by omega) fb
    obtain ⟨p, hp, e⟩ := List.mem_map.mp hm
    have e2 : p.2 = d := (h.b.far p hp).uniq (e ▸ fb)
    obtain ⟨i, hi⟩ := List.getElem?_of_mem hp
    have hia : i < a := by
      by_cases hlt : i < a
      · exact hlt
      · have := h.b.inc a i _ _ (by omega) h.here hi
        simp only at this
        omega
    exact h.b.shut i p hia hi (y, b) hb e.symm
theorem BfsRow.new (h : BfsRow es g a j c D L) {x : Int} (hx : (x, c) ∈ es) (hn : x ∉ L.map (·.1)) : Far es g x (D + 1) := by
  have fc : Far es g c D := h.b.far _ (List.mem_of_getElem? h.here)
  refine ⟨.succ hx fc.st, fun d' hd hs => ?_⟩
  obtain ⟨d2, h2, f2⟩ := far_of hs
  exact hn (h.near d2 x (by omega) f2)
theorem BfsRow.add (h : BfsRow es g a j c D L) {x : Int} (he : es[j]? = some (x, c)) (hn : x ∉ L.map (·.1)) : BfsRow es g a (j + 1) c D (L ++ [(x, D + 1)]) := by
  have hf := h.new (List.mem_of_getElem? he) hn
  have old : ∀ {i : Nat} {p : Int × Nat}, L[i]? = some p → (L ++ [(x, D + 1)])[i]? = some p := fun {i p} e => by
    rw [List.getElem?_append_left (List.getElem?_eq_some_iff.mp e).1]; exact e
  have get : ∀ {i : Nat} {p : Int × Nat}, (L ++ [(x, D + 1)])[i]? = some p → L[i]? = some p ∨ (i = L.length ∧ p = (x, D + 1)) := fun {i p} e => by
    by_cases hi : i < L.length
    · rw [List.getElem?_append_left hi] at e; exact .inl e
    · rw [List.getElem?_append_right (by omega)] at e
      have hi0 : i - L.length = 0 := by
        have := (List.getElem?_eq_some_iff.mp e).1
        simp at this
        omega
      rw [hi0] at e
      exact .inr ⟨by omega, (Option.some.inj e).symm⟩
  have keys : ∀ {y : Int}, y ∈ L.map (·.1) → y ∈ (L ++ [(x, D + 1)]).map (·.1) := fun {y} hy => by rw [List.map_append]; exact List.mem_append_left _ hy
  have top : ∀ p ∈ L ++ [(x, D + 1)], p.2 ≤ D + 1 := fun p hp => by
    rcases List.mem_append.mp hp with hp | hp
    · exact h.top p hp
    · cases List.mem_singleton.mp hp; exact Nat.le_refl _
  refine ⟨⟨fun p hp => ?_, fun i k p q hik h1 h2 => ?_, ?_, old h.b.root, fun i p hi hp e' he' hh => ?_, fun q hq => ?_⟩, old h.here, top, fun f hf => ?_⟩
  · rcases List.mem_append.mp hp with hp | hp
    · exact h.b.far p hp
    · cases List.mem_singleton.mp hp; exact hf
  · rcases get h1 with h1 | ⟨rfl, rfl⟩
    · rcases get h2 with h2 | ⟨rfl, rfl⟩
      · exact h.b.inc i k p q hik h1 h2
      · exact h.top p (List.mem_of_getElem? h1)
    · rcases get h2 with h2 | ⟨rfl, rfl⟩
      · have := (List.getElem?_eq_some_iff.mp h2).1
        omega
      · exact Nat.le_refl _
  · rw [List.map_append, List.nodup_append]
    exact ⟨h.b.nd, by simp, fun y hy z hz e => hn (by
      have : z = x := by simpa using hz
      rw [← this, ← e]; exact hy)⟩
  · rcases get hp with hp | ⟨rfl, _⟩
    · exact keys (h.b.shut i p hi hp e' he' hh)
    · have := (List.getElem?_eq_some_iff.mp h.here).1
      omega
  · rw [old h.here] at hq
    cases hq
    exact top
  · rw [L3.take_next he] at hf
    rcases List.mem_append.mp hf with hf | hf
    · exact fun e => keys (h.done f hf e)
    · cases List.mem_singleton.mp hf
      intro _
      rw [List.map_append]
      exact List.mem_append_right _ (by simp)
theorem Bfs.all (h : Bfs es g a L) (ha : L.length ≤ a) : ∀ (d : Nat) (k : Int), Far es g k d → (k, d) ∈ L
  | 0, k, hk => by rw [hk.zero]; exact List.mem_of_getElem? h.root
  | d + 1, k, hk => by
    obtain ⟨b, hb, fb⟩ := hk.next
    have hm := h.all ha d b fb
    obtain ⟨i, hi⟩ := List.getElem?_of_mem hm
    have := (List.getElem?_eq_some_iff.mp hi).1
    have hx := h.shut i _ (by omega) hi (k, b) hb rfl
    obtain ⟨p, hp, e⟩ := List.mem_map.mp hx
    have e2 : p.2 = d + 1 := (h.far p hp).uniq (by rw [e]; exact hk)
    rw [show (k, d + 1) = p from Prod.ext e.symm e2.symm]
    exact hp
/-- all distances -/
structure AllFar (es : List (Int × Int)) (g : Int) (L : Dists) : Prop where
  nd : (L.map (·.1)).Nodup
  iff : ∀ k d, (k, d) ∈ L ↔ Far es g k d
theorem AllFar.len {n : Nat} (h : AllFar es g L) (he : ∀ e ∈ es, InR n e.1 ∧ InR n e.2) (hg : InR n g) : ∀ p ∈ L, InR n p.1 ∧ p.2 + 1 ≤ n := fun p hp => by
  have hf := (h.iff p.1 p.2).mp hp
  exact ⟨hf.inR he hg, hf.le he hg⟩
end
end L3
/-! L3zzl: an order made anew, the first by places again and again; a ring where nothing is free -/
namespace L3
open PySem L2
def nextA (ts : List Str) (es : Ties) (ord : List Str) : Option Str := ((ts.filter fun x => !decide (x ∈ ord)).filter fun x => decide (cntD es ord x = 0)).head?
def Anew (ts : List Str) (es : Ties) (ord : List Str) : Prop := ∀ (i : Nat) x, ord[i]? = some x → nextA ts es (ord.take i) = some x
theorem Anew.snoc {ts : List Str} {es : Ties} {ord : List Str} {x : Str} (h : Anew ts es ord) (hx : nextA ts es ord = some x) : Anew ts es (ord ++ [x]) := by
  intro i y hi
  by_cases hl : i < ord.length
  · rw [List.getElem?_append_left hl] at hi
    rw [List.take_append_of_le_length (by omega)]
    exact h i y hi
  · rw [List.getElem?_append_right (by omega)] at hi
    have h0 : i - ord.length = 0 := by
      have := (List.getElem?_eq_some_iff.mp hi).1
      simp at this
      omega
    rw [h0] at hi
    have e : i = ord.length := by omega
    subst e
    rw [List.take_left]
    cases hi
    exact hx
theorem Anew.uniq {ts : List Str} {es : Ties} {a b : List Str} (ha : Anew ts es a) (hb : Anew ts es b) (hl : a.length = b.length) : a = b := by
  have go : ∀ n, n ≤ a.length → a.take n = b.take n := by
    intro n
    induction n with
    | zero => intro _; simp
    | succ n ih =>
      intro hn
      have e := ih (by omega)
      have h1 : a[n]? = some a[n] := List.getElem?_eq_getElem (by omega)
      have h2 : b[n]? = some b[n] := List.getElem?_eq_getElem (by omega)
      have e1 := ha n _ h1
      have e2 := hb n _ h2
      rw [e] at e1
      rw [L3.take_next h1, L3.take_next h2, e, Option.some.inj (e1.symm.trans e2)]
  have := go a.length (Nat.le_refl _)
  rw [List.take_of_length_le (Nat.le_refl _), hl, List.take_of_length_le (Nat.le_refl _)] at this
  exact this
end L3
/-! L3zzm: a def that stands under another name -/
namespace L3
open PySem L2
/-- the def st, which calls itself x, stands at y -/
structure DefAtN (K : PySem.W.Frag) (mg : Str → Option Value) (y x : Str) (st : Stmt) (ps : List Str) : Prop where
  ex : ∃ f fd, mg y = some (.ref f) ∧ Fun K x x st f fd ∧ Binds K fd ps []
end L3
/-! L3zzn: a dict's keys walked in a comprehension that reads the dict; d == {} -/
namespace L3
open PySem L2
end L3
/-! L3zzo: greatest weights of ways: that there are such, from either end the same; weights of one -/
namespace L3
open PySem L2
end L3
/-! L3zzp: two neighbours exchanged; the pairs that stand unlike, counted -/
namespace L3
open PySem L2
theorem cut_drop (xs : List PyData) {i : Nat} (h : i ≤ xs.length) : cutD xs (some (i : Int)) none = xs.drop i := by
  have e1 : HT.sIx xs.length 0 (some (i : Int)) = i := by
    show (if ((i : Int)) < 0 then ((i : Int) + (xs.length : Int)).toNat else min (i : Int).toNat xs.length) = _
    rw [if_neg (by omega)]
    omega
  unfold cutD
  rw [e1, HT.sIx_none]
  apply List.take_of_length_le
  rw [List.length_drop]
  exact Nat.le_refl _
end L3
/-! L3zzq: a set's table of up to 2048 slots: what is put in is found again -/
namespace L3
open PySem L2 PySem.Spec PyProof.Rows
/-- which numbers the round meets, as the bits of one number -/
def marks (m : Nat) : Nat → Nat → Nat → Nat
  | 0, _, acc => acc
  | k + 1, x, acc => marks m k ((x * 5 + 1) % (m + 1)) (acc ||| (1 <<< x))
theorem marks_bit (m : Nat) : ∀ (k a acc j : Nat), (marks m k (lcgN m a) acc).testBit j = true → acc.testBit j = true ∨ ∃ b, a ≤ b ∧ b < a + k ∧ lcgN m b = j
  | 0, a, acc, j, h => .inl h
  | k + 1, a, acc, j, h => by
    have h' : (marks m k (lcgN m (a + 1)) (acc ||| (1 <<< lcgN m a))).testBit j = true := h
    rcases marks_bit m k (a + 1) _ j h' with q | ⟨b, b1, b2, b3⟩
    · rw [Nat.testBit_or, Bool.or_eq_true, Nat.one_shiftLeft, Nat.testBit_two_pow] at q
      rcases q with q | q
      · exact .inl q
      · exact .inr ⟨a, Nat.le_refl _, by omega, of_decide_eq_true q⟩
    · exact .inr ⟨b, by omega, by omega, b3⟩
/-- the round by m meets all slots, and comes back -/
structure Rnd (m : Nat) : Prop where
  all : ∀ j, j ≤ m → ∃ b, b ≤ m ∧ lcgN m b = j
  back : lcgN m (m + 1) = 0
  odd : m % 2 = 1
  bd : m ≤ 2047
theorem Rnd.of {m : Nat} (h : marks m (m + 1) 0 0 = 2 ^ (m + 1) - 1) (h2 : lcgN m (m + 1) = 0) (h3 : m % 2 = 1) (h4 : m ≤ 2047) : Rnd m := by
  refine ⟨fun j hj => ?_, h2, h3, h4⟩
  have t : (marks m (m + 1) (lcgN m 0) 0).testBit j = true := by
    show (marks m (m + 1) 0 0).testBit j = true
    rw [h, Nat.testBit_two_pow_sub_one]
    exact decide_eq_true (by omega)
  rcases marks_bit m (m + 1) 0 0 j t with q | ⟨b, _, b2, b3⟩
  · simp at q
  · exact ⟨b, by omega, b3⟩
section
variable {m : Nat}
theorem Rnd.again (r : Rnd m) (k : Nat) : lcgN m (m + 1 + k) = lcgN m k := by
  induction k with
  | zero => exact r.back
  | succ k ih => exact congrArg (fun x => (x * 5 + 1) % (m + 1)) ih
/-- a run that begins at each slot comes soon -/
theorem Rnd.run (r : Rnd m) (h : Int) {j : Nat} (hj : j ≤ m) : ∃ n, n ≤ m + 12 ∧ runI m (SetTable.bits h) n = j := by
  have far : ∃ k, k ≤ m ∧ lcgI m (runI m (SetTable.bits h) 12) k = j := by
    obtain ⟨a, ha, ea⟩ := r.all _ (runI_le m (SetTable.bits h) 12)
    obtain ⟨b, hb, eb⟩ := r.all j hj
    by_cases hab : a ≤ b
    · exact ⟨b - a, by omega, by rw [← ea, lcgN_add, show a + (b - a) = b by omega, eb]⟩
    · exact ⟨m + 1 + b - a, by omega, by rw [← ea, lcgN_add, show a + (m + 1 + b - a) = m + 1 + b by omega, r.again, eb]⟩
  obtain ⟨k, hk, e⟩ := far
  exact ⟨12 + k, by omega, (runI_tail (bits_lt h) k).trans e⟩
theorem way_in (m : Nat) (h : Int) (k : Nat) : way m h k ≤ m := by
  have b0 : SetTable.bits h % (m + 1) ≤ m := Nat.le_of_lt_succ (Nat.mod_lt _ (Nat.succ_pos m))
  obtain ⟨b1, b2, _⟩ := runEnd_bd b0
  have q := nth_in k (runAt m (SetTable.bits h % (m + 1)) (SetTable.bits h)) (show SetTable.bits h % (m + 1) + (SetTable.runEnd m (SetTable.bits h % (m + 1)) - SetTable.bits h % (m + 1)) ≤ m by omega)
  exact Nat.le_trans (Nat.le_add_right _ _) q
end
/-! ### the table as a list of hashes -/
/-- slot by slot a hash; each is come to on its way over slots that are taken -/
structure Tbl (t : SetTable) (hs : List Int) : Prop where
  rnd : Rnd t.mask
  up : Ris t.place.toList
  none_ : t.dummies = #[]
  many : t.place.toList.length = hs.length
  low : ∀ x ∈ t.place.toList, x ≤ t.mask
  met : ∀ (i : Nat) (h : Int) (j : Nat), hs[i]? = some h → t.place.toList[i]? = some j → ∃ k, way t.mask h k = j ∧ ∀ c, c < k → way t.mask h c ∈ t.place.toList
/-! ### laid anew -/
section
variable {m : Nat} {done : List Int} {owner : Array (Option Nat)}
theorem own_more (r : Rnd m) (W : Own m done owner) (room : done.length ≤ m) (h : Int) :
    ∃ j, SetTable.layClean.free m owner (SetTable.turns m) (SetTable.bits h % (m + 1)) (SetTable.bits h) = some j ∧ Own m (done ++ [h]) (owner.setIfInBounds j (some done.length)) := by
  obtain ⟨used, lu, hu⟩ := W.ps
  obtain ⟨e0, h0, n0⟩ := st_missing used (m + 1) (by omega)
  have free0 : oAt owner e0 = none := Classical.byContradiction fun q => n0 (hu e0 (Nat.le_of_lt_succ h0) q)
  obtain ⟨n, hn, en⟩ := r.run h (Nat.le_of_lt_succ h0)
  have ew : way m h (off m (SetTable.bits h % (m + 1)) (SetTable.bits h) n) = e0 := by
    unfold way
    rw [nth_off, itL_run]
    exact en
  have free1 : oAt owner (way m h (off m (SetTable.bits h % (m + 1)) (SetTable.bits h) n)) = none := ew ▸ free0
  obtain ⟨g, g1, g2, g3⟩ := st_least (p := fun c => oAt owner (way m h c) = none) _ free1
  have hj := way_in m h g
  have hlt : way m h g < owner.size := by rw [W.sz]; omega
  have now := oAt_set_self (some done.length) hlt
  refine ⟨way m h g, free_spec m owner _ n _ _ g (by unfold SetTable.turns; omega) g1 (fun c hc => ?_) (by rw [g2]; rfl), ?_⟩
  · cases z : oAt owner (way m h c) with
    | none => exact absurd z (g3 c hc)
    | some _ => rfl
  have still : ∀ i, oAt owner i ≠ none → oAt (owner.setIfInBounds (way m h g) (some done.length)) i ≠ none := fun i hi => by
    by_cases c : i = way m h g
    · rw [c, now]; simp
    · rw [oAt_set_ne _ c]; exact hi
  constructor
  · rw [Array.size_setIfInBounds]; exact W.sz
  · intro j k hj' e
    by_cases c : j = way m h g
    · rw [c, now] at e
      cases e
      exact ⟨h, g, by simp, c.symm, fun q hq => still _ (g3 q hq)⟩
    · rw [oAt_set_ne _ c] at e
      obtain ⟨h', q, a1, a2, a3⟩ := W.at_ j k hj' e
      exact ⟨h', q, by rw [List.getElem?_append_left (List.getElem?_eq_some_iff.mp a1).1]; exact a1, a2, fun q' hq' => still _ (a3 q' hq')⟩
  · intro k hk
    by_cases c : k < done.length
    · obtain ⟨j, j1, j2⟩ := W.all k c
      exact ⟨j, j1, by rw [oAt_set_ne _ (fun z => by rw [z, g2] at j2; cases j2)]; exact j2⟩
    · have : k = done.length := by simp at hk; omega
      exact ⟨_, hj, this ▸ now⟩
  · refine ⟨way m h g :: used, by simp [lu], fun j j1 j2 => ?_⟩
    by_cases c : j = way m h g
    · rw [c]; exact List.mem_cons_self
    · rw [oAt_set_ne _ c] at j2
      exact List.mem_cons_of_mem _ (hu j j1 j2)
theorem own_all (r : Rnd m) : ∀ (rest done : List Int) (owner : Array (Option Nat)), Own m done owner → done.length + rest.length ≤ m →
    ∃ o2, rest.foldl (L2.stepF m) (some (owner, done.length)) = some (o2, (done ++ rest).length) ∧ Own m (done ++ rest) o2 := by
  intro rest
  induction rest with
  | nil => intro done owner W _; exact ⟨owner, by simp, by simpa using W⟩
  | cons h rest ih =>
    intro done owner W hl
    rw [List.length_cons] at hl
    obtain ⟨j, e, W2⟩ := own_more r W (by omega) h
    obtain ⟨o2, f, W3⟩ := ih (done ++ [h]) _ W2 (by simp; omega)
    rw [List.append_assoc] at f W3
    refine ⟨o2, ?_, W3⟩
    rw [List.foldl_cons, L2.stepF_some e]
    simpa using f
theorem laid {hs : Array Int} (r : Rnd m) (hn : hs.size ≤ m) : ∃ owner, SetTable.layClean m hs = some owner ∧ Own m hs.toList owner := by
  obtain ⟨o2, f, W⟩ := own_all r hs.toList [] _ (Own.init m) (by simpa using hn)
  refine ⟨o2, ?_, W⟩
  rw [layClean_eq]
  simp only [List.length_nil] at f
  rw [f]
  rfl
end
end L3
/-! L3zzr: a set of tuples of texts: searched, one more put in, laid anew -/
namespace L3
open PySem L2 PySem.Spec PyProof.Rows
/-- the tuple at a has the texts k; its hash -/
abbrev TupS (P : Program) (w : World) (h : Heap) (k : List Str) (a : Addr) : Prop := IsTupleKey (strKind P w) h k a
abbrev hashS (P : Program) (w : World) (k : List Str) : Int := tupleKeyHash (strKind P w) k
/-! ### the set -/
def rowS (P : Program) (w : World) (p : Addr × List Str) : Int × Value := (hashS P w p.2, Value.ref p.1)
structure PSet (P : Program) (w : World) (h : Heap) (a : Addr) (L : List (Addr × List Str)) (es : Array (Int × Value)) (ep : Nat) (t : SetTable) : Prop where
  at_ : ∃ o, h.get? a = some o ∧ o.ExactSet ∧ o.data = .set es ep t
  rows : es.toList = L.map (rowS P w)
  tbl : Tbl t (L.map fun p => hashS P w p.2)
  nd : (L.map (·.2)).Nodup
  tup : ∀ p ∈ L, TupS P w h p.2 p.1
  msk : t.mask = 7 ∨ t.mask = 31 ∨ t.mask = 127 ∨ t.mask = 511 ∨ t.mask = 2047
  room : L.length * 5 < t.mask * 3
  few : L.length ≤ 1000
section
variable {P : Program} {w : World} {A : Around} {E : Value → Shared → Prop} {s : Shared} {a x : Addr} {k : List Str} {L : List (Addr × List Str)} {es : Array (Int × Value)} {ep : Nat} {t : SetTable}
theorem PSet.size {h : Heap} (R : PSet P w h a L es ep t) : es.size = L.length := by
  rw [← Array.length_toList, R.rows, List.length_map]
theorem PSet.row {h : Heap} (R : PSet P w h a L es ep t) {i : Nat} {p : Addr × List Str} (e : L[i]? = some p) : es[i]? = some (rowS P w p) := by
  rw [← Array.getElem?_toList, R.rows, List.getElem?_map, e]
  rfl
end
end L3
/-! L3zzs: set(xs), xs a list of tuples of texts -/
namespace L3
open PySem L2 PySem.Spec PyProof.Rows
end L3
/-! L3zzt: set(xs), xs a list or a tuple, of texts or of tuples of texts -/
namespace L3
open PySem L2 PySem.Spec PyProof.Rows
def newSetO (led : Bool) : Obj := { cls := .type "set", dict := none, data := .set #[] 0 (.fresh 0 0 led) }
/-- what the loop of set(..) does with a walk over items -/
def LoopOk (P : Program) (w : World) (A : Around) (h0 : Heap) (items : Array Value) (Done : Heap → Addr → Prop) : Prop :=
  ∀ (S it : Addr) (fp wr : List Addr) (St : Nat → Heap → Prop) (s1 : Shared) (R : Result → Shared → Prop), Walks P w A.in1 it fp wr items.size (fun i v => items[i]? = some v) St → S ∉ fp → (∀ b ∈ wr, h0.get? b = none) → h0.get? S = none →
    St 0 s1.heap → (∃ led, s1.heap.get? S = some (newSetO led)) → (∀ b o, h0.get? b = some o → s1.heap.get? b = some o) →
    (∀ s3, Moved (S :: wr) (fun a b => b = a) s1 s3 → Done s3.heap S → (∀ b o, h0.get? b = some o → s3.heap.get? b = some o) → R (.ok (.ret .none)) s3) → codeAny (model P w) A (.builtin "set.update.loop" ⟨[.ref S, .ref it], []⟩) R s1
set_option maxHeartbeats 3200000 in
theorem set_list {P : Program} {w : World} {A : Around} {E : Value → Shared → Prop} {s : Shared} {c : Addr} {items : Array Value} {Q : Value → Shared → Prop} {Done : Heap → Addr → Prop} (calm : A.handled = none) (hc : s.heap.IsList c items)
    (loop : ∀ B : Around, B.handled = none → B.units ≤ A.units + 2 → LoopOk P w B s.heap items Done) (fin : ∀ (h' : Heap) (tk : Nat), Done h' s.heap.objs.size → (∀ b o, s.heap.get? b = some o → h'.get? b = some o) → Q (.ref s.heap.objs.size) { s with heap := h', toks := tk }) :
    wpAny (model P w) A (call (.type "set") [.ref c]) Q E s := by
  obtain ⟨mc, mt, mro⟩ := PySem.F.called_set.mro
  have f1 := PySem.F.called_set.made
  have f2 := PySem.F.called_set.sub
  refine wpAny_call (codeAny_of_tree ?_)
  show wpAny _ _ (callAny (.type "set") _) _ _ s
  refine wpAny_pure ⟨Code.quiet_builtin _ (by decide +kernel), codeAny_builtin PySem.F.entry_type_call ?_⟩
  rw [Around.under_plain (weight_type_call_type "set" [.ref c] []) rfl]
  have f3 := PySem.F.called_set.notType
  have f4 := PySem.F.called_set.canCreate
  have f5 := PySem.F.typeCall_set_1 (.ref c)
  repeat (any_goals (first | assumption | wp_step))
  refine codeAny_mono (code_set_new_1 (.ref c) (E := E) (Q₁ := fun y s1 => ∃ led : Bool, y = .ref s.heap.objs.size ∧ s1 = { s with heap := s.heap.push (newSetO led) }) fun led => ⟨led, rfl, rfl⟩) fun r s1 hr => ?_
  cases r with
  | error e => exact hr
  | ok fl =>
    cases fl with
    | ret y =>
      obtain ⟨led, rfl, rfl⟩ := hr
      have gS : (s.heap.push (newSetO led)).get? s.heap.objs.size = some (newSetO led) := Heap.get?_push_size _ rfl
      have tS : Shared.TypeIs { s with heap := s.heap.push (newSetO led) } (.ref s.heap.objs.size) "set" := ⟨_, gS, rfl⟩
      have f6 := PySem.F.called_set.init.lookup
      have f7 := PySem.F.called_set.init.bind (.ref s.heap.objs.size)
      repeat (any_goals (first | assumption | wp_step))
      refine codeAny_mono (codeAny_call_builtin (R := wants (fun r s2 => r = .none ∧ ∃ h' tk, s2 = { s with heap := h', toks := tk } ∧ Done h' s.heap.objs.size ∧ ∀ b o, s.heap.get? b = some o → h'.get? b = some o) E)
        PySem.F.called_set.init.plain PySem.F.entry_set_init (check_set_init_1 tS ?_)) fun r2 s2 hr2 => ?_
      · obtain ⟨ob, hob, ecl, nl, ed⟩ := hc
        obtain ⟨cls, dc, data, sl⟩ := ob
        have ecl : cls = .type "list" := ecl
        have ed : data = .seq items nl := ed
        subst ecl ed
        have lt : c < s.heap.objs.size := Heap.lt_size hob
        have hob1 : (s.heap.push (newSetO led)).get? c = some { cls := .type "list", dict := dc, data := .seq items nl, slots := sl } := Heap.get?_push_of_some _ hob
        have u1 := PySem.F.sub_list_set
        have u2 := PySem.F.sub_list_frozenset
        have u3 : (Value.type "list" == Value.type "dict") = false := by decide
        have il : (s.heap.push (newSetO led)).IsList c items := ⟨_, hob1, rfl, nl, rfl⟩
        unfold Builtin.«set.__init__» noKeywords Builtin.Frozenset.updateFrom
        generalize hp : pyIter = py
        wp_walk
        subst hp
        refine wpAny_pyIter_list il (wpAny_bind (wpAny_runValue ?_))
        have calm2 : A.in1.in1.handled = none := by simp [calm]
        have calm3 : A.in1.in1.in1.handled = none := by simp [calm]
        have ps : (s.heap.push (newSetO led)).objs.size = s.heap.objs.size + 1 := Heap.size_push ..
        have n1 : c ≠ (s.heap.push (newSetO led)).objs.size := by
          rw [ps]; exact Nat.ne_of_lt (Nat.lt_succ_of_lt lt)
        have n2 : s.heap.objs.size ∉ [(s.heap.push (newSetO led)).objs.size, c] := by
          rw [ps]
          simp only [List.mem_cons, List.not_mem_nil, or_false, not_or]
          exact ⟨Nat.ne_of_lt (Nat.lt_succ_self _), Nat.ne_of_gt lt⟩
        have absent : ∀ b, s.heap.objs.size ≤ b → s.heap.get? b = none := fun b hb => by
          cases q : s.heap.get? b with
          | none => rfl
          | some o => exact absurd (Heap.lt_size q) (Nat.not_lt.mpr hb)
        refine loop A.in1.in1 calm2 (by simp) s.heap.objs.size _ _ _ _ _ _ (Walks.list calm3 _ c n1 items) n2 (fun b hb => absent b (by have e := List.mem_singleton.mp hb; rw [e, ps]; exact Nat.le_succ _)) (absent _ (Nat.le_refl _))
          ⟨⟨_, Heap.get?_push_size _ rfl, rfl, rfl⟩, il.push _⟩ ⟨led, Heap.get?_push_of_some _ gS⟩ (fun b o e => Heap.get?_push_of_some _ (Heap.get?_push_of_some _ e)) fun s3 mv dn kp => ?_
        obtain ⟨h3, gs3, dr3, tk3, os3⟩ := s3
        have m1 : gs3 = s.gens := mv.gens
        have m2 : dr3 = s.drawn := mv.drawn
        have m3 : os3 = s.os := mv.os
        subst m1 m2 m3
        show wpAny _ _ _ _ _ _
        refine wpAny_pure ?_
        show wpAny _ _ (ret Value.none) _ _ _
        exact wpAny_pure ⟨rfl, h3, tk3, rfl, dn, kp⟩
      · cases r2 with
        | error e => exact hr2
        | ok fl2 =>
          cases fl2 with
          | ret r =>
            obtain ⟨rfl, h3, tk3, rfl, dn, kp⟩ := hr2
            repeat (any_goals (first | assumption | wp_step))
            exact fin _ _ dn kp
          | _ => exact hr2.elim
    | _ => exact hr.elim
section
variable {P : Program} {w : World} {A : Around} {h0 : Heap} {ks : List (Addr × List Str)}
theorem TupS.kept {h h' : Heap} {k : List Str} {b : Addr} (x : TupS P w h k b) (hk : ∀ c o, h.get? c = some o → h'.get? c = some o) : TupS P w h' k b := by
  obtain ⟨o, its, n, e, r⟩ := x
  exact ⟨o, its, n, hk b o e, r⟩
theorem PSet.kept {h h' : Heap} {a : Addr} {L : List (Addr × List Str)} {es : Array (Int × Value)} {ep : Nat} {t : SetTable} (R : PSet P w h a L es ep t) (ha : ∀ o, h.get? a = some o → h'.get? a = some o) (ht : ∀ p ∈ L, TupS P w h' p.2 p.1) : PSet P w h' a L es ep t := by
  obtain ⟨o, e, r⟩ := R.at_
  exact ⟨⟨o, ha o e, r⟩, R.rows, R.tbl, R.nd, ht, R.msk, R.room, R.few⟩
end
end L3
/-! L3zzu: len(set(xs)), xs a list or a tuple, of texts or of tuples of texts -/
namespace L3
open PySem L2 PySem.Spec PyProof.Rows
end L3
/-! L3zzv: a def is called to which our own lists are data; what comes back is made of tuples alone -/
namespace L3
open PySem L2
mutual
/-- no list, no dict within -/
def Firm : PyData → Prop
  | .none => True
  | .bool _ => True
  | .int _ => True
  | .str _ => True
  | .tuple ds => FirmAll ds
  | .list _ => False
  | .dict [(.none, .tuple ds)] => FirmAll ds
  | .dict _ => False
def FirmAll : List PyData → Prop
  | [] => True
  | d :: ds => Firm d ∧ FirmAll ds
end
theorem firm_sPy : ∀ xs : List Str, FirmAll (sPy xs)
  | [] => trivial
  | x :: xs => ⟨trivial, firm_sPy xs⟩
theorem firm_pPy : ∀ es : List (Str × Str), FirmAll (pPy es)
  | [] => trivial
  | e :: es => ⟨⟨trivial, trivial, trivial⟩, firm_pPy es⟩
section
variable {K : PySem.W.Frag} {m m' m2 : List Addr} {B B' B2 H H' H2 : Hp} {l : List O} {σ : St} {ρ : List (Option D)} {R R' : D → List O → Prop} {ty : TA}
theorem tuK_any (h : ∀ b u, B b = some u → (∃ ys, u = .tup ys) ∨ (∃ o ys, u = .frz o (.tup ys)) → B' b = some u) {a : Addr} {xs : List V} (t : TuK K B a xs) : TuK K B' a xs := by
  rcases t with t | ⟨t1, (t | ⟨o, t⟩) | t⟩
  · exact .inl (h _ _ t (.inl ⟨_, rfl⟩))
  · exact .inr ⟨t1, .inl (.inl (h _ _ t (.inl ⟨_, rfl⟩)))⟩
  · exact .inr ⟨t1, .inl (.inr ⟨o, h _ _ t (.inr ⟨_, _, rfl⟩)⟩)⟩
  · exact .inr ⟨t1, .inr t⟩
theorem plT_any (h : ∀ b u, B b = some u → (∃ ys, u = .tup ys) ∨ (∃ o ys, u = .frz o (.tup ys)) → B' b = some u) {a : Addr} {xs : List V} (t : PlT B a xs) : PlT B' a xs := by
  obtain ⟨o, t1, t2⟩ := t
  exact ⟨o, h _ _ t1 (.inr ⟨_, _, rfl⟩), t2⟩
mutual
theorem firm_any (h : ∀ b u, B b = some u → (∃ ys, u = .tup ys) ∨ (∃ o ys, u = .frz o (.tup ys)) → B' b = some u) : ∀ (x : PyData) (v : V), Firm x → FR K B v x → FR K B' v x
  | .none, _, _, r => by cases r; exact .non
  | .bool _, _, _, r => by cases r; exact .bl _
  | .int _, _, _, r => by cases r; exact .int _
  | .str _, _, _, r => by cases r; exact .str _
  | .list _, _, f, _ => f.elim
  | .dict [(.none, .tuple ds)], _, f, r => by
    cases r with
    | plt t q => exact .plt (plT_any h t) (firms_any h ds _ f q)
  | .dict [], _, f, _ => f.elim
  | .dict (_ :: _ :: _), _, _, r => by cases r
  | .dict [(.none, .none)], _, f, _ => f.elim
  | .dict [(.none, .bool _)], _, f, _ => f.elim
  | .dict [(.none, .int _)], _, f, _ => f.elim
  | .dict [(.none, .str _)], _, f, _ => f.elim
  | .dict [(.none, .list _)], _, f, _ => f.elim
  | .dict [(.none, .dict _)], _, f, _ => f.elim
  | .dict [(.bool _, _)], _, f, _ => f.elim
  | .dict [(.int _, _)], _, f, _ => f.elim
  | .dict [(.str _, _)], _, f, _ => f.elim
  | .dict [(.list _, _)], _, f, _ => f.elim
  | .dict [(.tuple _, _)], _, f, _ => f.elim
  | .dict [(.dict _, _)], _, f, _ => f.elim
  | .tuple ds, _, f, r => by
    cases r with
    | tup t q => exact .tup (tuK_any h t) (firms_any h ds _ f q)
theorem firms_any (h : ∀ b u, B b = some u → (∃ ys, u = .tup ys) ∨ (∃ o ys, u = .frz o (.tup ys)) → B' b = some u) : ∀ (ds : List PyData) (vs : List V), FirmAll ds → FRs K B vs ds → FRs K B' vs ds
  | [], _, _, r => by cases r; exact .nil
  | d :: ds, _, f, r => by
    cases r with
    | cons r1 r2 => exact .cons (firm_any h d _ f.1 r1) (firms_any h ds _ f.2 r2)
end
/-- an own object that stands still -/
def Stands3 (m : List Addr) (l : List O) (b : Addr) : Prop := ∃ (n : Nat) (o : O), m[n]? = some b ∧ l[n]? = some o ∧ o ≠ O.gone
open Classical in
/-- such are seen -/
noncomputable def seenC (m : List Addr) (l : List O) (B H : Hp) : Hp := fun b => if Stands3 m l b then H b else B b
theorem seenC_in {n : Nat} {b : Addr} {o : O} (h1 : m[n]? = some b) (h2 : l[n]? = some o) (h3 : o ≠ O.gone) : seenC m l B H b = H b := by
  unfold seenC
  exact if_pos ⟨n, o, h1, h2, h3⟩
theorem seenC_off {b : Addr} (h : ¬ Stands3 m l b) : seenC m l B H b = B b := by
  unfold seenC
  exact if_neg h
theorem seenC_out {b : Addr} (h : b ∉ m) : seenC m l B H b = B b := seenC_off fun ⟨n, o, h1, _⟩ => h (List.mem_of_getElem? h1)
theorem seenC_sub (S : SR K m B H l) : ∀ b o, seenC m l B H b = some o → H b = some o := fun b o e => by
  unfold seenC at e
  split at e
  · exact e
  · exact S.sub b o e
theorem seenC_same (S : SR K m B H l) : Same B (seenC m l B H) := fun b o e => by
  unfold seenC
  split
  · exact S.sub b o e
  · exact e
theorem viewC0 (S : SR K m B H l) {v : V} {d : D} {x : PyData} (r : VR K m B v d) (h : View0 l d x) : FR K (seenC m l B H) v x := by
  cases d with
  | f d => cases h; exact FR.same (seenC_same S) _ _ r
  | sq s => exact h.elim
  | own n =>
    obtain ⟨a, rfl, ha⟩ := r
    obtain ⟨ds, hn, rfl⟩ := h
    obtain ⟨⟨xs, e, q⟩, _⟩ := S.obj n a _ ha hn
    exact .lst (xs := xs) ((seenC_in ha hn (by simp)).trans e) (FRs.same (seenC_same S) _ _ q)
theorem viewCs (S : SR K m B H l) : ∀ {vs : List V} {ds : List D} {xs : List PyData}, Paired (VR K m B) vs ds → Paired (View0 l) ds xs → FRs K (seenC m l B H) vs xs
  | _, _, _, .nil, .nil => .nil
  | _, _, _, .cons r rs, .cons h hs => .cons (viewC0 S r h) (viewCs S rs hs)
theorem viewC (S : SR K m B H l) {v : V} {d e : D} (r : VR K m B v d) (h : View l d e) : VR K [] (seenC m l B H) v e := by
  cases h with
  | zero h => exact viewC0 S r h
  | sq s =>
    obtain ⟨a, e, q⟩ := r
    exact ⟨a, e, (seenC_same S).seq q⟩
  | @tpr n ds fs hn hp =>
    obtain ⟨a, rfl, ha⟩ := r
    obtain ⟨⟨xs, e, q⟩, _⟩ := S.obj n a _ ha hn
    exact FR.tup (xs := xs) (.inl ((seenC_in ha hn (by simp)).trans e)) (viewCs S q hp)
  | @rfs n ds fs hn hp =>
    obtain ⟨a, rfl, ha⟩ := r
    obtain ⟨⟨xs, e, q⟩, _⟩ := S.obj n a _ ha hn
    exact FR.lst (xs := xs) ((seenC_in ha hn (by simp)).trans e) (viewCs S q hp)
/-- our own objects are data to the callee; firm data comes back, and all stays -/
theorem e_callT {S : Spec3} {X : XK} (h : EvA K ty ρ l fun ds l1 => (∀ (n : Nat) (ds : List D), l1[n]? ≠ some (O.tpr ds)) ∧ ∃ es, Paired (View l1) ds es ∧ S es [] fun d _ => ∃ x, d = .f x ∧ Firm x ∧ R d l1) : EvS K (tCall (P3 K S) [] X ty) ρ l R := fun m B H σ Sr e Q q => by
  refine h m B H σ Sr e _ fun vs m1 B1 H1 ds l1 s1 S1 r1 ⟨nt, es, hv, h1⟩ => ?_
  rw [List.append_nil]
  have views : ∀ {vs : List V} {ds es : List D}, Paired (VR K m1 B1) vs ds → Paired (View l1) ds es → Paired (VR K [] (seenC m1 l1 B1 H1)) vs es := by
    intro vs ds es a b
    induction b generalizing vs with
    | nil => cases a; exact .nil
    | cons h hs ih =>
      cases a with
      | cons r rs => exact .cons (viewC S1 r h) (ih rs)
  have Sn : SR K [] (seenC m1 l1 B1 H1) H1 [] := ⟨seenC_sub S1, rfl, List.nodup_nil, fun a ha => by simp at ha, fun n a o z => by simp at z⟩
  refine ⟨[], _, [], es, _, Sn, views r1 hv, h1, fun v m2 B2 H2 d l2 s2 S2 r2 ⟨x, ed, fx, z⟩ => ?_⟩
  subst ed
  classical
  let B3 : Hp := fun b => if Stands3 m1 l1 b then B1 b else B2 b
  have b3i : ∀ {b}, Stands3 m1 l1 b → B3 b = B1 b := fun {b} hb => if_pos hb
  have b3o : ∀ {b}, ¬ Stands3 m1 l1 b → B3 b = B2 b := fun {b} hb => if_neg hb
  have off : ∀ {b}, b ∉ m1 → ¬ Stands3 m1 l1 b := fun {b} hb ⟨n, o, h1, _⟩ => hb (List.mem_of_getElem? h1)
  have e1 : Same B1 B3 := fun b o e => by
    by_cases hb : Stands3 m1 l1 b
    · rw [b3i hb]; exact e
    · rw [b3o hb]; exact s2.sub b o (by rw [seenC_off hb]; exact e)
  have S3 : SR K m1 B3 H2 l1 := by
    refine ⟨fun b o e => ?_, S1.len, S1.nd, fun a ha => s2.live a (S1.live a ha), fun n a o h1 h2 => ?_⟩
    · by_cases hb : Stands3 m1 l1 b
      · rw [b3i hb] at e; exact s2.keep b o (S1.sub b o e) (by simp)
      · rw [b3o hb] at e; exact S2.sub b o e
    · obtain ⟨q1, c⟩ := S1.obj n a o h1 h2
      exact ⟨q1.up e1 ⟨[], by simp⟩ fun u e => s2.keep a u e (by simp), fun ho => by rw [b3i ⟨n, o, h1, h2, ho.1⟩]; exact c ho⟩
  have s3 : Step m1 B1 H1 m1 B3 H2 := by
    refine ⟨e1, ⟨[], by simp⟩, fun a o h _ => s2.keep a o h (by simp), s2.live, fun a h1 h2 h3 => ?_, fun a ha => .inl ha⟩
    rw [b3o (off h3)]
    exact s2.sep a h1 (by rw [seenC_out h3]; exact h2) (by simp)
  refine q v _ _ _ (.f x) l1 (s1.trans s3) S3 (firm_any (fun b u e hu => ?_) x v fx r2) z
  by_cases hb : Stands3 m1 l1 b
  · exfalso
    obtain ⟨n, o, hn, ho, hg⟩ := hb
    have hH := S2.sub b u e
    obtain ⟨r, _⟩ := S1.obj n b o hn ho
    have same : ∀ {u1}, H1 b = some u1 → u = u1 := fun {u1} e2 => by
      have := s2.keep b u1 e2 (by simp)
      rw [this] at hH
      exact (Option.some.inj hH).symm
    have no : ∀ {u1}, H1 b = some u1 → (∀ ys, u1 ≠ .tup ys) → (∀ o ys, u1 ≠ .frz o (.tup ys)) → False := fun {u1} e2 n1 n2 => by
      have := same e2
      subst this
      rcases hu with ⟨ys, h⟩ | ⟨o', ys, h⟩
      · exact n1 ys h
      · exact n2 o' ys h
    cases o with
    | lst ds => obtain ⟨xs, e2, _⟩ := r; exact no e2 (by simp) (by simp)
    | rfs ds => obtain ⟨xs, e2, _⟩ := r; exact no e2 (by simp) (by simp)
    | tpr ds => exact nt n ds ho
    | dct ds => obtain ⟨xs, e2, _⟩ := r; exact no e2 (by simp) (by simp)
    | dctT ds => obtain ⟨xs, e2, _⟩ := r; exact no e2 (by simp) (by simp)
    | dctL od ks ds => obtain ⟨e2, _⟩ := r; exact no e2 (by simp) (by simp)
    | ins C fs => obtain ⟨dx, gs, e2, _⟩ := r; exact no e2 (by simp) (by simp)
    | dctD kvs => obtain ⟨ks, e2, _⟩ := r; exact no e2 (by simp) (by simp)
    | dctM P w kvs => obtain ⟨xs, e2, _⟩ := r; exact no e2 (by simp [mixH]) (by simp [mixH])
    | gone => exact hg rfl
  · rw [b3o hb]; exact e
end
end L3
/-! L3zzw: data of any sort: its type, names, whole numbers, webs -/
namespace L3
open PySem L2
/-- no exception -/
def Usual (d : PyData) : Prop := ∀ u v, d ≠ .dict [(.tuple u, v)]
theorem Usual.ty {l : List O} {d : PyData} (h : Usual d) : TyD l (.f d) (tyF d) := by
  unfold TyD
  split
  · rename_i e
    cases e
    exact absurd rfl (h _ _)
  · rename_i e
    cases e
    rfl
  · rename_i e; cases e
  · rename_i e; cases e
def isStrB : PyData → Bool
  | .str _ => true
  | _ => false
def isTupB : PyData → Bool
  | .tuple _ => true
  | .dict [(.none, _)] => true
  | _ => false
theorem ty_dict (kvs : List (PyData × PyData)) : tyF (.dict kvs) = if isTupB (.dict kvs) = true then "tuple" else "dict" := by
  unfold tyF isTupB
  split <;> simp_all
theorem kit_str (d : PyData) : kitB (tyF d) "str" = some (isStrB d) := by
  cases d with
  | dict kvs => rw [ty_dict]; show _ = some false; split <;> decide +kernel
  | none => show kitB "NoneType" "str" = some false; decide +kernel
  | bool b => show kitB "bool" "str" = some false; decide +kernel
  | int i => show kitB "int" "str" = some false; decide +kernel
  | str i => show kitB "str" "str" = some true; decide +kernel
  | list ds => show kitB "list" "str" = some false; decide +kernel
  | tuple ds => show kitB "tuple" "str" = some false; decide +kernel
/-- a name -/
def nmB (x : Str) : Bool := decide (1 ≤ x.length ∧ x.length ≤ 8) && x.cps.toList.all fun c => decide (c ∈ lets.cps.toList)
def nameD : PyData → Bool
  | .str x => nmB x
  | _ => false
theorem nameD_str {d : PyData} (h : nameD d = true) : ∃ x, d = .str x ∧ nmB x = true := by
  cases d <;> first | exact ⟨_, rfl, h⟩ | cases h
theorem lets_mem {c : Nat} : c ∈ lets.cps.toList ↔ 97 ≤ c ∧ c ≤ 122 := by
  have h : (List.range 26).all (fun j => (cs lets)[j]? == some (97 + j)) = true := by decide +kernel
  constructor
  · intro hc
    obtain ⟨j, hj⟩ := List.getElem?_of_mem hc
    have lj : j < 26 := by
      have := (List.getElem?_eq_some_iff.mp hj).1
      have e : lets.cps.toList.length = 26 := by decide +kernel
      omega
    have := lets_all ⟨j, lj⟩
    have e2 : (cs lets)[j]? = some c := hj
    rw [this] at e2
    cases e2
    exact ⟨Nat.le_add_right _ _, by show 97 + j ≤ 122; omega⟩
  · intro ⟨h1, h2⟩
    have := lets_all ⟨c - 97, by omega⟩
    refine List.mem_of_getElem? (i := c - 97) (this.trans ?_)
    show some (97 + (c - 97)) = some c
    congr 1
    omega
theorem nmB_iff {x : Str} : nmB x = true ↔ Low x ∧ 1 ≤ x.length ∧ x.length ≤ 8 := by
  unfold nmB
  rw [Bool.and_eq_true, decide_eq_true_eq, List.all_eq_true]
  constructor
  · intro ⟨h1, h2⟩
    exact ⟨fun c hc => lets_mem.mp (of_decide_eq_true (h2 c hc)), h1⟩
  · intro ⟨h1, h2⟩
    exact ⟨h2, fun c hc => decide_eq_true (lets_mem.mpr (h1 c hc))⟩
def letD : PyData → Option PyData
  | .str x => some (.bool (decide (x.cps.getD 0 0 ∈ lets.cps.toList)))
  | _ => none
theorem letD_eq (x : Str) : (signs x).filterMap letD = bPy (x.cps.toList.map fun c => decide (c ∈ lets.cps.toList)) := by
  unfold signs bPy
  rw [List.map_map]
  generalize x.cps.toList = cs
  induction cs with
  | nil => rfl
  | cons c cs ih =>
    rw [List.map_cons, List.filterMap_cons, ih]
    rfl
/-- data of which texts are not too long -/
def ShortS (d : PyData) : Prop := ∀ x, d = .str x → x.length ≤ 100000
/-- things that are all names -/
theorem names_all {ds : List PyData} (h : ds.all nameD = true) : ∃ xs, ds = sPy xs ∧ ∀ x ∈ xs, nmB x = true := by
  induction ds with
  | nil => exact ⟨[], rfl, nofun⟩
  | cons d ds ih =>
    rw [List.all_cons, Bool.and_eq_true] at h
    obtain ⟨xs, rfl, q⟩ := ih h.2
    obtain ⟨x, rfl, hx⟩ := nameD_str h.1
    refine ⟨x :: xs, rfl, fun y hy => ?_⟩
    rcases List.mem_cons.mp hy with rfl | hy
    · exact hx
    · exact q y hy
theorem sPy_inj : ∀ {xs ys : List Str}, sPy xs = sPy ys → xs = ys
  | [], [], _ => rfl
  | [], _ :: _, h => by cases h
  | _ :: _, [], h => by cases h
  | x :: xs, y :: ys, h => by
    have h' : PyData.str x = .str y ∧ sPy xs = sPy ys := by simpa [sPy] using h
    rw [PyData.str.inj h'.1, sPy_inj h'.2]
end L3
/-! L3zzx: repr of a tuple with own lists; going along ties of texts; things put to other places -/
namespace L3
open PySem L2
/-- a tuple of own lists as data -/
def AsdT (l : List O) (x : D) (d : PyData) : Prop := ∃ n ys es, x = .own n ∧ l[n]? = some (.tpr ys) ∧ d = .tuple es ∧ Paired (Asd l) ys es
section
variable {K : PySem.W.Frag} {m : List Addr} {B H : Hp} {l : List O} {R : D → List O → Prop}
theorem AsdT.dp (S : SR K m B H l) {v : V} {x : D} {d : PyData} (r : VR K m B v x) (h : AsdT l x d) (nd : d.hasDict = false) : Dp K H v d := by
  obtain ⟨n, ys, es, rfl, hn, rfl, hp⟩ := h
  obtain ⟨a, rfl, ha⟩ := r
  obtain ⟨⟨xs, e, pr⟩, _⟩ := S.obj n a _ ha hn
  exact .tup (SqT.of e) (dps_of S pr hp (by simpa [PyData.hasDict] using nd))
end
theorem GoesS.one {es : List (Str × Str)} {a b : Str} (h : (a, b) ∈ es) : GoesS es a b := .tail (.refl a) h
def swapS (es : List (Str × Str)) : List (Str × Str) := es.map fun e => (e.2, e.1)
theorem mem_swapS {es : List (Str × Str)} {a b : Str} : (a, b) ∈ swapS es ↔ (b, a) ∈ es := by
  unfold swapS
  rw [List.mem_map]
  constructor
  · rintro ⟨⟨x, y⟩, h, e⟩
    cases e
    exact h
  · intro h
    exact ⟨(b, a), h, rfl⟩
theorem GoesS.back {es : List (Str × Str)} {a b : Str} (h : GoesS es a b) : GoesS (swapS es) b a := by
  induction h with
  | refl => exact .refl _
  | tail _ e ih => exact (GoesS.one (mem_swapS.mpr e)).trans ih
theorem GoesS.in_ {xs : List Str} {es : List (Str × Str)} (he : ∀ e ∈ es, e.1 ∈ xs ∧ e.2 ∈ xs) {a b : Str} (ha : a ∈ xs) (h : GoesS es a b) : b ∈ xs := by
  cases h with
  | refl => exact ha
  | tail _ e => exact (he _ e).2
theorem goes_S {ts : List Str} {es : List (Str × Str)} (he : ∀ e ∈ es, e.1 ∈ ts ∧ e.2 ∈ ts) (back : Bool) {a b : Str} : Goes (stepM ts es back) a b ↔ if back = true then GoesS es b a else GoesS es a b := by
  have step : ∀ x y, y ∈ stepM ts es back x ↔ if back = true then (y, x) ∈ es else (x, y) ∈ es := fun x y => by
    unfold stepM
    cases back
    · show y ∈ nextsM ts es x ↔ _
      rw [mem_nextsM]
      exact ⟨fun h => h.2, fun h => ⟨(he _ h).2, h⟩⟩
    · show y ∈ priorsM ts es x ↔ _
      rw [mem_priorsM]
      exact ⟨fun h => h.2, fun h => ⟨(he _ h).1, h⟩⟩
  cases back
  · show _ ↔ GoesS es a b
    constructor
    · intro h
      induction h with
      | refl => exact .refl _
      | tail _ e ih => exact .tail ih ((step _ _).mp e)
    · intro h
      induction h with
      | refl => exact .refl _
      | tail _ e ih => exact .tail ih ((step _ _).mpr e)
  · show _ ↔ GoesS es b a
    constructor
    · intro h
      induction h with
      | refl => exact .refl _
      | tail _ e ih => exact (GoesS.one ((step _ _).mp e)).trans ih
    · intro h
      have go : ∀ {u v : Str}, GoesS (swapS es) u v → Goes (stepM ts es true) u v := fun {u v} h => by
        induction h with
        | refl => exact .refl _
        | tail _ e ih => exact .tail ih ((step _ _).mpr (mem_swapS.mp e))
      exact go h.back
theorem mem_metL {ts : List Str} {es : List (Str × Str)} (he : ∀ e ∈ es, e.1 ∈ ts ∧ e.2 ∈ ts) {one x : Str} (back : Bool) : x ∈ metL ts es one back ↔ x ∈ ts ∧ if back = true then GoesS es x one else GoesS es one x := by
  unfold metL
  rw [List.mem_filter, (metM_ok ts es one back).2, goes_S he]
/-! things put to places -/
end L3
/-! L3zzy: the place of a text in a list; slices between places; what goes for a tie, and where -/
namespace L3
open PySem L2
/-! a tie laid into an order -/
/-- an order of things -/
structure OrdOf (ts ord : List Str) : Prop where
  nd : ord.Nodup
  mem : ∀ x, x ∈ ord ↔ x ∈ ts
theorem OrdOf.len {ts ord : List Str} (h : OrdOf ts ord) : ord.length ≤ ts.length := nodup_le h.nd fun x hx => (h.mem x).mp hx
end L3
/-! L3zzz: sorted(xs, key=f), f a def of the text whose answer is a whole number -/
namespace L3
open PySem L2 PySem.Spec PyProof.Rows
section
variable {X : Cx} {pins : List (Addr × Obj)} {σ : L2.St} {H : Hp} {s : Shared}
/-- an address that none of ours speaks of -/
structure Off1 (X : Cx) (pins : List (Addr × Obj)) (b : Addr) : Prop where
  lo : X.s_0.heap.objs.size ≤ b
  nl : b ≠ X.env.locals
  nc : ∀ x c, X.env.cells.lookup x = some c → c ≠ b
  nf : b ∉ X.fs
  np : ∀ p ∈ X.pn ++ pins, p.1 ≠ b
theorem Off1.cons {b c : Addr} {o : Obj} (W : Off1 X pins b) (h : c ≠ b) : Off1 X ((c, o) :: pins) b := ⟨W.lo, W.nl, W.nc, W.nf, fun p hp => by
  rcases List.mem_append.mp hp with hp | hp
  · exact W.np p (List.mem_append_left _ hp)
  · rcases List.mem_cons.mp hp with rfl | hp
    · exact h
    · exact W.np p (List.mem_append_right _ hp)⟩
end
end L3
/-! L3zzza: sorted(xs, key=f) of our own list of data, by what f tells -/
namespace L3
open PySem L2 PySem.Spec
end L3
/-! L3zzzb: the moves of a tie: each thing of S, its place, the place it gets; by places -/
namespace L3
open PySem L2
end L3
/-! L3zzzc: what holds between two statements that may raise; a fresh list comes back from a def that sees our own lists as data -/
namespace L3
open PySem L2
end L3
/-! L3zzzd: texts parted and joined; how many keys a dict of pairs has -/
namespace L3
open PySem L2 PySem.Spec
section
variable {K : PySem.W.Frag} {l : List O} {R : D → List O → Prop}
theorem c_lenDT {n : Nat} {kvs : List (List Key × PyData)} (h : l[n]? = some (.dctT kvs)) (z : R (.f (.int (kvs.length : Nat))) l) : CaS K rLenT [.own n] l R := fun m B H vs S r Q q => by
  cases r with
  | cons r1 r2 =>
    cases r2
    obtain ⟨a, rfl, ha⟩ := r1
    obtain ⟨⟨ks, e, pr⟩, _⟩ := S.obj n a _ ha h
    refine ⟨a, ks, rfl, e, ?_⟩
    rw [Paired.length pr]
    exact retF S q (FR.int _) z
end
/-! a web as a text -/
end L3
/-! L3zzze: any text read as a web: row by row, and at which row it is none -/
namespace L3
open PySem L2
/-! a text read -/
end L3
/-! L3zzzf: a loop within which may be raised -/
namespace L3
open PySem L2
end L3
/-! L3zzzg: how long joined texts are -/
namespace L3
open PySem L2
end L3
/-! L3zzzh: an order into which a tie is laid goes forward -/
namespace L3
open PySem L2
end L3
/-! L3zzzi: len(set(xs)) of unlike numbers; sorted texts; a tuple of own lists turned to data -/
namespace L3
open PySem L2 PySem.Spec PyProof.Rows
end L3
/-! L3zzzj: the two sorts of a tie's things, met place by place -/
namespace L3
open PySem L2
theorem GoesS.first {es : List (Str × Str)} {a c : Str} (h : GoesS es a c) (hne : a ≠ c) : ∃ b, (a, b) ∈ es ∧ GoesS es b c := by
  induction h with
  | refl => exact absurd rfl hne
  | @tail b c h1 h2 ih =>
    by_cases q : a = b
    · subst q
      exact ⟨c, h2, .refl c⟩
    · obtain ⟨d, d1, d2⟩ := ih q
      exact ⟨d, d1, .tail d2 h2⟩
theorem GoesS.last {es : List (Str × Str)} {a c : Str} (h : GoesS es a c) (hne : a ≠ c) : ∃ b, GoesS es a b ∧ (b, c) ∈ es := by
  cases h with
  | refl => exact absurd rfl hne
  | tail h1 h2 => exact ⟨_, h1, h2⟩
theorem goes_fwd {es : List (Str × Str)} {ord : List Str} (fw : ∀ e ∈ es, ord.idxOf e.1 < ord.idxOf e.2) {a b : Str} (h : GoesS es a b) : ord.idxOf a ≤ ord.idxOf b := by
  induction h with
  | refl => exact Nat.le_refl _
  | tail _ h2 ih =>
    have := fw _ h2
    exact Nat.le_trans ih (Nat.le_of_lt this)
end L3
/-! L3zzzk: what goes back goes back at least one place, what goes forward one forward -/
namespace L3
open PySem L2
end L3
/-! L3zzzl: a sorted list of texts is one alone; sorted of numbers and of texts in one def -/
namespace L3
open PySem L2 PySem.Spec PyProof.Rows
end L3
/-! L3zzzm: own objects within own objects, seen as data by a callee or an operator -/
namespace L3
open PySem L2
mutual
/-- what an own object is as data, however deep -/
inductive ViewN (l : List O) : D → PyData → Prop
  | f (d : PyData) : ViewN l (.f d) d
  | lst {n : Nat} {ds : List PyData} : l[n]? = some (.lst ds) → ViewN l (.own n) (.list ds)
  | rfs {n : Nat} {ds : List D} {fs : List PyData} : l[n]? = some (.rfs ds) → ViewNs l ds fs → ViewN l (.own n) (.list fs)
  | tpr {n : Nat} {ds : List D} {fs : List PyData} : l[n]? = some (.tpr ds) → ViewNs l ds fs → ViewN l (.own n) (.tuple fs)
inductive ViewNs (l : List O) : List D → List PyData → Prop
  | nil : ViewNs l [] []
  | cons {d : D} {ds : List D} {x : PyData} {xs : List PyData} : ViewN l d x → ViewNs l ds xs → ViewNs l (d :: ds) (x :: xs)
end
section
variable {K : PySem.W.Frag} {m m' m2 : List Addr} {B B' B2 H H' H2 : Hp} {l l' : List O} {σ : St} {ρ : List (Option D)} {R R' : D → List O → Prop} {E E' : E3} {ta tb te tc tl : TE} {tt tu : TT} {t u : TS} {ty tz : TA}
theorem ViewNs.append : ∀ {ds es : List D} {xs ys : List PyData}, ViewNs l ds xs → ViewNs l es ys → ViewNs l (ds ++ es) (xs ++ ys)
  | [], _, _, _, h, h' => by cases h; exact h'
  | _ :: _, _, _, _, h, h' => by
    cases h with
    | cons h1 h2 => exact .cons h1 (ViewNs.append h2 h')
mutual
theorem ViewN.up (e : ∀ (n : Nat) (o : O), l[n]? = some o → l'[n]? = some o) : ∀ (x : PyData) (d : D), ViewN l d x → ViewN l' d x
  | .list fs, d, h => by
    cases h with
    | f _ => exact .f _
    | lst h1 => exact .lst (e _ _ h1)
    | rfs h1 h2 => exact .rfs (e _ _ h1) (ViewNs.up e fs _ h2)
  | .tuple fs, d, h => by
    cases h with
    | f _ => exact .f _
    | tpr h1 h2 => exact .tpr (e _ _ h1) (ViewNs.up e fs _ h2)
  | .none, d, h => by cases h; exact .f _
  | .bool _, d, h => by cases h; exact .f _
  | .int _, d, h => by cases h; exact .f _
  | .str _, d, h => by cases h; exact .f _
  | .dict _, d, h => by cases h; exact .f _
theorem ViewNs.up (e : ∀ (n : Nat) (o : O), l[n]? = some o → l'[n]? = some o) : ∀ (xs : List PyData) (ds : List D), ViewNs l ds xs → ViewNs l' ds xs
  | [], _, h => by cases h; exact .nil
  | x :: xs, _, h => by
    cases h with
    | cons h1 h2 => exact .cons (ViewN.up e x _ h1) (ViewNs.up e xs _ h2)
end
mutual
theorem viewN_of (S : SR K m B H l) : ∀ (x : PyData) (v : V) (d : D), VR K m B v d → ViewN l d x → FR K (seenB m B H) v x
  | .list fs, v, d, r, h => by
    cases h with
    | f _ => exact FR.same (seen_same S) _ _ r
    | @lst n ds h1 =>
      obtain ⟨a, rfl, ha⟩ := r
      obtain ⟨⟨xs, e, q⟩, _⟩ := S.obj n a _ ha h1
      refine .lst (xs := xs) ?_ (FRs.same (seen_same S) _ _ q)
      unfold seenB
      rw [if_pos (List.mem_of_getElem? ha), e]
    | @rfs n ds fs h1 h2 =>
      obtain ⟨a, rfl, ha⟩ := r
      obtain ⟨⟨xs, e, q⟩, _⟩ := S.obj n a _ ha h1
      refine .lst (xs := xs) ?_ (viewsN_of S fs _ _ q h2)
      unfold seenB
      rw [if_pos (List.mem_of_getElem? ha), e]
  | .tuple fs, v, d, r, h => by
    cases h with
    | f _ => exact FR.same (seen_same S) _ _ r
    | @tpr n ds fs h1 h2 =>
      obtain ⟨a, rfl, ha⟩ := r
      obtain ⟨⟨xs, e, q⟩, _⟩ := S.obj n a _ ha h1
      refine .tup (xs := xs) (.inl ?_) (viewsN_of S fs _ _ q h2)
      unfold seenB
      rw [if_pos (List.mem_of_getElem? ha), e]
  | .none, v, d, r, h => by cases h; exact FR.same (seen_same S) _ _ r
  | .bool _, v, d, r, h => by cases h; exact FR.same (seen_same S) _ _ r
  | .int _, v, d, r, h => by cases h; exact FR.same (seen_same S) _ _ r
  | .str _, v, d, r, h => by cases h; exact FR.same (seen_same S) _ _ r
  | .dict _, v, d, r, h => by cases h; exact FR.same (seen_same S) _ _ r
theorem viewsN_of (S : SR K m B H l) : ∀ (xs : List PyData) (vs : List V) (ds : List D), Paired (VR K m B) vs ds → ViewNs l ds xs → FRs K (seenB m B H) vs xs
  | [], _, _, r, h => by cases h; cases r; exact .nil
  | x :: xs, _, _, r, h => by
    cases h with
    | cons h1 h2 =>
      cases r with
      | cons r1 r2 => exact .cons (viewN_of S x _ _ r1 h1) (viewsN_of S xs _ _ r2 h2)
end
theorem seen_sub (S : SR K m B H l) : Same (seenB m B H) H := fun b o e => by
  unfold seenB at e
  split at e
  · exact e
  · exact S.sub b o e
/-- own objects are data to an operator -/
theorem ViewN.dp (S : SR K m B H l) {v : V} {x : D} {d : PyData} (r : VR K m B v x) (h : ViewN l x d) (nd : d.hasDict = false) : Dp K H v d :=
  FR.dp _ _ nd (FR.same (seen_sub S) _ _ (viewN_of S d v x r h))
end
end L3
/-! L3zzzn: dicts whose values may be references; the pen as a dict -/
namespace L3
open PySem L2
section
variable {K : PySem.W.Frag} {m m' m2 : List Addr} {B B' B2 H H' H2 : Hp} {l l' : List O} {σ : St} {ρ : List (Option D)} {R R' : D → List O → Prop} {E E' : E3} {ta tb te tc tl : TE} {tt tu : TT} {t u : TS} {ty tz : TA}
/-- dicts as they stand in the store, and as the frame sees them -/
def PG (K : PySem.W.Frag) (m : List Addr) (B : Hp) : List (Key × V) → List (Key × D) → Prop := Paired (fun (p : Key × V) (q : Key × D) => p.1 = q.1 ∧ VR K m B p.2 q.2)
end
/-- the pen as a dict -/
def penG (s : List Int) (at_ dg : Int) : O := .dctD [(.inr "script", .sq s), (.inr "at", .f (.int at_)), (.inr "left", .f (.int dg))]
structure IsPenG (o : O) : Prop where
  ex : ∃ s at_ dg, o = penG s at_ dg ∧ s.length ≤ 63 ∧ 0 ≤ at_ ∧ 0 ≤ dg
theorem IsPenG.under {o : O} {k : Nat} (h : IsPenG o) : o.under k := by
  obtain ⟨s, a, b, rfl, _⟩ := h.ex
  intro p hp
  simp only [List.mem_cons, List.not_mem_nil, or_false] at hp
  rcases hp with rfl | rfl | rfl <;> trivial
theorem IsPenG.free {o : O} (h : IsPenG o) : o.free := by
  obtain ⟨s, a, b, rfl, _⟩ := h.ex
  trivial
theorem IsPenG.shift1 {o : O} (h : IsPenG o) (i k : Nat) : o.shift1 i k = o := by
  obtain ⟨s, a, b, rfl, _⟩ := h.ex
  rfl
theorem IsPenG.shift {o : O} (h : IsPenG o) (k : Nat) : o.shift k = o := by
  obtain ⟨s, a, b, rfl, _⟩ := h.ex
  rfl
def S_drawG : Spec3 := fun ds g R => ∃ o most, ds = [.own 0, .f (.int most)] ∧ g = [o] ∧ IsPenG o ∧ 0 < most ∧ most < 1073741824 ∧ ∀ r o', 0 ≤ r → r < most → IsPenG o' → R (.f (.int r)) [o']
section
variable {K : PySem.W.Frag} {m m1 : List Addr} {B H : Hp} {l : List O} {σ : St} {ρ : List (Option D)} {R : D → List O → Prop} {ty : TA}
theorem e_drawG (i : Nat) {X : XK} (h : EvA K ty ρ l fun ds l1 => ∃ most o, ds = [.own i, .f (.int most)] ∧ l1[i]? = some o ∧ IsPenG o ∧ 0 < most ∧ most < 1073741824 ∧ ∀ r o', 0 ≤ r → r < most → IsPenG o' → R (.f (.int r)) (l1.set i o')) :
    EvS K (tCall (P3 K S_drawG) [] X ty) ρ l R := e_call1 i fun m B H σ S e Q q => h m B H σ S e Q fun vs m' B' H' ds l' s S' r z => q vs m' B' H' ds l' s S' r (by
  obtain ⟨most, o, rfl, ho, hp, h1, h2, z⟩ := z
  refine ⟨o, [.own 0, .f (.int most)], ho, hp.free, by simp [backs], o, most, rfl, rfl, hp, h1, h2, fun r o' h3 h4 h5 => ⟨o', [], rfl, ?_⟩⟩
  rw [h5.shift1]
  have w := z r o' h3 h4 h5
  rw [List.map_nil, List.append_nil]
  exact w)
/-! dict displays with references -/
end
/-! a, b = a list with references -/
section
variable {X : Cx}
theorem u_lst {K : PySem.W.Frag} (hK : X.K = K) {es : List Expr} {k : Nat} {t : TGs} {n : Nat} {pos : Pos} (hc : X.calm = true) (h : PGs X es t)
    (hn : (assignEach es X.env).length = n := by rfl) (hst : (assignEach es X.env).findIdx? (·.1) = none := by rfl) : L2.PG X (.Tuple es k pos) (gLst K n t) := by
  subst hK
  exact pg_lst hc h hn hst
end
section
variable {K : PySem.W.Frag} {l : List O} {ρ : List (Option D)} {gs : TGs}
theorem g_lst {n k : Nat} {ds : List D} {R : List (Option D) → List O → Prop} (ho : l[k]? = some (.rfs ds)) (hn : ds.length = n) (h : AssS K gs ds ρ l R) : AsS K (gLst K n gs) (.own k) ρ l R := fun m B H σ v S e hv Q q => by
  obtain ⟨a, rfl, ha⟩ := hv
  obtain ⟨⟨xs, e1, r⟩, _⟩ := S.obj k a _ ha ho
  exact ⟨_, xs, rfl, SqL.of e1, by rw [pair_len r]; exact hn, h m B H σ _ S e r Q q⟩
theorem gg_lst {n : Nat} {vs : List Nat} (h : GGs gs vs) : GG (gLst K n gs) vs := fun v σ H Q q => by
  obtain ⟨a, xs, e1, e2, e3, q⟩ := q
  exact ⟨a, xs, e1, e2, e3, h xs σ H Q q⟩
end
end L3
/-! L3zzzo: knots that grow in a store of lists -/
namespace L3
open PySem L2
/-- the pen at 0, the list of knots at 3, how deep they are at 4; each knot a list of its name and its own list -/
structure TreeG (l : List O) (ks : Knots) (ps : List (Nat × Nat)) (kvs : List (Key × PyData)) (o : O) : Prop where
  pen : l[0]? = some o
  isp : IsPenG o
  rfs : l[3]? = some (.rfs (ps.map fun p => D.own p.1))
  dct : l[4]? = some (.dct kvs)
  nd : (ps.map (·.2)).Nodup
  ne : ∀ p ∈ ps, p.1 ≠ 3
  len : ps.length = ks.length
  at_ : ∀ (i : Nat) p k, ps[i]? = some p → ks[i]? = some k → l[p.1]? = some (.rfs [.f (.str k.1), .own p.2]) ∧ l[p.2]? = some (.lst (sPy k.2))
theorem IsPenG.form {o : O} (h : IsPenG o) : ∃ ds, o = .dctD ds := by
  obtain ⟨s, a, b, rfl, _⟩ := h
  exact ⟨_, rfl⟩
section
variable {l : List O} {ks : Knots} {ps : List (Nat × Nat)} {kvs kvs' : List (Key × PyData)} {o o2 : O}
theorem TreeG.knot (h : TreeG l ks ps kvs o) {i : Nat} {k : Str × List Str} (hk : ks[i]? = some k) : ∃ p, ps[i]? = some p := by
  have hi := (List.getElem?_eq_some_iff.mp hk).1
  exact ⟨ps[i]'(by rw [h.len]; exact hi), List.getElem?_eq_getElem _⟩
theorem TreeG.take1 (h : TreeG l ks ps kvs o) : l.take 1 = [o] := by
  have e := h.pen
  cases l with
  | nil => simp at e
  | cons a l => simp at e; subst e; rfl
theorem TreeG.drawn (h : TreeG l ks ps kvs o) (h2 : IsPenG o2) : TreeG (l.set 0 o2) ks ps kvs o2 := by
  obtain ⟨d1, e1⟩ := h.isp.form
  exact {
    pen := set_get_eq h.pen
    isp := h2
    rfs := by rw [List.getElem?_set_ne (by decide)]; exact h.rfs
    dct := by rw [List.getElem?_set_ne (by decide)]; exact h.dct
    nd := h.nd
    ne := h.ne
    len := h.len
    at_ := fun i p k a b => by
      obtain ⟨g1, g2⟩ := h.at_ i p k a b
      exact ⟨set_get_ne h.pen g1 (by rw [e1]; nofun), set_get_ne h.pen g2 (by rw [e1]; nofun)⟩ }
theorem TreeG.lev (h : TreeG l ks ps kvs o) : TreeG (l.set 4 (.dct kvs')) ks ps kvs' o where
  pen := by rw [List.getElem?_set_ne (by decide)]; exact h.pen
  isp := h.isp
  rfs := by rw [List.getElem?_set_ne (by decide)]; exact h.rfs
  dct := set_get_eq h.dct
  nd := h.nd
  ne := h.ne
  len := h.len
  at_ := fun i p k a b => by
    obtain ⟨g1, g2⟩ := h.at_ i p k a b
    exact ⟨set_get_ne h.dct g1 nofun, set_get_ne h.dct g2 nofun⟩
theorem TreeG.put (h : TreeG l ks ps kvs o) {i : Nat} {p : Nat × Nat} {k : Str} {xs ys : List Str} (hp : ps[i]? = some p) (hk : ks[i]? = some (k, xs)) : TreeG (l.set p.2 (.lst (sPy ys))) (ks.set i (k, ys)) ps kvs o := by
  obtain ⟨d1, e1⟩ := h.isp.form
  obtain ⟨b1, b2⟩ := h.at_ i p _ hp hk
  have hlt : i < ks.length := (List.getElem?_eq_some_iff.mp hk).1
  exact {
    pen := set_get_ne b2 h.pen (by rw [e1]; nofun)
    isp := h.isp
    rfs := set_get_ne b2 h.rfs nofun
    dct := set_get_ne b2 h.dct nofun
    nd := h.nd
    ne := h.ne
    len := by rw [List.length_set]; exact h.len
    at_ := fun n q k' a b => by
      by_cases e : n = i
      · subst e
        rw [hp] at a
        cases a
        rw [List.getElem?_set_self hlt] at b
        cases b
        exact ⟨set_get_ne b2 b1 nofun, set_get_eq b2⟩
      · rw [List.getElem?_set_ne (fun q => e q.symm)] at b
        obtain ⟨g1, g2⟩ := h.at_ n q k' a b
        refine ⟨set_get_ne b2 g1 nofun, ?_⟩
        rw [List.getElem?_set_ne]
        · exact g2
        · intro e2
          have z1 : (ps.map (·.2))[n]? = some q.2 := by rw [List.getElem?_map, a]; rfl
          have z2 : (ps.map (·.2))[i]? = some q.2 := by rw [List.getElem?_map, hp, ← e2]; rfl
          obtain ⟨l1, c1⟩ := List.getElem?_eq_some_iff.mp z1
          obtain ⟨l2, c2⟩ := List.getElem?_eq_some_iff.mp z2
          apply e
          rw [← h.nd.idxOf_getElem n l1, ← h.nd.idxOf_getElem i l2, c1, c2] }
theorem TreeG.group (h : TreeG l ks ps kvs o) {x : Str} : TreeG ((l ++ [O.lst [], O.rfs [D.f (.str x), D.own l.length]]).set 3 (O.rfs (ps.map (fun p => D.own p.1) ++ [.own (l.length + 1)]))) (ks ++ [(x, [])]) (ps ++ [(l.length + 1, l.length)]) kvs o := by
  obtain ⟨d1, e1⟩ := h.isp.form
  have h4 := (List.getElem?_eq_some_iff.mp h.dct).1
  have up : ∀ {i : Nat} {y : O}, l[i]? = some y → (l ++ [O.lst [], O.rfs [D.f (.str x), D.own l.length]])[i]? = some y := fun e => by
    rw [List.getElem?_append_left (List.getElem?_eq_some_iff.mp e).1]; exact e
  have n1 : (l ++ [O.lst [], O.rfs [D.f (.str x), D.own l.length]])[l.length]? = some (.lst []) := by rw [List.getElem?_append_right (Nat.le_refl _), Nat.sub_self]; rfl
  have n2 : (l ++ [O.lst [], O.rfs [D.f (.str x), D.own l.length]])[l.length + 1]? = some (.rfs [.f (.str x), .own l.length]) := by rw [List.getElem?_append_right (by omega), Nat.add_sub_cancel_left]; rfl
  exact {
    pen := by rw [List.getElem?_set_ne (by decide)]; exact up h.pen
    isp := h.isp
    rfs := by rw [List.map_append]; exact set_get_eq (up h.rfs)
    dct := by rw [List.getElem?_set_ne (by decide)]; exact up h.dct
    nd := by
      rw [List.map_append]
      refine List.nodup_append.mpr ⟨h.nd, by simp, fun a ha b hb e => ?_⟩
      have hb : b = l.length := List.mem_singleton.mp hb
      subst hb e
      obtain ⟨q, hq, e⟩ := List.mem_map.mp ha
      obtain ⟨n, hn⟩ := List.getElem?_of_mem hq
      have hl : n < ks.length := by rw [← h.len]; exact (List.getElem?_eq_some_iff.mp hn).1
      have g := (h.at_ n q _ hn (List.getElem?_eq_getElem hl)).2
      have := (List.getElem?_eq_some_iff.mp g).1
      omega
    ne := fun p hp => by
      rcases List.mem_append.mp hp with hp | hp
      · exact h.ne p hp
      · cases List.mem_singleton.mp hp
        show l.length + 1 ≠ 3
        omega
    len := by rw [List.length_append, List.length_append, h.len]; rfl
    at_ := fun n q k' a b => by
      have key : (ps[n]? = some q ∧ ks[n]? = some k') ∨ (q = (l.length + 1, l.length) ∧ k' = (x, [])) := by
        rcases Nat.lt_or_ge n ps.length with c | c
        · rw [List.getElem?_append_left c] at a
          rw [List.getElem?_append_left (by rw [← h.len]; exact c)] at b
          exact .inl ⟨a, b⟩
        · rw [List.getElem?_append_right c] at a
          rw [List.getElem?_append_right (by rw [← h.len]; exact c), ← h.len] at b
          have e : n - ps.length = 0 := by
            have := (List.getElem?_eq_some_iff.mp a).1
            simp at this
            omega
          rw [e] at a b
          cases a
          cases b
          exact .inr ⟨rfl, rfl⟩
      rcases key with ⟨a, b⟩ | ⟨rfl, rfl⟩
      · obtain ⟨g1, g2⟩ := h.at_ n q k' a b
        refine ⟨?_, set_get_ne (up h.rfs) (up g2) nofun⟩
        rw [List.getElem?_set_ne fun e => h.ne q (List.mem_of_getElem? a) e.symm]
        exact up g1
      · refine ⟨?_, set_get_ne (up h.rfs) n1 nofun⟩
        rw [List.getElem?_set_ne (show 3 ≠ l.length + 1 by omega)]
        exact n2 }
end
end L3
/-! L3zzzp: tuples, plain or not, read alike; houses of such -/
namespace L3
open PySem L2
/-- a tuple, known to be plain or not -/
def TupD (x : PyData) (ds : List PyData) : Prop := x = .tuple ds ∨ x = plD ds
section
variable {X : Cx}
def rSlUA (K : PySem.W.Frag) : V → Option Int → Option Int → Hp → VK → Prop := fun x lo hi H Q => rSlU K x lo hi H Q ∨ rSlA K x lo hi H Q
theorem u_slA {K : PySem.W.Frag} (hK : X.K = K) : SlR X (rSlUA K) := by
  have h1 := u_sl (X := X) hK
  subst hK
  exact SlR.or h1 sl_tupA
end
section
variable {K : PySem.W.Frag} {m m' : List Addr} {B B' H H' : Hp} {l : List O} {ρ : List (Option D)} {R : D → List O → Prop} {E : E3} {te tl : TE} {tt : TT} {t u : TS} {ty : TA} {g : TG}
theorem td_at (S : SR K m B H l) {v : V} {x : PyData} {ds : List PyData} (r : VR K m B v (.f x)) (h : TupD x ds) : ∃ a xs, v = .ref a ∧ SqT K H a xs ∧ FRs K B xs ds := by
  rcases h with rfl | rfl
  · cases r with
    | tup h1 h2 => exact ⟨_, _, rfl, sqT_same S.sub h1.sq, h2⟩
  · obtain ⟨a, us, o, rfl, ha, _, q⟩ := pl_at S r
    exact ⟨a, us, rfl, .inl (.inr ⟨o, ha⟩), q⟩
theorem itok_td {a : Addr} {x : PyData} {ds : List PyData} (ht : TupD x ds) (hx : VR K m B (.ref a) (.f x)) : ItOk K m B (Itt K a) (fun l' => True) ds.length (fun i => .f (ds.getD i .none)) := fun i m' B' H' l' hs hp S _ => by
  obtain ⟨a', us, ea, h1', q⟩ := td_at S (hx.up hs hp) ht
  cases ea
  have hl := q.length
  refine ⟨fun hi => ?_, fun hi => ⟨us, h1', by omega⟩⟩
  have hd : ds[i]? = some ds[i] := by simp [hi]
  obtain ⟨v, hv, rv⟩ := q.get hd
  refine ⟨⟨us, v, h1', hv⟩, fun y H3 ⟨eH, hy⟩ => ?_⟩
  subst eH
  have := hy us h1'
  rw [hv] at this; cases this
  refine ⟨B', Step.refl _ _ _, S, ?_⟩
  show FR K B' v (ds.getD i .none)
  rw [List.getD_eq_getElem?_getD, hd]
  exact rv
theorem i_seqTD {R : (List O → Prop) → Nat → (Nat → D) → List O → Prop} (h : EvS K tl ρ l fun x l1 => ∃ y ds, x = .f y ∧ TupD y ds ∧ R (fun _ => True) ds.length (fun i => .f (ds.getD i .none)) l1) : EvI K (iSeq K tl) ρ l R := fun m B H σ S e Rt q => by
  refine h m B H σ S e _ fun v m1 B1 H1 x l1 s1 S1 r1 ⟨y, ds, ex, ht, z⟩ => ?_
  subst ex
  obtain ⟨a, us, rfl, ha, qq⟩ := td_at S1 r1 ht
  exact ⟨a, rfl, .inr ⟨⟨us, ha⟩, q (Itt K a) m1 B1 H1 l1 _ _ _ s1 S1 (fun i m' B' H' l' hs hp S' P => itok_td ht r1 i m' B' H' l' hs hp S' trivial) z⟩⟩
theorem x_forTD (h : EvS K tl ρ l fun x l1 => ∃ y ds, x = .f y ∧ TupD y ds ∧ ∃ I : Nat → List (Option D) → List O → Prop, I 0 ρ l1 ∧
      (∀ i d ρ' l', ds[i]? = some d → I i ρ' l' → AsS K g (.f d) ρ' l' fun ρ2 l2 => ExS K t ρ2 l2 ⟨I (i + 1), E.rt, E.nx, I (i + 1)⟩) ∧ ∀ ρ' l', I ds.length ρ' l' → E.nx ρ' l') : ExS K (tFor (iSeq K tl) g t) ρ l E :=
  x_for (i_seqTD (h.imp fun x l1 ⟨y, ds, hy, hq, I, h0, hs, hd⟩ => ⟨y, ds, hy, hq, I, h0, fun _ _ _ _ _ => trivial, fun i ρ' l' hi z => by
    have e : ds[i]? = some (ds.getD i .none) := by rw [List.getD_eq_getElem?_getD]; simp [hi]
    exact hs i _ ρ' l' e z, hd⟩))
theorem xs_forTD (h : EvS K tl ρ l fun x l1 => ∃ y ds, x = .f y ∧ TupD y ds ∧ ∃ I : Nat → List (Option D) → List O → Prop, I 0 ρ l1 ∧
      (∀ i d ρ' l', ds[i]? = some d → I i ρ' l' → AsS K g (.f d) ρ' l' fun ρ2 l2 => ExS K t ρ2 l2 ⟨I (i + 1), E.rt, fun ρ3 l3 => ExS K u ρ3 l3 E, I (i + 1)⟩) ∧ ∀ ρ' l', I ds.length ρ' l' → ExS K u ρ' l' E) : ExS K (tSeq (tFor (iSeq K tl) g t) u) ρ l E :=
  x_seq (x_forTD h)
theorem e_lcTD {vs : List Nat} (hg : GG g vs) (h : EvS K tl ρ l fun x l1 => ∃ y ds, x = .f y ∧ TupD y ds ∧ ∃ I : Nat → List PyData → List O → Prop, I 0 [] l1 ∧ (∀ i acc l', i ≤ ds.length → I i acc l' → acc.length ≤ 100000) ∧
      (∀ i d acc l', ds[i]? = some d → I i acc l' → AsS K g (.f d) (wipe3 ρ vs) l' fun ρ2 l2 => EvT K tt ρ2 l2 fun b l3 => if b = true then EvS K te ρ2 l3 fun d l4 => ∃ y, d = .f y ∧ I (i + 1) (acc ++ [y]) l4 else I (i + 1) acc l3) ∧
      ∀ acc l', I ds.length acc l' → R (.own l'.length) (l' ++ [.lst acc])) : EvS K (tLc (iSeq K tl) g tt te vs) ρ l R :=
  e_lc (good_of hg) (i_seqTD (h.imp fun x l1 ⟨y, ds, hy, hq, I, h0, hP, hs, hd⟩ => ⟨y, ds, hy, hq, I, h0, fun i acc l' hi z => ⟨trivial, hP i acc l' hi z⟩, fun i acc l' hi z => by
    have e : ds[i]? = some (ds.getD i .none) := by rw [List.getD_eq_getElem?_getD]; simp [hi]
    exact hs i _ acc l' e z, hd⟩))
/-- a pure comprehension over a tuple, plain or not -/
theorem e_lcTF {vs : List Nat} (F : PyData → Option PyData) (hg : GG g vs) (h : EvS K tl ρ l fun x l1 => ∃ y ds, x = .f y ∧ TupD y ds ∧ ds.length ≤ 100000 ∧
      (∀ d, d ∈ ds → AsS K g (.f d) (wipe3 ρ vs) l1 fun ρ2 l2 => EvT K tt ρ2 l2 fun b l3 => if b = true then EvS K te ρ2 l3 fun z l4 => ∃ y, z = .f y ∧ F d = some y ∧ l4 = l1 else F d = none ∧ l3 = l1) ∧
      R (.own l1.length) (l1 ++ [.lst (ds.filterMap F)])) : EvS K (tLc (iSeq K tl) g tt te vs) ρ l R := by
  refine e_lcTD hg (h.imp fun x l1 ⟨y, ds, hy, hq, hl, hs, hd⟩ => ⟨y, ds, hy, hq, fun i acc l' => l' = l1 ∧ acc = (ds.take i).filterMap F, ⟨rfl, by simp⟩, ?_, ?_, ?_⟩)
  · rintro i acc l' hi ⟨rfl, rfl⟩
    refine Nat.le_trans (List.length_filterMap_le _ _) ?_
    rw [List.length_take]; omega
  · rintro i d acc l' hdi ⟨rfl, rfl⟩
    refine (hs d (List.mem_of_getElem? hdi)).imp fun ρ2 l2 h2 => h2.imp fun b l3 z => ?_
    cases b with
    | true =>
      rw [if_pos rfl] at z ⊢
      refine z.imp fun w l4 ⟨y, e1, e2, e3⟩ => ⟨y, e1, e3, ?_⟩
      rw [take_next hdi, List.filterMap_append, List.filterMap_cons, e2]
      rfl
    | false =>
      rw [if_neg (by decide)] at z ⊢
      refine ⟨z.2, ?_⟩
      rw [take_next hdi, List.filterMap_append, List.filterMap_cons, z.1]
      simp
  · rintro acc l' ⟨rfl, rfl⟩
    rw [List.take_length]
    exact hd
theorem o_ixTD {x : PyData} {ds : List PyData} {i : Int} {d : PyData} (ht : TupD x ds) (hd : atI ds i = some d) (z : R (.f d) l) : OpS K (rIxU K) (.f x) (.f (.int i)) l R := fun m B H vx vy S r1 r2 Q q => by
  obtain ⟨a, us, rfl, ha, q1⟩ := td_at S r1 ht
  obtain ⟨v, ev, rv⟩ := frs_at q1 hd
  exact .inl (.inr (.inl ⟨a, us, i, v, rfl, int_of r2, ha, ev, ret0 (d := .f d) S q rv z⟩))
theorem o_inTS {neg : Bool} {x : Str} {y : PyData} {xs : List Str} (ht : TupD y (sPy xs)) (z : R (.f (.bool (if neg then !decide (x ∈ xs) else decide (x ∈ xs)))) l) : OpS K (rInU K neg) (.f (.str x)) (.f y) l R := fun m B H vx vy S r1 r2 Q q => by
  obtain ⟨a, us, e1, ha, q1⟩ := td_at S r2 ht
  have eu := frs_str q1
  subst eu
  refine .inl ⟨a, _, e1, .inr ha, by rw [str_of r1]; rfl, flat_str xs, ?_⟩
  rw [str_of r1, inV_str]
  exact retF S q (FR.bl _) z
theorem c_lenTD {x : PyData} {ds : List PyData} (ht : TupD x ds) (z : R (.f (.int ds.length)) l) : CaS K (rLenU K) [.f x] l R := fun m B H vs S r Q q => by
  cases r with
  | cons r1 r2 =>
    cases r2
    obtain ⟨a, us, e1, ha, q1⟩ := td_at S r1 ht
    refine .inl ⟨a, us, by rw [e1], .inr ha, ?_⟩
    rw [q1.length]
    exact retF S q (FR.int _) z
theorem c_listTD {x : PyData} {ds : List PyData} (ht : TupD x ds) (z : R (.own l.length) (l ++ [.lst ds])) : CaS K (rListOf K) [.f x] l R := fun m B H vs S r Q q => by
  cases r with
  | cons r1 r2 =>
    cases r2
    obtain ⟨a, us, rfl, ha, pr⟩ := td_at S r1 ht
    exact ⟨a, us, rfl, .inr ha, fun p hp => retL S q hp pr z⟩
/-- t[lo:hi] -/
theorem s_TD {x : PyData} {ds : List PyData} {lo hi : Option Int} (ht : TupD x ds) (z : ∀ y, TupD y (cutD ds lo hi) → R (.f y) l) : SlS K (rSlUA K) (.f x) lo hi l R := fun m B H vx S r1 Q q => by
  obtain ⟨a, us, rfl, ha, pr⟩ := td_at S r1 ht
  refine .inr ⟨a, us, rfl, ha, fun hw => ?_, fun hw p hp => retT S q hp (frs_cut pr) (z _ (.inl rfl))⟩
  rw [pr.length] at hw
  have e : cutD ds lo hi = ds := by
    unfold cutD
    rw [hw.1, hw.2, List.drop_zero, Nat.sub_zero, List.take_length]
  exact ret0 (d := .f x) S q r1 (z x (by rw [e]; exact ht))
end
theorem unplAll_of {x : PyData} {ds : List PyData} (h : TupD x ds) : unpl x = .tuple (unplAll ds) := by
  rcases h with rfl | rfl
  · unfold unpl; rfl
  · exact unpl_plD ds
/-! houses -/
def KnotD (x : PyData) (k : Str × List Str) : Prop := ∃ y, x = .tuple [.str k.1, y] ∧ TupD y (sPy k.2)
structure HouseR (d : PyData) (ks : Knots) (ts wt ws : Ties) : Prop where
  ex : ∃ kd xs td wd sd, d = .tuple [kd, td, wd, sd] ∧ TupD kd xs ∧ Paired KnotD xs ks ∧ TupD td (pPy ts) ∧ TupD wd (pPy wt) ∧ TupD sd (pPy ws)
theorem knotsD_get {xs : List PyData} {ks : Knots} (h : Paired KnotD xs ks) : ∀ {i : Nat} {x : PyData}, xs[i]? = some x → ∃ k, ks[i]? = some k ∧ KnotD x k := by
  induction h with
  | nil => intro i x e; simp at e
  | @cons x k xs ks h t ih =>
    intro i y e
    cases i with
    | zero => cases e; exact ⟨k, rfl, h⟩
    | succ i => exact ih (by simpa using e)
theorem ksPy_knots : ∀ ks : Knots, Paired KnotD (ksPy ks) ks
  | [] => .nil
  | k :: ks => .cons ⟨_, rfl, .inr rfl⟩ (ksPy_knots ks)
end L3
/-! L3zzzq: dict(knots)[k], of knots plain or not within -/
namespace L3
open PySem L2
end L3
/-! L3zzzr: tuples of texts that stand in the globals; isinstance of a list or a tuple, either way; defs that aren't reached -/
namespace L3
open PySem L2
/-- a global that is a tuple of texts -/
def GTup (K : PySem.W.Frag) (mg : Str → Option Value) (x : Str) (xs : List Str) : Prop := ∃ a : Addr, mg x = some (.ref a) ∧ ∀ H : Hp, SqT K H a (xs.map V.str)
section
variable {X : Cx} {x : Str} {pos : Pos}
theorem pe_gk {a : Addr} {K : PySem.W.Frag} {xs : List Str} (hg : Gl X x) (hm : GTup K X.mg x xs) (ha : a = hm.choose) (hd : (x == ("__debug__" : Str)) = false := by decide) : PE X (.Name x pos) (tC (.ref a)) := by
  subst ha
  exact pe_glob hg hm.choose_spec.1 rfl hd
end
section
variable {K : PySem.W.Frag} {m m' : List Addr} {B B' H H' : Hp} {l : List O} {ρ : List (Option D)} {R : D → List O → Prop} {te ta : TE}
theorem e_inK {neg : Bool} {mg : Str → Option Value} {y : Str} {xs : List Str} (hm : GTup K mg y xs) (h : EvS K ta ρ l fun x l1 => ∃ s, x = .f (.str s) ∧ R (.f (.bool (if neg then !decide (s ∈ xs) else decide (s ∈ xs)))) l1) : EvS K (tOp (rInU K neg) ta (tC (.ref hm.choose))) ρ l R := fun m B H σ S e Q q => by
  refine h m B H σ S e _ fun v m1 B1 H1 x l1 s1 S1 r1 ⟨s, ex, z⟩ => ?_
  subst ex
  refine .inl ⟨_, xs.map V.str, rfl, .inr (hm.choose_spec.2 H1), by rw [str_of r1]; rfl, flat_str xs, ?_⟩
  rw [str_of r1, inV_str]
  exact q _ _ _ _ (.f (.bool _)) _ s1 S1 (FR.bl _) z
theorem e_isiLTB (h : EvS K te ρ l fun x l1 => ∃ t a b, TyD l1 x t ∧ kitB t "list" = some a ∧ kitB t "tuple" = some b ∧ R (.f (.bool (a || b))) l1) : EvS K (tCB (rIsiU K) (tCons te (tCons (tTup (tCons (tC (.ty "list")) (tCons (tC (.ty "tuple")) tNil))) tNil))) ρ l R := fun m B H σ S e Q q => by
  refine h m B H σ S e _ fun v m1 B1 H1 x l1 s1 S1 r1 ⟨t, a, b, ht, ka, kb, z⟩ => ?_
  refine ⟨by show 2 ≤ sizeLine; rw [sizeLine_eq]; omega, fun p hp => ?_⟩
  obtain ⟨S2, s2, e2⟩ := S1.allocF (u := .tup [.ty "list", .ty "tuple"]) hp
  refine .inr ⟨v, p, [.ty "list", .ty "tuple"], .type t, [.type "list", .type "tuple"], a || b, rfl, upd_same, .cons (.ty "list") (.cons (.ty "tuple") .nil), ty_of S2 (r1.step s2) ht, ?_, q _ _ _ _ (.f (.bool (a || b))) _ (s1.trans s2) S2 (FR.bl _) z⟩
  have k1 := kit_ty (K := K) ka
  have k2 := kit_ty (K := K) kb
  unfold PySem.W.kitAny
  rw [k1]
  cases a with
  | true => rfl
  | false =>
    show PySem.W.kitAny K (.type t) [.type "tuple"] = _
    unfold PySem.W.kitAny
    rw [k2]
    cases b <;> rfl
end
end L3
/-! L3zzzs: what is told of houses, and houses with knots told anew, as plain lists -/
namespace L3
open PySem L2
section
variable {K : PySem.W.Frag} {m m' : List Addr} {B B' H H' : Hp} {l : List O} {ρ : List (Option D)} {R : D → List O → Prop}
theorem m_extendTD {n : Nat} {x : PyData} {ds es : List PyData} (ht : TupD x es) (h : l[n]? = some (.lst ds)) (hl : ds.length + es.length ≤ 100000) (z : R (.f .none) (l.set n (.lst (ds ++ es)))) : MeS K (rExtendT K) (.own n) [.f x] l R := fun m B H vx vs S r1 r2 Q q => by
  obtain ⟨a, rfl, ha⟩ := r1
  obtain ⟨⟨xs, e, pr⟩, hb⟩ := S.obj n a _ ha h
  cases r2 with
  | cons r2 r3 =>
    cases r3
    obtain ⟨b, zs, rfl, hbq, p2⟩ := td_at S r2 ht
    exact ⟨a, b, xs, zs, rfl, rfl, e, hbq, small (by rw [pr.length, p2.length]; exact hl), writeL S q ha (hb (by simp)) (pr.append p2) FR.non z⟩
end
def unitsF (ks : Knots) : List Str := ks.flatMap (·.2)
def groupsF (ks : Knots) : List Str := ks.tail.map (·.1)
end L3
/-! L3zzzt: d.get(k, x); dict(knots).get(k, ()) -/
namespace L3
open PySem L2
end L3
/-! L3zzzu: plain tuples put together and cut are plain -/
namespace L3
open PySem L2 PySem.Spec PyProof.Rows
end L3
/-! L3zzzv: two tuples with something in them put together are a plain one -/
namespace L3
open PySem L2 PySem.Spec PyProof.Rows
end L3
/-! L3zzzw: a call whose arguments may raise -/
namespace L3
open PySem L2
end L3
/-! L3zzzx: list.pop(i) -/
namespace L3
open PySem L2
end L3
/-! L3zzzy: sorted pairs of texts -/
namespace L3
open PySem L2 PySem.Spec PyProof.Rows
end L3
/-! L3zzzz: a dict beside other data: never equal -/
namespace L3
open PySem PySem.Calls PyProof.Rows PyProof.V PySem.Spec PySem.SeqAt PySem.W
end L3
/-! L3zzzza: data of any sort, dicts of nothing or of one text too: ==, in -/
namespace L3
open PySem L2 PySem.SeqAt
end L3
/-! L3zzzzb: data of any sort, small enough to be shown; what is told of its type -/
namespace L3
open PySem L2
def OddL (n k : Nat) (ds : List PyData) : Prop := briefQs (unplAll ds) = true ∧ wtQs (unplAll ds) ≤ n ∧ PyData.depthAll (unplAll ds) ≤ k
def Odd (n k : Nat) (d : PyData) : Prop := briefQ (unpl d) = true ∧ wtQ (unpl d) ≤ n ∧ (unpl d).depth ≤ k
theorem unplAll_app (a b : List PyData) : unplAll (a ++ b) = unplAll a ++ unplAll b := by
  induction a with
  | nil => rfl
  | cons x xs ih =>
    show unpl x :: unplAll (xs ++ b) = unpl x :: (unplAll xs ++ unplAll b)
    rw [ih]
theorem briefQs_app (a b : List PyData) : briefQs (a ++ b) = (briefQs a && briefQs b) := by
  induction a with
  | nil => simp [briefQs]
  | cons x xs ih =>
    show (briefQ x && briefQs (xs ++ b)) = ((briefQ x && briefQs xs) && briefQs b)
    rw [ih, Bool.and_assoc]
theorem wtQs_app (a b : List PyData) : wtQs (a ++ b) = wtQs a + wtQs b := by
  induction a with
  | nil => simp [wtQs]
  | cons x xs ih =>
    show wtQ x + 2 + wtQs (xs ++ b) = wtQ x + 2 + wtQs xs + wtQs b
    rw [ih]
    omega
theorem depthAll_app (a b : List PyData) : PyData.depthAll (a ++ b) = max (PyData.depthAll a) (PyData.depthAll b) := by
  induction a with
  | nil => simp [PyData.depthAll]
  | cons x xs ih =>
    show max x.depth (PyData.depthAll (xs ++ b)) = max (max x.depth (PyData.depthAll xs)) (PyData.depthAll b)
    rw [ih, Nat.max_assoc]
theorem OddL.nil (n k : Nat) : OddL n k [] := ⟨rfl, Nat.zero_le _, Nat.zero_le _⟩
theorem OddL.app {n m k : Nat} {a b : List PyData} (h1 : OddL n k a) (h2 : OddL m k b) : OddL (n + m) k (a ++ b) := by
  obtain ⟨a1, a2, a3⟩ := h1
  obtain ⟨b1, b2, b3⟩ := h2
  refine ⟨by rw [unplAll_app, briefQs_app, a1, b1]; rfl, by rw [unplAll_app, wtQs_app]; omega, by rw [unplAll_app, depthAll_app]; exact Nat.max_le.mpr ⟨a3, b3⟩⟩
theorem OddL.cons {n m k : Nat} {d : PyData} {ds : List PyData} (h1 : Odd n k d) (h2 : OddL m k ds) : OddL (n + 2 + m) k (d :: ds) := by
  obtain ⟨a1, a2, a3⟩ := h1
  obtain ⟨b1, b2, b3⟩ := h2
  refine ⟨?_, ?_, ?_⟩
  · show (briefQ (unpl d) && briefQs (unplAll ds)) = true
    rw [a1, b1]; rfl
  · show wtQ (unpl d) + 2 + wtQs (unplAll ds) ≤ _
    omega
  · show max (unpl d).depth (PyData.depthAll (unplAll ds)) ≤ k
    exact Nat.max_le.mpr ⟨a3, b3⟩
theorem OddL.one {n k : Nat} {d : PyData} (h : Odd n k d) : OddL (n + 2) k [d] := OddL.cons h (OddL.nil 0 k)
theorem OddL.mono {n m k j : Nat} {ds : List PyData} (h : OddL n k ds) (h1 : n ≤ m) (h2 : k ≤ j) : OddL m j ds := ⟨h.1, Nat.le_trans h.2.1 h1, Nat.le_trans h.2.2 h2⟩
theorem Odd.mono {n m k j : Nat} {d : PyData} (h : Odd n k d) (h1 : n ≤ m) (h2 : k ≤ j) : Odd m j d := ⟨h.1, Nat.le_trans h.2.1 h1, Nat.le_trans h.2.2 h2⟩
theorem OddL.mem {n k : Nat} {ds : List PyData} (h : OddL n k ds) {d : PyData} (hd : d ∈ ds) : Odd n k d := by
  induction ds with
  | nil => cases hd
  | cons x xs ih =>
    obtain ⟨b1, b2, b3⟩ := h
    have c1 : briefQ (unpl x) = true ∧ briefQs (unplAll xs) = true := by simpa [unplAll, briefQs] using b1
    have c2 : wtQ (unpl x) + 2 + wtQs (unplAll xs) ≤ n := b2
    have c3 : max (unpl x).depth (PyData.depthAll (unplAll xs)) ≤ k := b3
    have c4 := Nat.max_le.mp c3
    rcases List.mem_cons.mp hd with rfl | hd
    · exact ⟨c1.1, by omega, c4.1⟩
    · exact ih ⟨c1.2, by omega, c4.2⟩ hd
theorem OddL.list {n k : Nat} {ds : List PyData} (h : OddL n k ds) : Odd (n + 3) (k + 1) (.list ds) := by
  obtain ⟨b1, b2, b3⟩ := h
  refine ⟨?_, ?_, ?_⟩
  · simpa [unpl, briefQ] using b1
  · simp only [unpl, wtQ]; omega
  · simp only [unpl, PyData.depth]; omega
theorem OddL.tuple {n k : Nat} {ds : List PyData} (h : OddL n k ds) : Odd (n + 3) (k + 1) (.tuple ds) := by
  obtain ⟨b1, b2, b3⟩ := h
  refine ⟨?_, ?_, ?_⟩
  · simpa [unpl, briefQ] using b1
  · simp only [unpl, wtQ]; omega
  · simp only [unpl, PyData.depth]; omega
theorem Odd.none {k : Nat} : Odd 5 k .none := ⟨rfl, Nat.le_refl _, Nat.zero_le _⟩
theorem Odd.bool {k : Nat} (b : Bool) : Odd 5 k (.bool b) := ⟨rfl, Nat.le_refl _, Nat.zero_le _⟩
theorem Odd.int {k : Nat} {i : Int} (h : i.natAbs < 10 ^ 40) : Odd 42 k (.int i) := ⟨by simpa [unpl, briefQ, brief] using h, Nat.le_refl _, Nat.zero_le _⟩
theorem Odd.str {k : Nat} {x : Str} (h : PyData.strOk x = true) : Odd (10 * x.length + 2) k (.str x) := ⟨by simpa [unpl, briefQ, brief] using h, Nat.le_refl _, Nat.zero_le _⟩
theorem Odd.dict {k : Nat} : Odd 5 (k + 1) (.dict []) := ⟨rfl, by decide, by simp [unpl, PyData.depth, PyData.depthKv]⟩
/-- of a sort that is told by its type -/
theorem ty_odd {d : PyData} (h : briefQ (unpl d) = true) (l : List O) : TyD l (.f d) (tyF d) := by
  cases d with
  | none => rfl
  | bool _ => rfl
  | int _ => rfl
  | str _ => rfl
  | list _ => rfl
  | tuple _ => rfl
  | dict kvs =>
    cases kvs with
    | nil => rfl
    | cons p r =>
      obtain ⟨k, v⟩ := p
      cases r with
      | cons q r => cases k <;> rfl
      | nil =>
        cases k with
        | none => rfl
        | bool _ => rfl
        | int _ => rfl
        | str _ => rfl
        | list _ => rfl
        | dict _ => rfl
        | tuple xs =>
          simp [unpl, briefQ, briefK, keyOkQ] at h
theorem ty_one (d : PyData) : tyF d = "NoneType" ∨ tyF d = "bool" ∨ tyF d = "int" ∨ tyF d = "str" ∨ tyF d = "list" ∨ tyF d = "tuple" ∨ tyF d = "dict" := by
  unfold tyF
  split <;> simp
theorem kit_ty {d : PyData} (n : String) (hn : n = "list" ∨ n = "str" ∨ n = "tuple") : kitB (tyF d) n = some (decide (tyF d = n)) := by
  rcases hn with rfl | rfl | rfl <;> rcases ty_one d with h | h | h | h | h | h | h <;> rw [h] <;> decide +kernel
theorem ty_list {d : PyData} (h : tyF d = "list") : ∃ ds, d = .list ds := by
  unfold tyF at h
  split at h <;> first | exact ⟨_, rfl⟩ | exact absurd h (by decide)
theorem ty_str {d : PyData} (h : tyF d = "str") : ∃ x, d = .str x := by
  unfold tyF at h
  split at h <;> first | exact ⟨_, rfl⟩ | exact absurd h (by decide)
theorem briefs_mem {ds : List PyData} (h : briefQs (unplAll ds) = true) : ∀ d ∈ ds, briefQ (unpl d) = true := by
  induction ds with
  | nil => nofun
  | cons x xs ih =>
    have h2 : briefQ (unpl x) = true ∧ briefQs (unplAll xs) = true := by simpa [unplAll, briefQs] using h
    intro d hd
    rcases List.mem_cons.mp hd with rfl | hd
    · exact h2.1
    · exact ih h2.2 d hd
end L3
/-! L3zzzzc: comprehensions over enumerate, items by number, lengths of joined texts -/
namespace L3
open PySem L2
end L3
/-! L3zzzzd: a, b = a list of data -/
namespace L3
open PySem L2
end L3
/-! L3zzzze: exchanges of numbers; comprehensions over a range told by a function; a local list becomes data; str(int); the place of a number -/
namespace L3
open PySem L2
/-! exchanges of numbers -/
def exI (ys : List Int) (i : Nat) : List Int := ys.take i ++ [ys.getD (i + 1) 0, ys.getD i 0] ++ ys.drop (i + 2)
def ledI : List Int → List Nat → List Int
  | ys, [] => ys
  | ys, i :: is => ledI (exI ys i) is
def tiedI (es : List (Int × Int)) (a b : Int) : Bool := decide ((a, b) ∈ es) || decide ((b, a) ∈ es)
def FreeI (es : List (Int × Int)) : List Int → List Nat → Prop
  | _, [] => True
  | ys, i :: is => (i + 1 < ys.length ∧ tiedI es (ys.getD i 0) (ys.getD (i + 1) 0) = false) ∧ FreeI es (exI ys i) is
theorem FreeI.app {es : List (Int × Int)} : ∀ {a b : List Nat} {ys : List Int}, FreeI es ys (a ++ b) ↔ FreeI es ys a ∧ FreeI es (ledI ys a) b
  | [], b, ys => by simp [FreeI, ledI]
  | i :: a, b, ys => by
    show (_ ∧ FreeI es (exI ys i) (a ++ b)) ↔ (_ ∧ FreeI es (exI ys i) a) ∧ FreeI es (ledI (exI ys i) a) b
    rw [FreeI.app]
    exact and_assoc.symm
end L3
/-! L3zzzzf: xs[a:c] = ys, c perhaps beyond the end -/
namespace L3
open PySem L2
end L3
/-! L3zzzzg: data of any sort != [] -/
namespace L3
open PySem L2 PySem.SeqAt
end L3
/-! L3zzzzh: a text times a number -/
namespace L3
open PySem L2 PySem.SeqAt
end L3
/-! L3zzzzi: try .. except X: without a name -/
namespace L3
open PySem L2 PySem.Spec PyProof.Rows
end L3
/-! L3zzzzj: len(set(xs)) of any numbers -/
namespace L3
open PySem L2 PySem.Spec PyProof.Rows
end L3
/-! L3zzzzk: sorted(xs) of a tuple of texts -/
namespace L3
open PySem L2 PySem.Spec PyProof.Rows
end L3
/-! L3zzzzl: a def that keeps one promise where it doesn't raise, another one where it raises; a loop whose row raises; own dicts as data of which nothing more is told -/
namespace L3
open PySem L2 PySem.Spec PyProof.Rows
/-- the type of data is told -/
def TyOk (d : PyData) : Prop := ∀ l : List O, TyD l (.f d) (tyF d)
theorem TyOk.odd {d : PyData} (h : briefQ (unpl d) = true) : TyOk d := ty_odd h
theorem TyOk.any : TyOk anyD := fun _ => rfl
theorem TyOk.int (i : Int) : TyOk (.int i) := fun _ => rfl
end L3
/-! L3zzzzm: two defs that call one another; data without plain tuples; deeds as data of any sort -/
namespace L3
open PySem L2 PySem.Spec PyProof.Rows
mutual
/-- no plain tuple is in it -/
def npB : PyData → Bool
  | .list xs => npAll xs
  | .tuple xs => npAll xs
  | .dict [(.none, _)] => false
  | _ => true
def npAll : List PyData → Bool
  | [] => true
  | x :: xs => npB x && npAll xs
end
theorem npAll_mem : ∀ {ds : List PyData}, npAll ds = true → ∀ d ∈ ds, npB d = true
  | [], _, _, h => by cases h
  | x :: xs, h, d, hd => by
    have h : npB x = true ∧ npAll xs = true := by simpa [npAll] using h
    rcases List.mem_cons.mp hd with rfl | hd
    · exact h.1
    · exact npAll_mem h.2 d hd
/-- whatever may be looked at: small, without plain tuples -/
structure AnyD (n : Nat) (d : PyData) : Prop where
  odd : Odd n 30 d
  np : npB d = true
structure AnyL (n : Nat) (ds : List PyData) : Prop where
  odd : OddL n 30 ds
  np : npAll ds = true
theorem AnyL.mem {n : Nat} {ds : List PyData} (h : AnyL n ds) {d : PyData} (hd : d ∈ ds) : AnyD n d := ⟨h.odd.mem hd, npAll_mem h.np d hd⟩
theorem oddL_len {n k : Nat} : ∀ {ds : List PyData}, OddL n k ds → 2 * ds.length ≤ n := by
  intro ds
  induction ds generalizing n with
  | nil => exact fun _ => Nat.zero_le _
  | cons d ds ih =>
    intro h
    obtain ⟨h1, h2, h3⟩ := h
    have h1 : briefQ (unpl d) = true ∧ briefQs (unplAll ds) = true := by
      have : briefQs (unpl d :: unplAll ds) = true := h1
      simpa [briefQs] using this
    have h2 : wtQ (unpl d) + 2 + wtQs (unplAll ds) ≤ n := h2
    have h3 : max (unpl d).depth (PyData.depthAll (unplAll ds)) ≤ k := by
      have : PyData.depthAll (unpl d :: unplAll ds) ≤ k := h3
      simpa [PyData.depthAll] using this
    have := ih (n := wtQs (unplAll ds)) ⟨h1.2, Nat.le_refl _, by omega⟩
    rw [List.length_cons]
    omega
theorem AnyL.len {n : Nat} {ds : List PyData} (h : AnyL n ds) : 2 * ds.length ≤ n := oddL_len h.odd
theorem AnyD.ty {n : Nat} {d : PyData} (h : AnyD n d) : TyOk d := .odd h.odd.1
theorem AnyD.mono {n m : Nat} {d : PyData} (h : AnyD n d) (hm : n ≤ m) : AnyD m d := ⟨h.odd.mono hm (Nat.le_refl _), h.np⟩
theorem AnyL.mono {n m : Nat} {ds : List PyData} (h : AnyL n ds) (hm : n ≤ m) : AnyL m ds := ⟨h.odd.mono hm (Nat.le_refl _), h.np⟩
end L3
/-! L3zzzzn: x.replace(a, b, 1) of written texts: some text not much longer; list displays that begin with a written text plus one. -/
namespace PySem
open Builtin Builtin.Str
end PySem
namespace L3
open PySem PySem.Spec PyProof.Rows L2 CwR
end L3
/-! L3zzzzo: defs that are called within an except suite (they neither loop nor raise): CalW, ok4W, pe_calW -/
namespace L3
open PySem L2 PySem.Spec PyProof.Rows
/-- room for k more levels, whatever is handled -/
structure RoomW (k : Nat) (A : Around) : Prop where
  r : L2H.RoomH k A
  g : A.guards = some []
theorem RoomG.w {k : Nat} {A : Around} (h : RoomG k A) : RoomW k A := ⟨L2H.roomH_of h.r, h.g⟩
theorem RoomW.mono {j k : Nat} {A : Around} (h : RoomW k A) (hjk : j ≤ k) : RoomW j A := ⟨h.r.mono hjk, h.g⟩
theorem RoomW.units {k : Nat} {A : Around} (h : RoomW k A) : A.units + 64 < cLine := by have := h.r.un; omega
theorem RoomW.un {k : Nat} {A : Around} (h : RoomW k A) : A.units + 16 * k + 200 < cLine := h.r.un
theorem RoomW.one {k : Nat} {A : Around} (h : RoomW k A) : A.units + 1 < cLine := by have := h.r.un; omega
def cxW (CX : CXT) (P : Program) (w : World) (K : PySem.W.Frag) (mg : Str → Option Value) (base : Heap) (N : List Str) (qual : Str) (scope : Scope) (f : Addr) (cd : Value) (A : Around) (outer : List Env) (s : Shared) (H : Hp) (E : XK) : Cx :=
  { cxOf CX P w K mg base N qual scope f cd A outer s H E with calm := false }
theorem inv_startW {CX : CXT} {P : Program} {w : World} {K : PySem.W.Frag} {mg : Str → Option Value} {base : Heap} {N ps : List Str} {qual : Str} {scope : Scope} {f : Addr} {cd : Value} {A : Around} {outer : List Env} {s s1 : Shared} {H : Hp} {E : XK} {us : List Value} {vs : List V}
    (S : FnScope N ps scope) (e0 : Env0 P w K mg base A outer s H) (hl : vs.length = ps.length) (r : Vals vs us)
    (x : InCallC s s.heap.objs.size (bindL (envOfC qual scope s.heap.objs.size f cd).kindOf (ps.zip us) fun _ => none) (cellsFrom (s.heap.objs.size + 1) scope.names []) (bindC (envOfC qual scope s.heap.objs.size f cd).kindOf (ps.zip us) fun _ => none) s1) :
    Inv (cxW CX P w K mg base N qual scope f cd A outer s H E) [] (L2.start N vs) H s1 := by
  have e1 : Env0 P w K mg base { A with handled := none } outer s H := ⟨e0.frames, e0.mod, e0.bs, e0.bsz, e0.funs, e0.frf, e0.hok, e0.bare⟩
  have I := inv_start (CX := CX) (E := E) (A := { A with handled := none }) S rfl e1 hl r x
  have ok := I.ok
  exact ⟨⟨ok.mod, ok.kind, ok.glob, ok.blt, ok.above, ok.inj, ok.has, ok.cab, (fun z => absurd (show false = true from z) Bool.false_ne_true), Around.frames_deeper e0.frames, ok.stk, ok.exf, ok.bs, ok.bsz, ok.noex, ok.exfs, ok.funs, ok.frf⟩, I.os, I.bare, I.base, I.loc, I.cell, I.free, I.freeC, I.pin, I.hok, I.len⟩
structure FnW (P : Program) (w : World) (K : PySem.W.Frag) (mg : Str → Option Value) (base : Heap) (CX : CXT) (k : Nat) (f : Addr) (fd : FuncData) (ps : List Str) (sp : Sp) : Prop where
  size : ∀ {vs : List V} {H : Hp} {Q : VK} {E : XK}, sp vs H Q E → vs.length = ps.length
  go : ∀ {A : Around} {outer : List Env} {s : Shared} {H : Hp} {args : Args} {us : List Value} {vs : List V} {Q : VK} {E : XK},
    RoomW k A → Env0 P w K mg base A outer s H → BindsTo s fd args (ps.zip us) → Vals vs us → sp vs H Q E → codeAny (model P w) A (.call (.ref f) args) (CR CX outer P w H s Q E) s
theorem fnW {CX : CXT} {P : Program} {w : World} {K : PySem.W.Frag} {mg : Str → Option Value} {base : Heap} {k : Nat} {x qual : Str} {st : Stmt} {f : Addr} {fd : FuncData} {N ps : List Str} {sp : Sp} (F : Fun K x qual st f fd) (sc : FnScope N ps (defScope st))
    (size : ∀ {vs : List V} {H : Hp} {Q : VK} {E : XK}, sp vs H Q E → vs.length = ps.length)
    (body : ∀ (cdv : Value) (A : Around) (outer : List Env) (s : Shared) (H : Hp) (vs : List V) (Q : VK) (E : XK), RoomW k (A.deeper (PyProof.Rows.envOfC qual (defScope st) s.heap.objs.size f cdv)) → sp vs H Q E →
      ∃ t, PSs (cxW CX P w K mg base N qual (defScope st) f cdv A outer s H E) (defBody st) t ∧ t { nx := fun _ H' => Q .non H', rt := Q } (start N vs) H) : FnW P w K mg base CX (k + 1) f fd ps sp := by
  obtain ⟨oc, od, kV, doc, pm, an, cdv, ct, osl, efd, lk, hcd⟩ := F.ex
  cases efd
  refine ⟨size, ?_⟩
  intro A outer s H args us vs Q E hr e0 hb rv hsp
  have inB : ∀ b o, base.get? b = some o → s.heap.get? b = some o := fun b o e => (e0.bs b o e).1
  have inK : K.In s.heap := e0.mod.kin.keeps inB
  have hkind : ∀ y, y ∈ ps.zip us → (defScope st).names.lookup y.1 = some .local ∨ ((defScope st).names.lookup y.1 = some .cell ∧ ((cellsFrom (s.heap.objs.size + 1) (defScope st).names []).lookup y.1).isSome = true) := by
    rintro ⟨n, v⟩ hy
    have hn := (List.of_mem_zip hy).1
    exact (sc.par n hn).imp id fun c => ⟨c, PySem.W.cellsFrom_some _ _ _ (Or.inl c)⟩
  apply codeAny_call_function hr.r.depth (inK f _ lk) rfl sc.co sc.gen rfl (PySem.W.codeRec_of inK hcd)
  apply hb
  refine wpAny_newFunctionEnv_cells sc.kind hkind ?_
  intro env henv s1 ic
  cases henv
  refine ⟨(e0.mod.nolimit.keeps inB).keeps ic.toInCall.keep, codeAny_func ?_⟩
  have hr2 : RoomW k (A.deeper (PyProof.Rows.envOfC qual (defScope st) s.heap.objs.size f cdv)) := ⟨hr.r.deeper _, hr.g⟩
  obtain ⟨t, ht, z⟩ := body cdv A outer s H vs Q E hr2 hsp
  refine wpAny_mono (ht.run [] s1 (start N vs) H _ (inv_startW (E := E) sc e0 (size hsp) rv ic) z) ?_ fun e s' h => h
  intro fl s' h
  cases fl with
  | next => obtain ⟨σ', H', J, q⟩ := h; exact ⟨.non, H', J.os, J.bare, J.base, J.hok, rfl, q⟩
  | ret u => obtain ⟨v, σ', H', J, r2, q⟩ := h; exact ⟨v, H', J.os, J.bare, J.base, J.hok, r2, q⟩
  | brk => exact h.elim fun _ h => h.elim fun _ h => h.2.elim
  | cont => exact h.elim fun _ h => h.elim fun _ h => h.2.elim
end L3
/-! L3zzzzp: list(enumerate(xs)), list(zip(xs, ys)): the pairs that an iterator gives, kept in a list -/
namespace L3
open PySem L2 PySem.Spec PyProof.Rows
/-- pairs laid one behind the other -/
inductive Prs (f : Nat → List V) : Nat → Hp → List V → Hp → Prop
  | nil {H : Hp} : Prs f 0 H [] H
  | snoc {i : Nat} {H H' : Hp} {vs : List V} {T : Addr} : Prs f i H vs H' → H' T = none → Prs f (i + 1) H (vs ++ [.ref T]) (upd H' T (.tup (f i)))
theorem Prs.same {f : Nat → List V} {i : Nat} {H H' : Hp} {vs : List V} (h : Prs f i H vs H') : Same H H' := by
  induction h with
  | nil => exact Same.refl _
  | snoc _ hn ih => exact ih.trans (same_new hn)
theorem Prs.len {f : Nat → List V} {i : Nat} {H H' : Hp} {vs : List V} (h : Prs f i H vs H') : vs.length = i := by
  induction h with
  | nil => rfl
  | snoc _ hn ih => rw [List.length_append, ih]; rfl
/-! ### list(enumerate(xs)), list(zip(xs, ys)) -/
end L3
/-! L3zzzzq: a list == [], != []: by its length alone -/
namespace L3
open PySem L2 PySem.SeqAt
end L3
/-! L3zzzzr: x.upper(), bool(i) -/
namespace L3
open PySem L2 PySem.Spec
end L3
/-! L3zzzzs: try with several clauses, the first of which names what comes -/
namespace L3
open PySem L2 PySem.Spec PyProof.Rows
end L3
/-! L3zzzzt: what was made as own objects, however deep, becomes data -/
namespace L3
open PySem L2
section
variable {K : PySem.W.Frag} {m m' : List Addr} {B B' H H' : Hp} {l l' : List O} {σ : St} {ρ : List (Option D)} {R : D → List O → Prop} {te : TE} {k : Nat}
theorem drop_at {n : Nat} {a : Addr} (h : m[n]? = some a) (hk : k ≤ n) : a ∈ m.drop k := by
  refine List.mem_of_getElem? (i := n - k) ?_
  rw [List.getElem?_drop, show k + (n - k) = n by omega]
  exact h
theorem seenK_same (S : SR K m B H l) : Same B (seenB (m.drop k) B H) := fun b o e => by
  unfold seenB
  split
  · exact S.sub b o e
  · exact e
theorem seenK_sub (S : SR K m B H l) : Same (seenB (m.drop k) B H) H := fun b o e => by
  unfold seenB at e
  split at e
  · exact e
  · exact S.sub b o e
mutual
theorem viewK_of (S : SR K m B H l) (hl : ∀ (n : Nat) (o : O), l'[n]? = some o → o ≠ .gone → k ≤ n ∧ l[n]? = some o) : ∀ (x : PyData) (v : V) (d : D), VR K m B v d → ViewN l' d x → FR K (seenB (m.drop k) B H) v x
  | .list fs, v, d, r, h => by
    cases h with
    | f _ => exact FR.same (seenK_same S) _ _ r
    | @lst n ds h1 =>
      obtain ⟨hk, h1⟩ := hl _ _ h1 (by simp)
      obtain ⟨a, rfl, ha⟩ := r
      obtain ⟨⟨xs, e, q⟩, _⟩ := S.obj n a _ ha h1
      refine .lst (xs := xs) ?_ (FRs.same (seenK_same S) _ _ q)
      unfold seenB
      rw [if_pos (drop_at ha hk), e]
    | @rfs n ds fs h1 h2 =>
      obtain ⟨hk, h1⟩ := hl _ _ h1 (by simp)
      obtain ⟨a, rfl, ha⟩ := r
      obtain ⟨⟨xs, e, q⟩, _⟩ := S.obj n a _ ha h1
      refine .lst (xs := xs) ?_ (viewsK_of S hl fs _ _ q h2)
      unfold seenB
      rw [if_pos (drop_at ha hk), e]
  | .tuple fs, v, d, r, h => by
    cases h with
    | f _ => exact FR.same (seenK_same S) _ _ r
    | @tpr n ds fs h1 h2 =>
      obtain ⟨hk, h1⟩ := hl _ _ h1 (by simp)
      obtain ⟨a, rfl, ha⟩ := r
      obtain ⟨⟨xs, e, q⟩, _⟩ := S.obj n a _ ha h1
      refine .tup (xs := xs) (.inl ?_) (viewsK_of S hl fs _ _ q h2)
      unfold seenB
      rw [if_pos (drop_at ha hk), e]
  | .none, v, d, r, h => by cases h; exact FR.same (seenK_same S) _ _ r
  | .bool _, v, d, r, h => by cases h; exact FR.same (seenK_same S) _ _ r
  | .int _, v, d, r, h => by cases h; exact FR.same (seenK_same S) _ _ r
  | .str _, v, d, r, h => by cases h; exact FR.same (seenK_same S) _ _ r
  | .dict _, v, d, r, h => by cases h; exact FR.same (seenK_same S) _ _ r
theorem viewsK_of (S : SR K m B H l) (hl : ∀ (n : Nat) (o : O), l'[n]? = some o → o ≠ .gone → k ≤ n ∧ l[n]? = some o) : ∀ (xs : List PyData) (vs : List V) (ds : List D), Paired (VR K m B) vs ds → ViewNs l' ds xs → FRs K (seenB (m.drop k) B H) vs xs
  | [], _, _, r, h => by cases h; cases r; exact .nil
  | x :: xs, _, _, r, h => by
    cases h with
    | cons h1 h2 =>
      cases r with
      | cons r1 r2 => exact .cons (viewK_of S hl x _ _ r1 h1) (viewsK_of S hl xs _ _ r2 h2)
end
/-- what an expression makes becomes data, all that was made on the way is let go -/
theorem e_frzA (h : EvS K te ρ l fun d l1 => ∃ n x l', d = .own n ∧ (∀ (n : Nat) (o : O), l'[n]? = some o → o ≠ .gone → l.length ≤ n ∧ l1[n]? = some o) ∧ ViewN l' (.own n) x ∧ (∀ o ∈ l1.take l.length, o.under l.length) ∧ R (.f x) (l1.take l.length)) : EvS K te ρ l R := fun m B H σ S e Q q => by
  refine h m B H σ S e _ fun v m1 B1 H1 d l1 s1 S1 r1 ⟨n, x, l', ed, hl, hv, hu, z⟩ => ?_
  subst ed
  have fr := viewK_of S1 hl x v _ r1 hv
  have Sc := S1.cut l.length hu
  have e12 : Same B1 (seenB (m1.drop l.length) B1 H1) := seenK_same S1
  have nd : ∀ a, a ∈ m1.take l.length → a ∉ m1.drop l.length := fun a h1 h2 => by
    have := S1.nd
    rw [← List.take_append_drop l.length m1, List.nodup_append] at this
    exact this.2.2 a h1 a h2 rfl
  have S2 : SR K (m1.take l.length) (seenB (m1.drop l.length) B1 H1) H1 (l1.take l.length) := by
    refine ⟨seenK_sub S1, Sc.len, Sc.nd, Sc.live, fun i a o h1 h2 => ?_⟩
    obtain ⟨r, c⟩ := Sc.obj i a o h1 h2
    refine ⟨r.up e12 ⟨[], by simp⟩ fun u e => e, fun ho => ?_⟩
    unfold seenB
    rw [if_neg (nd a (List.mem_of_getElem? h1))]
    exact c ho
  have sc := s1.cut S1 (k := l.length) (by rw [S.len]; exact Nat.le_refl _)
  have s2 : Step m B H (m1.take l.length) (seenB (m1.drop l.length) B1 H1) H1 := by
    refine ⟨s1.sub.trans e12, sc.pre, s1.keep, s1.live, fun a h1 h2 h3 => ?_, sc.new⟩
    unfold seenB
    by_cases hd : a ∈ m1.drop l.length
    · rcases s1.new a (List.mem_of_mem_drop hd) with c | c
      · exact absurd c h3
      · exact absurd c h1.1
    · rw [if_neg hd]
      exact s1.sep a h1 h2 h3
  exact q v _ _ _ (.f x) _ s2 S2 fr z
end
end L3
/-! L3zzzzu: a list that an expression made becomes data, what was made on the way is let go; sorted of texts or pairs of texts, in lists and tuples -/
namespace L3
open PySem L2 PySem.Spec PyProof.Rows
section
variable {K : PySem.W.Frag} {l : List O} {ρ : List (Option D)} {R : D → List O → Prop} {te : TE}
theorem e_frzL (h : EvS K te ρ l fun d l1 => ∃ n ds, d = .own n ∧ l.length ≤ n ∧ l1[n]? = some (.lst ds) ∧ (∀ o ∈ l1.take l.length, o.under l.length) ∧ R (.f (.list ds)) (l1.take l.length)) : EvS K te ρ l R :=
  e_frzA (h.imp fun d l1 ⟨n, ds, e, hn, h1, hu, z⟩ => by
    have hg : (List.replicate n O.gone ++ [O.lst ds])[n]? = some (.lst ds) := by
      rw [List.getElem?_append_right (by rw [List.length_replicate]; exact Nat.le_refl _), List.length_replicate, Nat.sub_self]
      rfl
    refine ⟨n, .list ds, List.replicate n .gone ++ [.lst ds], e, fun k o hk ho => ?_, .lst hg, hu, z⟩
    by_cases c : k < n
    · rw [List.getElem?_append_left (by rw [List.length_replicate]; exact c), List.getElem?_replicate, if_pos c] at hk
      exact absurd (Option.some.inj hk).symm ho
    · have hl := (List.getElem?_eq_some_iff.mp hk).1
      rw [List.length_append, List.length_replicate] at hl
      have e2 : k = n := by have : k < n + 1 := hl; omega
      subst e2
      rw [hg] at hk
      exact ⟨hn, h1.trans hk⟩)
end
end L3
/-! L3zzzzv: the text of data is of real signs -/
namespace L3
open PySem L2 PySem.Spec PyProof.Rows
def OkT (x : Str) : Prop := ∀ c ∈ x.cps.toList, c < 0x110000
theorem OkT.ok {x : Str} (h : OkT x) : PyData.strOk x = true := by
  unfold PyData.strOk
  rw [Array.all_eq_true']
  intro c hc
  exact decide_eq_true (h c (by simpa using hc))
theorem OkT.app {x y : Str} (h1 : OkT x) (h2 : OkT y) : OkT (x ++ y) := fun c h => by
  have h : c ∈ (x.cps ++ y.cps).toList := h
  rw [Array.toList_append] at h
  rcases List.mem_append.mp h with h | h
  · exact h1 c h
  · exact h2 c h
end L3
/-! L3zzzzw: a def taken out of a list of three is called; zip of two lists or of two tuples -/
namespace L3
open PySem L2 PySem.Spec PyProof.Rows
end L3
/-! L3zzzzx: an empty dict is no tuple: {} != (..) -/
namespace L3
end L3
/-! L3zzzzy: the head by one run of the kernel (HandS.Head2), its facts told by names -/
namespace L3
open PySem L2 PySem.Spec PyProof.Rows
/-- a fact of what the top leaves -/
inductive Fx where
  | glo (x : Str)
  | free (x : Str)
  | str (x z : Str)
  | int (x : Str) (i : Int)
  | tup (x : Str) (ys : List Str)
  | cls (x : Str)
  | rse (x : Str)
  | xc (x : Str)
  | sub (x y : Str) (b : Bool)
  | sbb (x : Str) (n : String) (b : Bool)
  | ctc (x y : Str)
  | hf (x f : Str)
  | no (y : Str)
  | ini (x y f : Str)
  | dat (x : Str) (d : PyData)
def eqW (a b : Option Value) : Bool := decide (a = b)
def eqB (a : Option Bool) (b : Bool) : Bool := decide (a = some b)
def isG (K : PySem.W.Frag) (x : Str) : Bool := He.eqO (PySem.W.nsIn K mainGlobals x) (some (some (.ref (He.ga K x))))
def hasAt (K : PySem.W.Frag) (t : Value) (x : Str) (v : Option Value) : Bool := He.eqO (PySem.W.findIn K t x) (some v)
def oexB (K : PySem.W.Frag) (C : Addr) : Bool := match K.lookup C with
  | some ⟨.type "type", _, .cls cd, sl⟩ => (match cd.mro, sl.toList with
    | .ref C' :: bm, [_, _, _, _, some (.builtin n), _] => C' == C && n == "ValueError.__new__" && !cd.hasDel && cd.hasDict && PySem.HandSPX.refsVE bm
    | _, _ => false)
  | _ => false
def tyB (K : PySem.W.Frag) (C : Addr) : Bool := eqW (PySem.W.typeIn K (.ref C)) (some (.type "type"))
def xfB (K : PySem.W.Frag) (C : Addr) : Bool := hasAt K (.ref C) "__getattribute__" (some (.builtin "BaseException.__getattribute__")) && (hasAt K (.ref C) "__getattr__" none && (eqB (PySem.W.subIn K (.ref C) (.type "BaseException")) true && PySem.W.hasDictIn K C))
def cfB (K : PySem.W.Frag) (C : Addr) : Bool := match PySem.W.findCls K (.ref C) (.type "type") "__init__" with
  | some (.val (.builtin n)) => n == "ValueError.__init__"
  | _ => false
/-! a nested tuple of texts, numbers, truths in the globals -/
def noKeyB : List PyData → Bool
  | [_, .tuple _] => true
  | [_, _] => false
  | _ => true
/-- the items of a nested tuple -/
def tupI (K : PySem.W.Frag) : Value → Option (List Value)
  | .ref a => match K.lookup a with
    | some ⟨.type c, _, .seq its _, _⟩ => if c = "tuple" ∧ its.size ≤ sizeLine then some its.toList else none
    | _ => none
  | _ => none
mutual
def datB (K : PySem.W.Frag) : PyData → Value → Bool
  | .tuple ds, v => noKeyB ds && match tupI K v with
    | some vs => datsB K ds vs
    | none => false
  | .none, v => He.relB .non v
  | .bool b, v => He.relB (.bl b) v
  | .int i, v => He.relB (.int i) v
  | .str x, v => He.relB (.str x) v
  | .list _, _ => false
  | .dict _, _ => false
def datsB (K : PySem.W.Frag) : List PyData → List Value → Bool
  | [], [] => true
  | d :: ds, v :: vs => datB K d v && datsB K ds vs
  | _, _ => false
end
def glB (K : PySem.W.Frag) (x : Str) (d : PyData) : Bool := match PySem.W.nsIn K mainGlobals x with
  | some (some v) => datB K d v
  | _ => false
def Fx.ok (K : PySem.W.Frag) : Fx → Bool
  | .glo x => isG K x
  | .free x => He.eqO (PySem.W.nsIn K mainGlobals x) (some none)
  | .str x z => (He.Fa.str x z).ok K
  | .int x i => (He.Fa.int x i).ok K
  | .tup x ys => isG K x && He.tupB K x (ys.map .str)
  | .cls x => isG K x && PySem.W.keepIn K (.ref (He.ga K x))
  | .rse x => isG K x && (PySem.W.excIn K (He.ga K x) He.veBase "ValueError.__new__" && (PySem.W.keepIn K (.ref (He.ga K x)) && (eqB (PySem.W.subIn K (.ref (He.ga K x)) (.type "BaseException")) true && tyB K (He.ga K x))))
  | .xc x => isG K x && (xfB K (He.ga K x) && (hasAt K (.ref (He.ga K x)) "__class__" (some (.builtin "object.__class__")) && (He.eqO (PySem.W.specialIn K (.builtin "object.__class__") "__get__") (some (some (.builtin "getset_descriptor.__get__"))) &&
      (eqB (PySem.W.takesIn K (.builtin "object.__class__")) true && eqB (PySem.W.mroIn K (He.ga K x) (.type "object")) true))))
  | .sub x y b => isG K x && (isG K y && (PySem.W.hasDictIn K (He.ga K y) && (tyB K (He.ga K y) && (eqB (PySem.W.subIn K (.ref (He.ga K x)) (.ref (He.ga K y))) b && (b || !(Value.ref (He.ga K x) == .ref (He.ga K y)))))))
  | .sbb x n b => isG K x && (PySem.W.kitMeta n && eqB (PySem.W.subIn K (.ref (He.ga K x)) (.type n)) b)
  | .ctc x y => isG K x && (isG K y && (eqB (PySem.W.subIn K (.ref (He.ga K y)) (.type "BaseException")) true && (PySem.W.hasDictIn K (He.ga K y) && (tyB K (He.ga K y) && eqB (PySem.W.subIn K (.ref (He.ga K x)) (.ref (He.ga K y))) true))))
  | .hf x f => isG K x && (xfB K (He.ga K x) && hasAt K (.ref (He.ga K x)) f none)
  | .no y => isG K y && (PySem.W.hasDictIn K (He.ga K y) && (tyB K (He.ga K y) && eqB (PySem.W.subIn K (.type "NoneType") (.ref (He.ga K y))) false))
  | .ini x y f => isG K x && (isG K y && (oexB K (He.ga K x) && (hasAt K (.ref (He.ga K x)) "__setattr__" (some (.builtin "object.__setattr__")) && (eqB (PySem.W.subIn K (.ref (He.ga K x)) (.type "BaseException")) true && (tyB K (He.ga K x) && (PySem.W.keepIn K (.ref (He.ga K x)) &&
      (hasAt K (.ref (He.ga K x)) f none && (hasAt K (.ref (He.ga K x)) "__init__" (some (.ref (He.ma K (He.ga K x) "__init__"))) && (eqW (PySem.W.typeIn K (.ref (He.ma K (He.ga K x) "__init__"))) (some (.type "function")) &&
      (PySem.W.readsIn K (He.ga K y) (.type "type") && (He.eqO (PySem.W.specialIn K (.ref (He.ga K y)) "__getattribute__") (some (some (.builtin "type.__getattribute__"))) && cfB K (He.ga K y))))))))))))
  | .dat x d => glB K x d && match d with | .tuple _ => true | _ => false
theorem b2 {a b : Bool} (h : (a && b) = true) : a = true ∧ b = true := Bool.and_eq_true_iff.mp h
section
variable {K : PySem.W.Frag} {h : Heap} {mg : Str → Option Value} {x y f : Str}
theorem isG_ok (h : isG K x = true) : PySem.W.nsIn K mainGlobals x = some (some (.ref (He.ga K x))) := He.eqO_ok h
theorem isG_mg (X : K.In h) (G : h.Ns mainGlobals mg) (c : isG K x = true) : mg x = some (.ref (He.ga K x)) := PySem.W.mg_of X G (isG_ok c)
theorem fx_free (X : K.In h) (G : h.Ns mainGlobals mg) (c : (Fx.free x).ok K = true) : mg x = none := PySem.W.mg_none_of X G (He.eqO_ok c)
theorem fx_str (X : K.In h) (G : h.Ns mainGlobals mg) {z : Str} (c : (Fx.str x z).ok K = true) : ∃ t, mg x = some (.str z t) := He.str_ok X G c
theorem fx_int (X : K.In h) (G : h.Ns mainGlobals mg) {i : Int} (c : (Fx.int x i).ok K = true) : ∃ t, mg x = some (.int i t) := He.int_ok X G c
theorem fx_tup (X : K.In h) (G : h.Ns mainGlobals mg) {ys : List Str} (c : (Fx.tup x ys).ok K = true) : GTup K mg x ys := by
  obtain ⟨h1, h2⟩ := b2 c
  refine ⟨_, isG_mg X G h1, fun H => ?_⟩
  have := He.tupB_ok h2 H
  rw [List.map_map] at this
  exact this
end
/-- a global that stands for such data -/
def GDat (K : PySem.W.Frag) (mg : Str → Option Value) (x : Str) (d : PyData) : Prop := ∃ a : Addr, mg x = some (.ref a) ∧ ∀ B : Hp, FR K B (.ref a) d
theorem frs_last {K : PySem.W.Frag} {B : Hp} {xs : List V} {ds : List PyData} (h : noKeyB ds = true) (f : FRs K B xs ds) : NoKey xs := by
  cases f with
  | nil => exact .inl (by simp)
  | cons h1 f =>
    cases f with
    | nil => exact .inl (by simp)
    | @cons _ _ d2 _ h2 f =>
      cases f with
      | cons _ _ => exact .inl (by simp)
      | nil =>
        cases d2 with
        | tuple es => cases h2 with | tup _ _ => exact .inr ⟨_, _, rfl⟩
        | _ => cases h
theorem tupI_ok {K : PySem.W.Frag} {v : Value} {vs : List Value} (h : tupI K v = some vs) : ∃ (a : Addr) (od : Obj) (its : Array Value) (n : Nat), v = .ref a ∧ K.lookup a = some od ∧ od.cls = .type "tuple" ∧ od.data = .seq its n ∧ its.size ≤ sizeLine ∧ its.toList = vs := by
  unfold tupI at h
  split at h
  · split at h
    · rename_i c od its n sl e
      split at h
      · rename_i c2
        exact ⟨_, _, its, n, rfl, e, congrArg Value.type c2.1, rfl, c2.2, Option.some.inj h⟩
      · cases h
    · cases h
  · cases h
mutual
theorem dat_ok {K : PySem.W.Frag} : ∀ (d : PyData) (v : Value), datB K d v = true → ∃ x : V, RelV x v ∧ ∀ B : Hp, FR K B x d
  | .tuple ds, v, h => by
    obtain ⟨hn, h⟩ := b2 (show (noKeyB ds && match tupI K v with
      | some vs => datsB K ds vs
      | none => false) = true from by unfold datB at h; exact h)
    cases e : tupI K v with
    | none => rw [e] at h; cases h
    | some vs =>
      rw [e] at h
      obtain ⟨a, od, its, n, rfl, e1, e2, e3, e4, rfl⟩ := tupI_ok e
      obtain ⟨xs, r, f⟩ := dats_ok ds its.toList h
      exact ⟨.ref a, rfl, fun B => .tup (.inr ⟨frs_last hn (f B), .inr ⟨od, its, n, e1, e2, e3, e4, r⟩⟩) (f B)⟩
  | .none, v, h => ⟨.non, He.relB_ok (by unfold datB at h; exact h), fun B => .non⟩
  | .bool b, v, h => ⟨.bl b, He.relB_ok (by unfold datB at h; exact h), fun B => .bl b⟩
  | .int i, v, h => ⟨.int i, He.relB_ok (by unfold datB at h; exact h), fun B => .int i⟩
  | .str x, v, h => ⟨.str x, He.relB_ok (by unfold datB at h; exact h), fun B => .str x⟩
  | .list _, _, h => by unfold datB at h; cases h
  | .dict _, _, h => by unfold datB at h; cases h
theorem dats_ok {K : PySem.W.Frag} : ∀ (ds : List PyData) (vs : List Value), datsB K ds vs = true → ∃ xs : List V, Vals xs vs ∧ ∀ B : Hp, FRs K B xs ds
  | [], [], _ => ⟨[], .nil, fun B => .nil⟩
  | d :: ds, v :: vs, h => by
    obtain ⟨h1, h2⟩ := b2 (show (datB K d v && datsB K ds vs) = true from by unfold datsB at h; exact h)
    obtain ⟨x, r1, f1⟩ := dat_ok d v h1
    obtain ⟨xs, r2, f2⟩ := dats_ok ds vs h2
    exact ⟨x :: xs, .cons r1 r2, fun B => .cons (f1 B) (f2 B)⟩
  | [], _ :: _, h => by unfold datsB at h; cases h
  | _ :: _, [], h => by unfold datsB at h; cases h
end
theorem fx_dat {K : PySem.W.Frag} {h : Heap} {mg : Str → Option Value} {x : Str} {d : PyData} (X : K.In h) (G : h.Ns mainGlobals mg) (c : (Fx.dat x d).ok K = true) : GDat K mg x d := by
  obtain ⟨c1, c2⟩ := b2 c
  have c1 : (match PySem.W.nsIn K mainGlobals x with | some (some v) => datB K d v | _ => false) = true := c1
  split at c1
  · rename_i v e
    obtain ⟨y, r, f⟩ := dat_ok d v c1
    cases d with
    | tuple ds =>
      have := f (fun _ => none)
      cases this with
      | @tup a xs _ _ _ =>
        obtain rfl : v = Value.ref a := r
        exact ⟨a, PySem.W.mg_of X G e, f⟩
    | _ => cases c2
  · cases c1
theorem pe_gd {X : L2.Cx} {a : Addr} {K : PySem.W.Frag} {x : Str} {pos : Pos} {d : PyData} (hg : Gl X x) (hm : GDat K X.mg x d) (ha : a = hm.choose) (hd : (x == ("__debug__" : Str)) = false := by decide) : PE X (.Name x pos) (tC (.ref a)) := by
  subst ha
  exact pe_glob hg hm.choose_spec.1 rfl hd
theorem e_gd {K : PySem.W.Frag} {mg : Str → Option Value} {y : Str} {d : PyData} {ρ : List (Option D)} {l : List O} {R : D → List O → Prop} (hm : GDat K mg y d) (h : R (.f d) l) : EvS K (tC (.ref hm.choose)) ρ l R := fun m B H σ S e Q q => q (.ref hm.choose) m B H (.f d) l (Step.refl _ _ _) S (hm.choose_spec.2 B) h
/-! ### the hook -/
def obsL (fa : List Fx) (fn : List He.DefD) (K : PySem.W.Frag) : He.AlD := ((fa.all fun f => f.ok K) && fn.all fun d => d.ok K, fn.map fun d => He.fnW K d.at_)
def SaysL (fa : List Fx) (fn : List He.DefD) (K : PySem.W.Frag) : Prop := obsL fa fn K = He.valD fn
def obsLG (n : Nat) (fa : List Fx) (fn : List He.DefD) (g : Addr → Option Obj) : He.AlD := obsL fa fn (He.frG g (He5.asA g n))
def hookL (n : Nat) (fa : List Fx) (fn : List He.DefD) : PySem.W.Hook where
  α := He.AlD
  obs := fun s => obsLG n fa fn s.heap.get?
  val := fun _ => He.valD fn
  says := fun _ h => ∃ K : PySem.W.Frag, K.In h ∧ SaysL fa fn K
  of := fun _ _ e => ⟨_, He.frG_in, e⟩
  keeps := fun _ _ _ ⟨K, hK, c⟩ k => ⟨K, PySem.W.Frag.In.keeps hK k, c⟩
theorem obsLG_eq {n : Nat} {fa : List Fx} {fn : List He.DefD} {g : Addr → Option Obj} {s : Shared} (h : ∀ a, g a = s.heap.get? a) : obsLG n fa fn g = (hookL n fa fn).obs s := by
  have e : g = s.heap.get? := funext h
  rw [e] <;> rfl
section
variable {fa : List Fx} {fn : List He.DefD} {K : PySem.W.Frag}
theorem SaysL.fact (c : SaysL fa fn K) (i : Nat) {f : Fx} (h : fa[i]? = some f := by rfl) : f.ok K = true := by
  have c1 := (b2 (show ((fa.all fun f => f.ok K) && fn.all fun d => d.ok K) = true from congrArg (fun z : He.AlD => z.1) c)).1
  exact List.all_eq_true.mp c1 f (List.mem_of_getElem? h)
theorem SaysL.def_ (c : SaysL fa fn K) (i : Nat) {d : He.DefD} (h : fn[i]? = some d := by rfl) : ∃ fd, FunD K d.name d.qual d.params d.body d.scope (d.dvs K) (d.kws K) (He.fAd K d.at_) fd := by
  have c2 := (b2 (show ((fa.all fun f => f.ok K) && fn.all fun d => d.ok K) = true from congrArg (fun z : He.AlD => z.1) c)).2
  have e : fn.map (fun d => He.fnW K d.at_) = fn.map He.DefD.val := congrArg (fun z : He.AlD => z.2) c
  have e2 : (fn.map fun d => He.fnW K d.at_)[i]? = (fn.map He.DefD.val)[i]? := by rw [e]
  rw [List.getElem?_map, List.getElem?_map, h] at e2
  exact He.DefD.funD (Option.some.inj e2) (List.all_eq_true.mp c2 d (List.mem_of_getElem? h))
/-- a def as told -/
abbrev dOf (p : Str × Option Str) (x q : Str) (st : Stmt) : He.DefD := ⟨p, x, q, defArgs st, defBody st, defScope st, [], []⟩
theorem SaysL.fun_ (c : SaysL fa fn K) (i : Nat) {p : Str × Option Str} {x q : Str} {st : Stmt} (h : fn[i]? = some (dOf p x q st) := by rfl) : ∃ fd, Fun K x q st (He.fAd K p) fd ∧ ∀ {ps : List Str}, (∀ (kV doc pm : Value) (an : Option Addr) (cdv ct : Value) (us : List Value), us.length = ps.length → bindArgs (PySem.W.fnOf x q (defArgs st) (defBody st) (defScope st) .none kV doc pm an cdv ct) ⟨us, []⟩ = pure (ps.zip us)) → Binds K fd ps [] := by
  obtain ⟨fd, F⟩ := c.def_ i h
  obtain ⟨oc, od, dV, kV, doc, pm, an, cdv, ct, osl, e, l, cc, hd, hk⟩ := F.ex
  rcases hd with ⟨_, e2⟩ | ⟨e2, _⟩
  · subst e2
    have F' : Fun K x q st (He.fAd K p) fd := ⟨⟨oc, od, kV, doc, pm, an, cdv, ct, osl, e, l, cc⟩, F.kp⟩
    exact ⟨fd, F', fun hb => F'.binds hb⟩
  · exact absurd rfl e2
theorem SaysL.defAt (c : SaysL fa fn K) {h : Heap} {mg : Str → Option Value} (X : K.In h) (G : h.Ns mainGlobals mg) (i j : Nat) {y x : Str} {st : Stmt} {ps : List Str} (hi : fn[i]? = some (dOf (y, none) x x st)) (hj : fa[j]? = some (.glo y))
    (hb : ∀ (kV doc pm : Value) (an : Option Addr) (cdv ct : Value) (us : List Value), us.length = ps.length → bindArgs (PySem.W.fnOf x x (defArgs st) (defBody st) (defScope st) .none kV doc pm an cdv ct) ⟨us, []⟩ = pure (ps.zip us)) : DefAtN K mg y x st ps := by
  obtain ⟨fd, F, b⟩ := c.fun_ i hi
  exact ⟨_, fd, isG_mg X G (c.fact j hj), F, b hb⟩
theorem DefAtN.at {mg : Str → Option Value} {x : Str} {st : Stmt} {ps : List Str} (h : DefAtN K mg x x st ps) : DefAt K mg x st ps := ⟨h.ex⟩
end
/-- what the head leaves, from the law's promise; the written part is whatever the head tells -/
theorem walkL {l : PySem.W.OpenLaw} {n k : Nat} {q : Program} {loose : List Str} {XP : (Str → Option Value) → Heap → Prop} {YP : World → Heap → Prop} {d : DefRec} {x : Str} (hn : l.most = some n) (hn2 : n ≤ sizeLine) (hdf : d.params.defaults = []) (hr : Room k callerA)
    (F : ∀ (w : World) (mg : Str → Option Value) (fa : Addr) (h : Heap), YP w h → h.Ns mainGlobals mg → mg d.name = some (.ref fa) →
      ∃ (K : PySem.W.Frag) (fd : FuncData) (sp : Sp), K.In h ∧ (∀ (H : Hp) (a : Addr) (ns : List Int), ns.length ≤ n → SqL K H a (ns.map V.int) → sp [.ref a] H (fun v _ => v = .bl true) fun _ _ _ => False) ∧
      (∀ (s : Shared) (u : Value), BindsTo s fd ⟨[u], []⟩ [(x, u)]) ∧ ∀ base : Heap, K.In base → base.Ns mainGlobals mg → FnG l.prog w K mg base CX0 k fa fd [x] sp) :
    PySem.W.WalkO q loose XP YP l.row.toRowW d [] (fun f vs => PySem.call f vs) := by
  apply Att.attach_call hn hdf
  intro w s₀ s₁ mg mb fa o pm cd doc a vs ns G Y ho hd hcd hmg hobj hints hlen hg
  obtain ⟨K, fd, sp, KX, hsp, hb, hF⟩ := F w mg fa s₁.heap Y G.T.g hmg
  exact law_callG KX G.T.g G.T.b G.T.builtins G.T.nolimit hg hobj hints (Nat.le_trans hlen hn2) hr hF hb fun H hS => hsp H a ns hlen hS
end L3
/-! L3zzzzz: a dict whose keys are texts and pairs of texts (`#cfg dM=name`) -/
namespace L3
open PySem L2
section
variable (P : Program) (w : World)
def mIs (h : Heap) : MK → Value → Prop
  | .inl s, v => ∃ t, v = .str s t
  | .inr p, v => ∃ b, v = .ref b ∧ IsTupleKey (mixKind P w) h [.inr p.1, .inr p.2] b
end
section
open PySem PySem.Calls PyProof.Rows PyProof.V PySem.Spec PySem.SeqAt PySem.W L2
variable {P : Program} {w : World} {A : Around} {E : Value → Shared → Prop} {s : Shared}
theorem is_str {x : Str} {t : Tok} : (mixKind P w).is (.inr x) (.str x t) = true := by
  exact kV_is (k := .inr x) (⟨t, rfl⟩ : RelV (.str x) (.str x t))
theorem mIs.inj {h : Heap} {x y : MK} {v : Value} (hx : mIs P w h x v) (hy : mIs P w h y v) : x = y := by
  cases x with
  | inl a =>
    obtain ⟨t, rfl⟩ := hx
    cases y with
    | inl b => obtain ⟨u, e⟩ := hy; injection e with e _; rw [e]
    | inr q => obtain ⟨b, e, _⟩ := hy; cases e
  | inr p =>
    obtain ⟨b, rfl, hb⟩ := hx
    cases y with
    | inl c => obtain ⟨u, e⟩ := hy; cases e
    | inr q =>
      obtain ⟨b', e, hb'⟩ := hy
      cases e
      have := hb.inj hb'
      injection this with h1 h2
      injection h2 with h2 _
      injection h1 with h1
      injection h2 with h2
      rw [show p = q from Prod.ext h1 h2]
theorem mIs.hashes {k : MK} {v : Value} {Q : Int → Shared → Prop} (hu : A.units < cLine) (hk : mIs P w s.heap k v) (h : ∀ n, Q (mHash P w k) { s with toks := s.toks + n }) : wpAny (model P w) A (pyHash v) Q E s := by
  cases k with
  | inl a =>
    obtain ⟨t, rfl⟩ := hk
    exact (mixKind P w).pyHash is_str (h 1)
  | inr p =>
    obtain ⟨b, rfl, hb⟩ := hk
    exact (tupleKind (mixKind P w)).pyHash (k := [.inr p.1, .inr p.2]) hu hb (h _)
theorem tup_isT {h : Heap} {ks : List Key} {b : Addr} (x : IsTupleKey (mixKind P w) h ks b) : ∃ its : Array Value, h.IsTuple b its := by
  obtain ⟨o, items, n, ho, hc, hd, _⟩ := x
  exact ⟨items, o, ho, hc, n, hd⟩
theorem mIs.eqs {x y : MK} {u v : Value} {Q : Bool → Shared → Prop} (hu : A.units < cLine) (hx : mIs P w s.heap x u) (hy : mIs P w s.heap y v) (h : Q (decide (x = y)) s) : wpAny (model P w) A (eqBool u v) Q E s := by
  cases x with
  | inl a =>
    obtain ⟨t, rfl⟩ := hx
    cases y with
    | inl b =>
      obtain ⟨t', rfl⟩ := hy
      refine (mixKind P w).eqBool (a := .inr a) (b := .inr b) is_str is_str ?_
      have e : decide ((Sum.inr a : Key) = .inr b) = decide ((Sum.inl a : MK) = .inl b) := decide_eq_decide.mpr ⟨fun q => by injection q with q; rw [q], fun q => by injection q with q; rw [q]⟩
      rw [e]; exact h
    | inr q =>
      obtain ⟨b, rfl, hb⟩ := hy
      obtain ⟨its, hi⟩ := tup_isT hb
      refine SeqAt.EqAt.str_tuple a t hi hu _ _ _ _ ?_
      rw [decide_eq_false (fun q => nomatch q)] at h
      exact h
  | inr p =>
    obtain ⟨c, rfl, hc⟩ := hx
    cases y with
    | inl b =>
      obtain ⟨t', rfl⟩ := hy
      obtain ⟨its, hi⟩ := tup_isT hc
      refine SeqAt.EqAt.tuple_str b t' hi hu _ _ _ _ ?_
      rw [decide_eq_false (fun q => nomatch q)] at h
      exact h
    | inr q =>
      obtain ⟨b, rfl, hb⟩ := hy
      refine (tupleKind (mixKind P w)).eqBool (x := [.inr p.1, .inr p.2]) (y := [.inr q.1, .inr q.2]) hu hc hb ?_
      have e : decide (([.inr p.1, .inr p.2] : List Key) = [.inr q.1, .inr q.2]) = decide ((Sum.inr p : MK) = .inr q) := decide_eq_decide.mpr ⟨fun r => by
        injection r with h1 h2
        injection h2 with h2 _
        injection h1 with h1
        injection h2 with h2
        rw [show p = q from Prod.ext h1 h2], fun r => by injection r with r; rw [r]⟩
      rw [e]; exact h
theorem mIs.quiet {k : MK} {v : Value} {Q : Bool → Shared → Prop} (hk : mIs P w s.heap k v) (h : Q true s) : wpAny (model P w) A (eqIsQuiet 8 v) Q E s := by
  cases k with
  | inl a =>
    obtain ⟨t, rfl⟩ := hk
    rw [eqIsQuiet_byValue 8 (v := .str a t) rfl]
    exact wpAny_pure h
  | inr p =>
    obtain ⟨b, rfl, hb⟩ := hk
    exact (tupleKind (mixKind P w)).quiet (k := [.inr p.1, .inr p.2]) hb h
theorem mIs.keeps {h h' : Heap} {k : MK} {v : Value} {d : Addr} {o : Obj} {es ep} (x : mIs P w h k v) (ho : h.get? d = some o) (hd : o.data = .dict es ep) (hs : Heap.SameBut d h h') : mIs P w h' k v := by
  cases k with
  | inl a => exact x
  | inr p =>
    obtain ⟨b, e, hb⟩ := x
    exact ⟨b, e, hb.keeps ho hd hs⟩
theorem mix_tells {v : Value} {k : MK} {stored : List Value} {Q : Bool → Shared → Prop} (hkey : mIs P w s.heap k v) (hst : ∀ u ∈ stored, ∃ k', mIs P w s.heap k' u) (h : Q false s) : wpAny (model P w) A (tableMayTell v stored) Q E s := by
  unfold tableMayTell
  split
  · exact wpAny_pure h
  · refine wpAny_bind (hkey.quiet ?_)
    simp only [Bool.not_true, Bool.false_eq_true, if_false]
    refine wpAny_bind ?_
    refine wpAny_forIn_list _ (fun rest r s' => s' = s ∧ r = (none, ()) ∧ ∀ u ∈ rest, ∃ k', mIs P w s.heap k' u) _ ?_ ?_ _ _ ⟨rfl, rfl, hst⟩
    · rintro x rest r s' ⟨rfl, rfl, hr⟩
      obtain ⟨k', hb⟩ := hr x List.mem_cons_self
      refine wpAny_bind (hb.quiet ?_)
      simp only [Bool.not_true, Bool.false_eq_true, if_false]
      exact wpAny_pure ⟨rfl, rfl, fun v hv => hr v (List.mem_cons_of_mem _ hv)⟩
    · rintro r s' ⟨rfl, rfl, _⟩
      exact wpAny_pure h
abbrev MX := List (MK × Value × Value)
def atM (xs : MX) (k : MK) : Option (Value × Value) := (xs.find? fun x => decide (x.1 = k)).map (·.2)
def putM (k : MK) (v : Value) (x : MK × Value × Value) : MK × Value × Value := if x.1 = k then (x.1, x.2.1, v) else x
def storedM (xs : MX) (k : MK) (u v : Value) : MX := if (atM xs k).isSome then xs.map (putM k v) else xs ++ [(k, u, v)]
theorem idxM_unique {xs : MX} (hn : (xs.map (·.1)).Nodup) {i j : Nat} {k : MK} {p q : Value × Value} (hi : xs[i]? = some (k, p)) (hj : xs[j]? = some (k, q)) : i = j := by
  have hi' : (xs.map (·.1))[i]? = some k := by rw [List.getElem?_map, hi]; rfl
  have hj' : (xs.map (·.1))[j]? = some k := by rw [List.getElem?_map, hj]; rfl
  exact (List.getElem?_inj (List.getElem?_eq_some_iff.mp hi').1 hn).mp (hi'.trans hj'.symm)
theorem atM_of_get {xs : MX} (hn : (xs.map (·.1)).Nodup) {i : Nat} {k : MK} {p : Value × Value} (hx : xs[i]? = some (k, p)) : atM xs k = some p := by
  induction xs generalizing i with
  | nil => simp at hx
  | cons x rest ih =>
    rw [List.map_cons, List.nodup_cons] at hn
    cases i with
    | zero =>
      simp only [List.getElem?_cons_zero, Option.some.injEq] at hx
      subst hx; simp [atM]
    | succ j =>
      simp only [List.getElem?_cons_succ] at hx
      have hmem : k ∈ rest.map (·.1) := List.mem_map.mpr ⟨(k, p), List.mem_of_getElem? hx, rfl⟩
      have hne : ¬ x.1 = k := fun e => hn.1 (e ▸ hmem)
      have := ih hn.2 hx
      simpa [atM, List.find?_cons, hne] using this
theorem atM_none {xs : MX} {k : MK} (h : ∀ (j : Nat) (p : Value × Value), xs[j]? ≠ some (k, p)) : atM xs k = none := by
  have : (xs.find? fun x => decide (x.1 = k)) = none := by
    rw [List.find?_eq_none]
    intro x hx hk
    obtain ⟨j, hj⟩ := List.mem_iff_getElem?.mp hx
    have hk' : x.1 = k := of_decide_eq_true hk
    exact h j x.2 (by rw [hj, ← hk'])
  simp [atM, this]
theorem ent_at {es : Array DictEntry} {xs : MX} (he : es.toList = xs.map (mEnt P w)) (j : Nat) : es[j]? = (xs[j]?).map (mEnt P w) := by
  rw [← Array.getElem?_toList, he, List.getElem?_map]
theorem ent_size {es : Array DictEntry} {xs : MX} (he : es.toList = xs.map (mEnt P w)) : es.size = xs.length := by
  rw [← Array.length_toList, he, List.length_map]
theorem mix_find {d : Addr} {v : Value} {o : Obj} {es ep} {xs : MX} {k : MK} {Q : Option Nat → Shared → Prop} (hu : A.units < cLine) (hkey : mIs P w s.heap k v)
    (ho : s.heap.get? d = some o) (hd : o.data = .dict es ep) (he : es.toList = xs.map (mEnt P w)) (his : ∀ x ∈ xs, mIs P w s.heap x.1 x.2.1) (hn : (xs.map (·.1)).Nodup)
    (hnone : (∀ (j : Nat) (p : Value × Value), xs[j]? ≠ some (k, p)) → Q none s) (hsome : ∀ (j : Nat) (p : Value × Value), xs[j]? = some (k, p) → Q (some j) s) :
    wpAny (model P w) A (dictFind d v (mHash P w k)) Q E s := by
  have hsz : es.size = xs.length := ent_size he
  have haskey : ∀ (j : Nat) (p : Value × Value), xs[j]? = some (k, p) → ((es[j]?.map (·.hash)) == some (mHash P w k)) = true := by
    intro j p hj
    rw [ent_at he j, hj]
    simp [mEnt]
  have hmem : ∀ e ∈ es, ∃ x ∈ xs, e = mEnt P w x := by
    intro e hin
    have : e ∈ xs.map (mEnt P w) := he ▸ Array.mem_toList_iff.mpr hin
    obtain ⟨x, hx, rfl⟩ := List.mem_map.mp this
    exact ⟨x, hx, rfl⟩
  have hst : ∀ u ∈ (placesWithHash es.size (fun i => es[i]?.map (·.hash)) (mHash P w k)).filterMap (fun i => es[i]?.map (·.key)), ∃ k', mIs P w s.heap k' u := by
    intro u hv
    obtain ⟨i, _, hi⟩ := List.mem_filterMap.mp hv
    cases hei : es[i]? with
    | none => rw [hei] at hi; cases hi
    | some e =>
      rw [hei] at hi
      obtain rfl : e.key = u := by simpa using hi
      obtain ⟨x, hx, rfl⟩ := hmem e (Array.mem_of_getElem? hei)
      exact ⟨x.1, his x hx⟩
  have hany : ∀ b, v = .ref b → ¬ (es.any fun e => e.key == Value.ref b && e.hash != mHash P w k) = true := by
    rintro b rfl
    rw [← Array.any_toList, List.any_eq_true]
    rintro ⟨e, hin, hc⟩
    obtain ⟨x, hx, rfl⟩ := hmem e (Array.mem_toList_iff.mp hin)
    simp only [mEnt, Bool.and_eq_true, beq_iff_eq, bne_iff_ne, ne_eq] at hc
    obtain ⟨hxa, hne⟩ := hc
    have := his x hx
    rw [hxa] at this
    exact hne (by rw [this.inj hkey])
  -- the walk over the places of this hash
  have places0 : placesWithHash es.size (fun i => es[i]?.map (·.hash)) (mHash P w k) = (List.range' 0 (es.size - 0)).filter (fun i => (es[i]?.map (·.hash)) == some (mHash P w k)) := by
    rw [placesWithHash, List.range_eq_range', Nat.sub_zero]
  have hend : ∀ {i : Nat}, i ≤ es.size → [] = (List.range' i (es.size - i)).filter (fun i => (es[i]?.map (·.hash)) == some (mHash P w k)) → (∀ j p, j < i → xs[j]? ≠ some (k, p)) → ∀ (j : Nat) (p : Value × Value), xs[j]? ≠ some (k, p) := by
    intro i hi hr hno j p hj
    have hall : ∀ j, i ≤ j → j < es.size → ((es[j]?.map (·.hash)) == some (mHash P w k)) = false := by
      intro j h1 h2
      have := List.filter_eq_nil_iff.mp hr.symm j (List.mem_range'_1.mpr ⟨h1, by omega⟩)
      simpa using this
    rcases Nat.lt_or_ge j i with h | h
    · exact hno j p h hj
    · have hjl : j < es.size := by
        rw [hsz]
        rcases Nat.lt_or_ge j xs.length with h' | h'
        · exact h'
        · rw [List.getElem?_eq_none h'] at hj; exact nomatch hj
      have := hall j h hjl
      rw [haskey j p hj] at this
      exact absurd this (by decide)
  have plain : wpAny (model P w) A (dictWalkPlain d v (mHash P w k) es (placesWithHash es.size (fun i => es[i]?.map (·.hash)) (mHash P w k))) Q E s := by
    refine wpAny_bind ?_
    refine wpAny_forIn_list _
      (fun rest b s' => s' = s ∧ b = (none, ()) ∧ ∃ i, rest = (List.range' i (es.size - i)).filter (fun i => (es[i]?.map (·.hash)) == some (mHash P w k)) ∧ i ≤ es.size ∧
        ∀ j p, j < i → xs[j]? ≠ some (k, p)) _ ?_ ?_ _ _
      ⟨rfl, rfl, 0, places0, Nat.zero_le _, fun _ _ h => absurd h (Nat.not_lt_zero _)⟩
    · rintro x rest b s' ⟨rfl, rfl, i, hr, hi, hno⟩
      obtain ⟨hix, hxn, hpx, hskip, hrest⟩ := filter_range'_cons _ _ _ _ _ hr.symm
      have hlt : x < es.size := by omega
      have hrest' : rest = (List.range' (x + 1) (es.size - (x + 1))).filter (fun i => (es[i]?.map (·.hash)) == some (mHash P w k)) := by rw [hrest]; congr 2; omega
      obtain ⟨⟨k', b, v'⟩, hkv⟩ : ∃ y, xs[x]? = some y := ⟨xs[x]'(by rw [← hsz]; exact hlt), List.getElem?_eq_getElem _⟩
      have hib : mIs P w s'.heap k' b := his _ (List.mem_of_getElem? hkv)
      have hex : es[x]? = some ⟨mHash P w k', b, v'⟩ := by rw [ent_at he x, hkv]; rfl
      have hnox : ∀ j p, j < x → xs[j]? ≠ some (k, p) := fun j p hjx hj => by
        rcases Nat.lt_or_ge j i with h | h
        · exact hno j p h hj
        · have := hskip j h hjx
          rw [haskey j p hj] at this
          exact absurd this (by decide)
      have hnext : ¬ k' = k → ∀ j p, j < x + 1 → xs[j]? ≠ some (k, p) := fun hne j p hjx hj => by
        rcases Nat.lt_or_ge j x with h | h
        · exact hnox j p h hj
        · have hjx' : j = x := by omega
          subst hjx'
          rw [hkv] at hj
          injection hj with hj
          injection hj with hj
          exact hne hj
      rw [hex]
      dsimp only
      by_cases hh : (mHash P w k' == mHash P w k) = true
      · rw [if_pos hh]
        refine wpAny_bind (wpAny_dictEpoch ho hd (wpAny_bind (mIs.eqs (x := k') (y := k) hu hib hkey (wpAny_bind (wpAny_dictEpoch ho hd ?_)))))
        show wpAny _ _ (if (ep != ep) = true then _ else _) _ E _
        rw [if_neg (by simp)]
        by_cases hkk : k' = k
        · rw [decide_eq_true hkk]
          subst hkk
          exact wpAny_bind (wpAny_rule (wpAny_pure (wpAny_pure (hsome x _ hkv))))
        · rw [decide_eq_false hkk]
          exact wpAny_bind (wpAny_rule (wpAny_pure ⟨rfl, rfl, x + 1, hrest', hlt, hnext hkk⟩))
      · rw [if_neg hh]
        refine wpAny_pure ⟨rfl, rfl, x + 1, hrest', hlt, hnext ?_⟩
        intro hkk
        rw [hkk] at hh; simp at hh
    · rintro b s' ⟨rfl, rfl, i, hr, hi, hno⟩
      exact wpAny_pure (hnone (hend hi hr hno))
  unfold dictFind
  try with_reducible refine wpAny_holding ?_
  refine wpAny_bind (wpAny_dictEntries ho hd ?_)
  dsimp only
  cases k with
  | inl a =>
    obtain ⟨t, rfl⟩ := id hkey
    have found : (es.all fun e => isExactStrKey e.key) = true → wpAny (model P w) A (foundByValue d (Value.str a t) es a) Q E s := fun hstrs => by
      unfold foundByValue
      cases hf : es.findIdx? (fun e => e.key.isStr a) with
      | none =>
        refine wpAny_pure (hnone fun j p hj => ?_)
        have h1 := Array.findIdx?_eq_none_iff.mp hf
        have hej := ent_at he j
        rw [hj] at hej
        have h2 := h1 _ (Array.mem_of_getElem? hej)
        obtain ⟨u, hu'⟩ := his _ (List.mem_of_getElem? hj)
        have h3 : (mEnt P w (.inl a, p)).key = .str a u := hu'
        rw [h3] at h2
        simp [Value.isStr] at h2
      | some i =>
        obtain ⟨hlt, hi, _⟩ := Array.findIdx?_eq_some_iff_getElem.mp hf
        obtain ⟨⟨k', b, v'⟩, hkv⟩ : ∃ y, xs[i]? = some y := ⟨xs[i]'(by rw [← hsz]; exact hlt), List.getElem?_eq_getElem _⟩
        have hib : mIs P w s.heap k' b := his _ (List.mem_of_getElem? hkv)
        have hex : es[i]? = some ⟨mHash P w k', b, v'⟩ := by rw [ent_at he i, hkv]; rfl
        have hei : es[i] = ⟨mHash P w k', b, v'⟩ := by
          rw [Array.getElem?_eq_getElem hlt] at hex
          exact Option.some.inj hex
        rw [hei] at hi
        have hkk : k' = .inl a := by
          cases k' with
          | inl c =>
            obtain ⟨u, rfl⟩ := hib
            have : (c == a) = true := hi
            rw [beq_iff_eq.mp this]
          | inr q =>
            obtain ⟨c, rfl, _⟩ := hib
            cases hi
        simp only [hex]
        refine wpAny_bind (wpAny_dictEpoch ho hd (wpAny_bind (mIs.eqs (x := k') (y := .inl a) hu hib hkey (wpAny_bind (wpAny_dictEpoch ho hd ?_)))))
        show wpAny _ _ (if (ep != ep) = true then _ else _) _ E _
        rw [if_neg (by simp), decide_eq_true hkk]
        subst hkk
        exact wpAny_bind (wpAny_rule (wpAny_pure (hsome i _ hkv)))
    dsimp only
    by_cases hstrs : (es.all fun e => isExactStrKey e.key) = true
    · simp only [if_pos hstrs]
      first | exact found hstrs | (split <;> exact found hstrs)
    · simp only [if_neg hstrs]
      by_cases hall : ((Value.str a t :: (placesWithHash es.size (fun i => es[i]?.map (·.hash)) (mHash P w (.inl a))).filterMap fun i => es[i]?.map (·.key)).all carriedByValue) = true
      · rw [if_pos hall]
        exact plain
      · rw [if_neg hall]
        by_cases hone : (((placesWithHash es.size (fun i => es[i]?.map (·.hash)) (mHash P w (.inl a))).filterMap (fun i => es[i]?.map (·.key))) == [Value.str a t]) = true <;>
        (first | rw [if_pos hone] | rw [if_neg hone]) <;> (first | refine wpAny_bind (wpAny_pure ?_) | refine wpAny_bind (mix_tells hkey hst ?_)) <;> (
        rw [if_neg (by simp)]
        refine wpAny_bind ?_
        refine wpAny_forIn_list _
          (fun rest b s' => s' = s ∧ ∃ i hit, b = (none, hit) ∧ rest = (List.range' i (es.size - i)).filter (fun i => (es[i]?.map (·.hash)) == some (mHash P w (Sum.inl a))) ∧ i ≤ es.size ∧
            ((hit = none ∧ ∀ j p, j < i → xs[j]? ≠ some (Sum.inl a, p)) ∨ ∃ j p, hit = some j ∧ j < i ∧ xs[j]? = some (Sum.inl a, p))) _ ?_ ?_ _ _
          ⟨rfl, 0, none, rfl, places0, Nat.zero_le _, .inl ⟨rfl, fun _ _ h => absurd h (Nat.not_lt_zero _)⟩⟩
        · rintro x rest b s' ⟨rfl, i, hit, rfl, hr, hi, hH⟩
          obtain ⟨hix, hxn, hpx, hskip, hrest⟩ := filter_range'_cons _ _ _ _ _ hr.symm
          have hlt : x < es.size := by omega
          have hrest' : rest = (List.range' (x + 1) (es.size - (x + 1))).filter (fun i => (es[i]?.map (·.hash)) == some (mHash P w (Sum.inl a))) := by rw [hrest]; congr 2; omega
          obtain ⟨⟨k', b, v'⟩, hkv⟩ : ∃ y, xs[x]? = some y := ⟨xs[x]'(by rw [← hsz]; exact hlt), List.getElem?_eq_getElem _⟩
          have hib : mIs P w s'.heap k' b := his _ (List.mem_of_getElem? hkv)
          have hex : es[x]? = some ⟨mHash P w k', b, v'⟩ := by rw [ent_at he x, hkv]; rfl
          have hHx : (hit = none ∧ ∀ j p, j < x → xs[j]? ≠ some (Sum.inl a, p)) ∨ ∃ j p, hit = some j ∧ j < x ∧ xs[j]? = some (Sum.inl a, p) := by
            rcases hH with ⟨h0, hno⟩ | ⟨j, p, h1, hji, hj⟩
            · refine .inl ⟨h0, fun j p hjx hj => ?_⟩
              rcases Nat.lt_or_ge j i with h | h
              · exact hno j p h hj
              · have := hskip j h hjx
                rw [haskey j p hj] at this
                exact absurd this (by decide)
            · exact .inr ⟨j, p, h1, by omega, hj⟩
          have hstay : ¬ k' = Sum.inl a → ((hit = none ∧ ∀ j p, j < x + 1 → xs[j]? ≠ some (Sum.inl a, p)) ∨ ∃ j p, hit = some j ∧ j < x + 1 ∧ xs[j]? = some (Sum.inl a, p)) := by
            intro hne
            rcases hHx with ⟨h0, hno⟩ | ⟨j, p, h1, hjx, hj⟩
            · refine .inl ⟨h0, fun j p hjx hj => ?_⟩
              rcases Nat.lt_or_ge j x with h | h
              · exact hno j p h hj
              · have hjx' : j = x := by omega
                subst hjx'
                rw [hkv] at hj
                injection hj with hj
                injection hj with hj
                exact hne hj
            · exact .inr ⟨j, p, h1, by omega, hj⟩
          rw [hex]
          dsimp only
          by_cases hh : (mHash P w k' == mHash P w (Sum.inl a)) = true
          · rw [if_pos hh]
            refine wpAny_bind (wpAny_dictEpoch ho hd (wpAny_bind (mIs.eqs (x := k') (y := Sum.inl a) hu hib hkey (wpAny_bind (wpAny_dictEpoch ho hd ?_)))))
            show wpAny _ _ (if (ep != ep) = true then _ else _) _ E _
            rw [if_neg (by simp)]
            by_cases hkk : k' = Sum.inl a
            · rw [decide_eq_true hkk]
              subst hkk
              rcases hHx with ⟨rfl, _⟩ | ⟨j, p, _, hjx, hj⟩
              · first | rw [if_pos rfl] | skip
                simp only [Option.isSome_none, Bool.false_eq_true, if_false]
                first | refine wpAny_bind (wpAny_pure ?_) | skip
                refine wpAny_bind (wpAny_rule ?_)
                split
                · exact wpAny_pure (wpAny_pure (hsome x _ hkv))
                · exact wpAny_pure ⟨rfl, x + 1, some x, rfl, hrest', hlt, .inr ⟨x, _, rfl, Nat.lt_succ_self x, hkv⟩⟩
              · exact absurd (idxM_unique hn hj hkv) (by omega)
            · rw [decide_eq_false hkk]
              simp only [Bool.false_eq_true, if_false]
              refine wpAny_bind (wpAny_rule ?_)
              first | rw [if_neg (by simp)] | skip
              first
                | exact wpAny_pure ⟨rfl, x + 1, hit, rfl, hrest', hlt, hstay hkk⟩
                | exact wpAny_bind (wpAny_pure (wpAny_pure ⟨rfl, x + 1, hit, rfl, hrest', hlt, hstay hkk⟩))
          · rw [if_neg hh]
            refine wpAny_pure ⟨rfl, x + 1, hit, rfl, hrest', hlt, hstay ?_⟩
            intro hkk
            rw [hkk] at hh; simp at hh
        · rintro b s' ⟨rfl, i, hit, rfl, hr, hi, hH⟩
          rcases hH with ⟨rfl, hno⟩ | ⟨j, p, rfl, _, hj⟩
          · exact wpAny_pure (hnone (hend hi hr hno))
          · exact wpAny_pure (hsome j p hj))
  | inr p =>
    obtain ⟨c, rfl, hc⟩ := id hkey
    rw [if_neg (show ¬ ((Value.ref c :: (placesWithHash es.size (fun i => es[i]?.map (·.hash)) (mHash P w (.inr p))).filterMap (fun i => es[i]?.map (·.key))).all carriedByValue) = true by simp [carriedByValue])]
    rw [if_neg (hany c rfl)]
    by_cases hone : (((placesWithHash es.size (fun i => es[i]?.map (·.hash)) (mHash P w (.inr p))).filterMap (fun i => es[i]?.map (·.key))) == [Value.ref c]) = true <;>
    (first | rw [if_pos hone] | rw [if_neg hone]) <;> (first | refine wpAny_bind (wpAny_pure ?_) | refine wpAny_bind (mix_tells hkey hst ?_)) <;> (
    rw [if_neg (by simp)]
    refine wpAny_bind ?_
    refine wpAny_forIn_list _
      (fun rest b s' => s' = s ∧ ∃ i hit, b = (none, hit) ∧ rest = (List.range' i (es.size - i)).filter (fun i => (es[i]?.map (·.hash)) == some (mHash P w (Sum.inr p))) ∧ i ≤ es.size ∧
        ((hit = none ∧ ∀ j q, j < i → xs[j]? ≠ some (Sum.inr p, q)) ∨ ∃ j q, hit = some j ∧ j < i ∧ xs[j]? = some (Sum.inr p, q))) _ ?_ ?_ _ _
      ⟨rfl, 0, none, rfl, places0, Nat.zero_le _, .inl ⟨rfl, fun _ _ h => absurd h (Nat.not_lt_zero _)⟩⟩
    · rintro x rest b s' ⟨rfl, i, hit, rfl, hr, hi, hH⟩
      obtain ⟨hix, hxn, hpx, hskip, hrest⟩ := filter_range'_cons _ _ _ _ _ hr.symm
      have hlt : x < es.size := by omega
      have hrest' : rest = (List.range' (x + 1) (es.size - (x + 1))).filter (fun i => (es[i]?.map (·.hash)) == some (mHash P w (Sum.inr p))) := by rw [hrest]; congr 2; omega
      obtain ⟨⟨k', b, v'⟩, hkv⟩ : ∃ y, xs[x]? = some y := ⟨xs[x]'(by rw [← hsz]; exact hlt), List.getElem?_eq_getElem _⟩
      have hib : mIs P w s'.heap k' b := his _ (List.mem_of_getElem? hkv)
      have hex : es[x]? = some ⟨mHash P w k', b, v'⟩ := by rw [ent_at he x, hkv]; rfl
      have hHx : (hit = none ∧ ∀ j q, j < x → xs[j]? ≠ some (Sum.inr p, q)) ∨ ∃ j q, hit = some j ∧ j < x ∧ xs[j]? = some (Sum.inr p, q) := by
        rcases hH with ⟨h0, hno⟩ | ⟨j, q, h1, hji, hj⟩
        · refine .inl ⟨h0, fun j q hjx hj => ?_⟩
          rcases Nat.lt_or_ge j i with h | h
          · exact hno j q h hj
          · have := hskip j h hjx
            rw [haskey j q hj] at this
            exact absurd this (by decide)
        · exact .inr ⟨j, q, h1, by omega, hj⟩
      have hstay : ¬ k' = Sum.inr p → ((hit = none ∧ ∀ j q, j < x + 1 → xs[j]? ≠ some (Sum.inr p, q)) ∨ ∃ j q, hit = some j ∧ j < x + 1 ∧ xs[j]? = some (Sum.inr p, q)) := by
        intro hne
        rcases hHx with ⟨h0, hno⟩ | ⟨j, q, h1, hjx, hj⟩
        · refine .inl ⟨h0, fun j q hjx hj => ?_⟩
          rcases Nat.lt_or_ge j x with h | h
          · exact hno j q h hj
          · have hjx' : j = x := by omega
            subst hjx'
            rw [hkv] at hj
            injection hj with hj
            injection hj with hj
            exact hne hj
        · exact .inr ⟨j, q, h1, by omega, hj⟩
      rw [hex]
      dsimp only
      by_cases hh : (mHash P w k' == mHash P w (Sum.inr p)) = true
      · rw [if_pos hh]
        refine wpAny_bind (wpAny_dictEpoch ho hd (wpAny_bind (mIs.eqs (x := k') (y := Sum.inr p) hu hib hkey (wpAny_bind (wpAny_dictEpoch ho hd ?_)))))
        show wpAny _ _ (if (ep != ep) = true then _ else _) _ E _
        rw [if_neg (by simp)]
        by_cases hkk : k' = Sum.inr p
        · rw [decide_eq_true hkk]
          subst hkk
          rcases hHx with ⟨rfl, _⟩ | ⟨j, q, _, hjx, hj⟩
          · first | rw [if_pos rfl] | skip
            simp only [Option.isSome_none, Bool.false_eq_true, if_false]
            first | refine wpAny_bind (wpAny_pure ?_) | skip
            refine wpAny_bind (wpAny_rule ?_)
            split
            · exact wpAny_pure (wpAny_pure (hsome x _ hkv))
            · exact wpAny_pure ⟨rfl, x + 1, some x, rfl, hrest', hlt, .inr ⟨x, _, rfl, Nat.lt_succ_self x, hkv⟩⟩
          · exact absurd (idxM_unique hn hj hkv) (by omega)
        · rw [decide_eq_false hkk]
          simp only [Bool.false_eq_true, if_false]
          refine wpAny_bind (wpAny_rule ?_)
          first | rw [if_neg (by simp)] | skip
          first
            | exact wpAny_pure ⟨rfl, x + 1, hit, rfl, hrest', hlt, hstay hkk⟩
            | exact wpAny_bind (wpAny_pure (wpAny_pure ⟨rfl, x + 1, hit, rfl, hrest', hlt, hstay hkk⟩))
      · rw [if_neg hh]
        refine wpAny_pure ⟨rfl, x + 1, hit, rfl, hrest', hlt, hstay ?_⟩
        intro hkk
        rw [hkk] at hh; simp at hh
    · rintro b s' ⟨rfl, i, hit, rfl, hr, hi, hH⟩
      rcases hH with ⟨rfl, hno⟩ | ⟨j, q, rfl, _, hj⟩
      · exact wpAny_pure (hnone (hend hi hr hno))
      · exact wpAny_pure (hsome j q hj))
theorem mix_get {d : Addr} {v : Value} {xs : MX} {k : MK} {Q : Option Value → Shared → Prop} (hu : A.units < cLine) (hkey : mIs P w s.heap k v) (hm : MixAt P w s.heap d xs) (his : ∀ x ∈ xs, mIs P w s.heap x.1 x.2.1)
    (h : ∀ n, Q ((atM xs k).map (·.2)) { s with toks := s.toks + n }) : wpAny (model P w) A (dictGet d v) Q E s := by
  obtain ⟨_, o, es, ep, ho, _, hd, he, hn, _⟩ := hm
  unfold dictGet
  try with_reducible refine wpAny_holding ?_
  refine wpAny_bind (mIs.hashes hu hkey fun n => wpAny_bind (mix_find (s := { s with toks := s.toks + n }) hu hkey ho hd he his hn ?_ ?_))
  · intro hno
    have h := h n
    rw [atM_none hno] at h
    exact wpAny_pure h
  · intro j p hj
    have h := h n
    rw [atM_of_get hn hj] at h
    refine wpAny_bind (wpAny_dictEntries (s := { s with toks := s.toks + n }) ho hd ?_)
    rw [ent_at he j, hj]
    exact wpAny_pure h
theorem mix_in {d : Addr} {v : Value} {xs : MX} {k : MK} {Q : Value → Shared → Prop} (hu : A.in1.units < cLine) (hkey : mIs P w s.heap k v) (hm : MixAt P w s.heap d xs) (his : ∀ x ∈ xs, mIs P w s.heap x.1 x.2.1)
    (h : ∀ n, Q (.bool (atM xs k).isSome) { s with toks := s.toks + n }) : wpAny (model P w) A (compareOp .In v (.ref d)) Q E s := by
  have hd := hm.1
  have ty : s.TypeIs (.ref d) "dict" := let ⟨_, o, _, _, ho, hc, _⟩ := hm; ⟨o, ho, hc.1⟩
  show wpAny _ _ (do return .bool (← contains (.ref d) v)) Q E s
  refine wpAny_bind ?_
  unfold contains
  try with_reducible refine wpAny_holding ?_
  refine wpAny_bind (wpAny_specialOf ty slot_dict_contains.lookup ?_)
  show wpAny _ _ (if (some (Value.builtin "dict.__contains__") == some Value.none) = true then _ else _) _ E s
  rw [if_neg (by rw [beq_builtin_none]; exact Bool.false_ne_true)]
  refine wpAny_bind (wpAny_callSpecialUnlessNone?_slot (name := Str.ofString "__contains__") ty slot_dict_contains
    (wpAny_call_entry slot_dict_contains ty entry_dict_contains ?_ (args_dict_contains _ _)))
  show wpAny _ _ (dictGet d v >>= _) _ _ s
  refine wpAny_bind (mix_get hu hkey hm his fun n => ?_)
  have h := h n
  cases hf : atM xs k with
  | some p =>
    rw [hf] at h
    show wpAny _ _ (ret (.bool true)) _ _ _
    exact wpAny_pure ⟨_, rfl, wpAny_truthy_bool (wpAny_pure h)⟩
  | none =>
    rw [hf] at h
    show wpAny _ _ (Builtin.Dict.pendingKey? d v >>= _) _ _ _
    exact wpAny_bind (wpAny_pendingKey_other hd (wpAny_pure ⟨_, rfl, wpAny_truthy_bool (wpAny_pure h)⟩))
theorem mIs.form {h : Heap} {k : MK} {v : Value} (x : mIs P w h k v) : mForm k v := by
  cases k with
  | inl a => exact x
  | inr p => obtain ⟨b, e, _⟩ := x; exact ⟨b, e⟩
theorem storedM_new {xs : MX} {k : MK} (h : atM xs k = none) (u v : Value) : storedM xs k u v = xs ++ [(k, u, v)] := by simp [storedM, h]
theorem storedM_old {xs : MX} {k : MK} {p : Value × Value} (h : atM xs k = some p) (u v : Value) : storedM xs k u v = xs.map (putM k v) := by simp [storedM, h]
theorem map_putM_of_not_mem (xs : MX) (k : MK) (v : Value) (hn : k ∉ xs.map (·.1)) : xs.map (putM k v) = xs := by
  induction xs with
  | nil => rfl
  | cons x xs ih =>
    simp only [List.map_cons, List.mem_cons, not_or] at hn ⊢
    rw [putM, if_neg (fun e => hn.1 e.symm), ih hn.2]
theorem keys_putM (xs : MX) (k : MK) (v : Value) : (xs.map (putM k v)).map (·.1) = xs.map (·.1) := by
  induction xs with
  | nil => rfl
  | cons x xs ih =>
    simp only [List.map_cons, ih]
    by_cases hk : x.1 = k <;> simp [putM, hk]
theorem modify_putM {β : Type} (f : MK × Value × Value → β) (g : β → β) (k : MK) (v : Value) (hg : ∀ a v₀, g (f (k, a, v₀)) = f (k, a, v)) :
    ∀ {xs : MX} {j : Nat} {p : Value × Value}, (xs.map (·.1)).Nodup → xs[j]? = some (k, p) → (xs.map f).modify j g = (xs.map (putM k v)).map f := by
  intro xs
  induction xs with
  | nil => intro j p _ hj; simp at hj
  | cons x rest ih =>
    intro j p hn hj
    rw [List.map_cons, List.nodup_cons] at hn
    cases j with
    | zero =>
      simp only [List.getElem?_cons_zero, Option.some.injEq] at hj
      subst hj
      rw [List.map_cons, List.map_cons, map_putM_of_not_mem rest k v hn.1, putM, if_pos rfl, List.map_cons]
      show g (f (k, p)) :: rest.map f = f (k, p.1, v) :: rest.map f
      rw [show (k, p) = (k, p.1, p.2) from rfl, hg]
    | succ j =>
      simp only [List.getElem?_cons_succ] at hj
      have hmem : k ∈ rest.map (·.1) := List.mem_map.mpr ⟨(k, p), List.mem_of_getElem? hj, rfl⟩
      have hne : ¬ x.1 = k := fun e => hn.1 (e ▸ hmem)
      rw [List.map_cons, List.map_cons, putM, if_neg hne, List.map_cons]
      show f x :: (rest.map f).modify j g = f x :: (rest.map (putM k v)).map f
      rw [ih hn.2 hj]
theorem mix_set {d : Addr} {xs : MX} {k : MK} {u v : Value} {Q : Unit → Shared → Prop} (hu : A.units < cLine) (hkey : mIs P w s.heap k u) (hm : MixAt P w s.heap d xs) (his : ∀ x ∈ xs, mIs P w s.heap x.1 x.2.1)
    (hQ : ∀ h' n, MixAt P w h' d (storedM xs k u v) → Heap.SameBut d s.heap h' → Q () { s with heap := h', toks := s.toks + n })
    (hsz : xs.length ≤ sizeLine := by size_fits) : wpAny (model P w) A (dictSet d u v) Q E s := by
  obtain ⟨hsy, o, es, ep, ho, hc, hd, he, hn, hf⟩ := hm
  unfold dictSet
  try with_reducible refine wpAny_holding ?_
  refine wpAny_bind (mIs.hashes hu hkey fun n => ?_)
  unfold dictSetHashed
  try with_reducible refine wpAny_holding ?_
  refine wpAny_bind (mix_find (s := { s with toks := s.toks + n }) hu hkey ho hd he his hn ?_ ?_)
  · intro hno
    have hnot : k ∉ xs.map (·.1) := by
      intro hm
      obtain ⟨x, hx, rfl⟩ := List.mem_map.mp hm
      obtain ⟨j, hj⟩ := List.mem_iff_getElem?.mp hx
      exact hno j x.2 hj
    refine wpAny_bind (wpAny_rule (wpAny_updateDictKeys (hz := by have e := ent_size he; omega) (s := { s with toks := s.toks + n }) ho hd (hQ _ n ⟨hsy, _, _, ep + 1, Heap.get?_update_self _ ho (Obj.isFreed_of_dict (Obj.data_mapDictKeys hd _)),
      hc.mapDictKeys _, Obj.data_mapDictKeys hd _, ?_, ?_, ?_⟩ (Heap.SameBut.update ..))))
    · rw [storedM_new (atM_none hno)]
      simp [he, mEnt]
    · rw [storedM_new (atM_none hno), List.map_append, List.nodup_append]
      refine ⟨hn, by simp, ?_⟩
      intro x hx y hy
      simp only [List.map_cons, List.map_nil, List.mem_singleton] at hy
      subst hy
      exact fun e => hnot (e ▸ hx)
    · rw [storedM_new (atM_none hno)]
      intro x hx
      rcases List.mem_append.mp hx with hx | hx
      · exact hf x hx
      · rw [List.mem_singleton.mp hx]
        exact hkey.form
  · intro j p hj
    refine wpAny_bind (wpAny_rule (wpAny_bind (wpAny_updateDict (s := { s with toks := s.toks + n }) ho hd (wpAny_point (hQ _ n ⟨hsy, _, _, ep, Heap.get?_update_self _ ho (Obj.isFreed_of_dict (Obj.data_mapDict hd _)),
      hc.mapDict _, Obj.data_mapDict hd _, ?_, ?_, ?_⟩ (Heap.SameBut.update ..))))))
    · rw [storedM_old (atM_of_get hn hj)]
      have := modify_putM (mEnt P w) (fun e : DictEntry => { e with val := v }) k v (fun _ _ => rfl) hn hj
      rw [← he] at this
      obtain ⟨l⟩ := es
      simpa using this
    · rw [storedM_old (atM_of_get hn hj), keys_putM]; exact hn
    · rw [storedM_old (atM_of_get hn hj)]
      intro x hx
      obtain ⟨y, hy, rfl⟩ := List.mem_map.mp hx
      unfold putM
      split <;> exact hf y hy
theorem mix_setItem {d : Addr} {xs : MX} {k : MK} {u v : Value} {Q : Unit → Shared → Prop} (hu : A.in1.units < cLine) (hkey : mIs P w s.heap k u) (hm : MixAt P w s.heap d xs) (his : ∀ x ∈ xs, mIs P w s.heap x.1 x.2.1)
    (hQ : ∀ h' n, MixAt P w h' d (storedM xs k u v) → Heap.SameBut d s.heap h' → Q () { s with heap := h', toks := s.toks + n })
    (hsz : xs.length ≤ sizeLine := by size_fits) : wpAny (model P w) A (setItem (.ref d) u v) Q E s := by
  have hd := hm.1
  have ty : s.TypeIs (.ref d) "dict" := let ⟨_, o, _, _, ho, hc, _⟩ := hm; ⟨o, ho, hc.1⟩
  unfold setItem
  try with_reducible refine wpAny_holding ?_
  refine wpAny_bind (wpAny_sequenceKey ty (by decide) ?_)
  refine wpAny_bind (wpAny_callSpecial?_slot (name := Str.ofString "__setitem__") ty slot_dict_setitem
    (wpAny_call_entry slot_dict_setitem ty entry_dict_setitem ?_ (args_dict_setitem _ _ _)))
  show wpAny _ _ (Builtin.Dict.notOrdered "__setitem__" ⟨[.ref d, u, v], []⟩ >>= _) _ _ s
  refine wpAny_bind (wpAny_notOrdered_dict ty ?_)
  show wpAny _ _ (dictSet d u v >>= _) _ _ s
  exact wpAny_bind (mix_set (hsz := hsz) hu hkey hm his fun h' n hm' hs' => wpAny_pure ⟨.none, rfl, wpAny_pure (hQ h' n hm' hs')⟩)
end
section
open PySem PySem.Spec PyProof.Rows L2
variable {X : L2.Cx} {P : Program} {w : World}
theorem mix_obj {H : Hp} {h : Heap} {a : Addr} {xs : MX} (x : MixAt P w h a xs) : ObjOk P w H h a (mixH P w a xs) :=
  ⟨x, (let ⟨_, o, _, _, e, _⟩ := x; ⟨o, e⟩), fun h1 h2 ⟨z, o, es, ep, e, r⟩ k => ⟨z, o, es, ep, k o e, r⟩⟩
theorem mix_empty (h : Heap) (hb : sysModules < h.objs.size) : MixAt P w (h.push { cls := .type "dict", data := .dict #[] }) h.objs.size [] :=
  ⟨beq_eq_false_iff_ne.mpr (Ne.symm (Nat.ne_of_lt hb)), _, #[], 0, Heap.get?_push_size _ rfl, ⟨rfl, rfl, rfl⟩, rfl, rfl, List.nodup_nil, fun _ h => nomatch h⟩
def tDNewM (P : Program) (w : World) : TE := fun _ H Q => ∀ p, H p = none → Q (.ref p) (upd H p (mixH P w p []))
theorem pe_dnewM (hP : X.prog = P) (hw : X.w = w) {pos : Pos} : PE X (.Dict [] [] pos) (tDNewM P w) := by
  subst hP hw
  exact ⟨fun pins s σ H Q I h =>
    wpAny_Dict_empty ⟨.ref s.heap.objs.size, _, I.laid (a := s.heap.objs.size) (o := mixH X.prog X.w s.heap.objs.size []) (t' := s.toks) (fun _ _ q => Heap.get?_push_of_some _ q) (Nat.le_refl _) (mix_obj (mix_empty s.heap I.big)), rfl, h _ (I.hok.fresh (Nat.le_refl _))⟩⟩
def KeyM (H : Hp) (y : V) (k : MK) : Prop := (∃ s, y = .str s ∧ k = .inl s) ∨ ∃ b s t, y = .ref b ∧ H b = some (.tup [.str s, .str t]) ∧ k = .inr (s, t)
def TrM (H : Hp) (xs : MX) : Prop := ∀ e ∈ xs, ∀ p, e.1 = .inr p → ∃ b, e.2.1 = .ref b ∧ H b = some (.tup [.str p.1, .str p.2])
def rInM (P : Program) (w : World) : R2 := fun y x H Q => ∃ a xs k, x = .ref a ∧ H a = some (mixH P w a xs) ∧ KeyM H y k ∧ TrM H xs ∧ Q (.bl (atM xs k).isSome) H
section
variable {pins : List (Addr × Obj)} {σ : L2.St} {H : Hp} {s : Shared} {a : Addr} {xs : MX}
theorem mkey_is {y : V} {u : Value} {k : MK} (I : Inv X pins σ H s) (hk : KeyM H y k) (r : RelV y u) : mIs X.prog X.w s.heap k u := by
  rcases hk with ⟨x, rfl, rfl⟩ | ⟨b, x, t, rfl, e, rfl⟩
  · obtain ⟨t, rfl⟩ := r
    exact ⟨t, rfl⟩
  · obtain rfl : u = Value.ref b := r
    exact ⟨b, rfl, key_of (ks := [.inr x, .inr t]) I.hok e⟩
theorem mix_at (I : Inv X pins σ H s) (e : H a = some (mixH X.prog X.w a xs)) : MixAt X.prog X.w s.heap a xs := (show ObjOk X.prog X.w H s.heap a (mixH X.prog X.w a xs) from I.hok a _ e).1
theorem mix_all (I : Inv X pins σ H s) (e : MixAt X.prog X.w s.heap a xs) (t : TrM H xs) : ∀ x ∈ xs, mIs X.prog X.w s.heap x.1 x.2.1 := fun x hx => by
  obtain ⟨_, _, _, _, _, _, _, _, _, hf⟩ := e
  have h1 := hf x hx
  have h2 := t x hx
  obtain ⟨k, u, v⟩ := x
  cases k with
  | inl c => exact h1
  | inr p =>
    obtain ⟨b, e1, e2⟩ := h2 p rfl
    exact ⟨b, e1, key_of (ks := [.inr p.1, .inr p.2]) I.hok e2⟩
end
theorem op_inM (hP : X.prog = P) (hw : X.w = w) (hu : X.A.units + 1 < cLine) : OpR X (compareOp .In) (rInM P w) := by
  subst hP hw
  intro pins s σ H y x v u Q I ry rx ⟨a, xs, k, ex, e, hk, ht, q⟩
  subst ex
  obtain rfl : u = Value.ref a := rx
  have hm := mix_at I e
  exact mix_in (tupleKind_room_in1 (knd := mixKind X.prog X.w) hu) (mkey_is I hk ry) hm (mix_all I hm ht) fun n => ⟨.bl (atM xs k).isSome, H, I.tok _, rfl, q⟩
def sDPutM (P : Program) (w : World) (td ty tv : TE) : TS := fun D σ H => tv σ H fun v H1 => td σ H1 fun x H2 => ty σ H2 fun y H3 => ∃ a xs k b, x = .ref a ∧ H3 a = some (mixH P w a xs) ∧ KeyM H3 y k ∧ TrM H3 xs ∧ v = .bl b ∧ xs.length ≤ sizeLine ∧
  ∀ u, RelV y u → D.nx σ (upd H3 a (mixH P w a (storedM xs k u (.bool b))))
theorem ps_dputM {o i value : Expr} {pos pos' : Pos} {td ty tv : TE} (hP : X.prog = P) (hw : X.w = w) (hu : X.A.units + 1 < cLine) (ho : PE X o td) (hi : PE X i ty) (hv : PE X value tv) (hs : swapsWith value (some (.Subscript o i pos')) pos.line X.env = pure false) :
    PS X (.Assign [.Subscript o i pos'] value pos) (sDPutM P w td ty tv) := by
  subst hP hw
  refine ⟨fun pins s σ H D I h => ?_⟩
  refine wpAny_Assign_Subscript (thn (hv.run pins s σ H _ I h) fun r s1 ⟨v, H1, I1, rv, q1⟩ => thn (ho.run pins s1 σ H1 _ I1 q1) fun u s2 ⟨x, H2, I2, rx, q2⟩ => thn (hi.run pins s2 σ H2 _ I2 q2) fun iv s3 ⟨y, H3, I3, ry, a, xs, k, b, ex, e, hk, ht, eb, hl, q3⟩ => ?_) hs
  subst ex eb
  obtain rfl : u = Value.ref a := rx
  obtain rfl : r = Value.bool b := rv
  have hm := mix_at I3 e
  refine mix_setItem (hsz := hl) (tupleKind_room_in1 (knd := mixKind X.prog X.w) hu) (mkey_is I3 hk ry) hm (mix_all I3 hm ht) fun h' n hm' hs' => ?_
  have he : ∃ q, h'.get? a = some q := let ⟨_, q, _, _, hq, _⟩ := hm'; ⟨q, hq⟩
  exact ⟨σ, _, d_write I3 (by rw [e]; exact True.intro) hs' he (mix_obj hm'), q3 iv ry⟩
end
section
variable {K : PySem.W.Frag} {P : Program} {w : World} {σ : L2.St} {ρ : List (Option D)} {l : List O} {R : D → List O → Prop}
theorem e_dM (r : R (.own l.length) (l ++ [.dctM P w []])) : EvS K (tDNewM P w) ρ l R := fun m B H σ S e Q q => fun p hp => by
  obtain ⟨S2, s2, r2⟩ := S.alloc (u := mixH P w p []) (o := .dctM P w []) hp ⟨[], upd_same, .nil⟩
  exact q _ _ _ _ _ _ s2 S2 r2 r
def keyMD : MK → D
  | .inl s => .f (.str s)
  | .inr p => .f (.tuple [.str p.1, .str p.2])
def hasM (kvs : List (MK × Bool)) (k : MK) : Bool := kvs.any fun q => decide (q.1 = k)
def putMD (kvs : List (MK × Bool)) (k : MK) (b : Bool) : List (MK × Bool) := if hasM kvs k = true then kvs.map (fun q => if q.1 = k then (q.1, b) else q) else kvs ++ [(k, b)]
theorem at_has {B : Hp} {xs : MX} {kvs : List (MK × Bool)} (r : Paired (MR B) xs kvs) (k : MK) : (atM xs k).isSome = hasM kvs k := by
  induction r with
  | nil => rfl
  | @cons x q xs qs h t ih =>
    unfold atM hasM at ih ⊢
    rw [List.find?_cons, List.any_cons, h.1]
    by_cases c : q.1 = k
    · rw [decide_eq_true c]; rfl
    · rw [decide_eq_false c, Bool.false_or]; exact ih
theorem mr_tr {B H : Hp} (hs : Same B H) {xs : MX} {kvs : List (MK × Bool)} (r : Paired (MR B) xs kvs) : TrM H xs := by
  induction r with
  | nil => intro e he; cases he
  | @cons x q xs qs h t ih =>
    intro e he p hp
    rcases List.mem_cons.mp he with rfl | he
    · obtain ⟨b, h1, h2⟩ := h.2.2 p hp
      exact ⟨b, h1, hs _ _ h2⟩
    · exact ih e he p hp
theorem key_D {m : List Addr} {B H : Hp} (hs : Same B H) {k : MK} {v : V} (r : VR K m B v (keyMD k)) : KeyM H v k ∧ ∀ u, RelV v u → ∀ p, k = .inr p → ∃ b, u = .ref b ∧ B b = some (.tup [.str p.1, .str p.2]) := by
  cases k with
  | inl s =>
    have r : FR K B v (.str s) := r
    cases r
    exact ⟨.inl ⟨s, rfl, rfl⟩, fun _ _ p h => nomatch h⟩
  | inr p =>
    have r : FR K B v (.tuple [.str p.1, .str p.2]) := r
    cases r with
    | @tup b ys _ t1 f1 =>
      cases f1 with
      | cons a1 f1 =>
        cases f1 with
        | cons a2 f1 =>
          cases f1
          cases a1
          cases a2
          have eb : B b = some (.tup [.str p.1, .str p.2]) := by
            rcases t1 with t1 | t1
            · exact t1
            · exact (NoKey.no (k := [.inr _, .inr _]) t1.1 rfl).elim
          exact ⟨.inr ⟨b, _, _, rfl, hs _ _ eb, rfl⟩, fun u hu q hq => by
            cases hq
            obtain rfl : u = Value.ref b := hu
            exact ⟨b, rfl, eb⟩⟩
theorem o_inM {n : Nat} {k : MK} {kvs : List (MK × Bool)} {x : D} (hx : x = keyMD k) (h : l[n]? = some (.dctM P w kvs)) (z : R (.f (.bool (hasM kvs k))) l) : OpS K (rInM P w) x (.own n) l R := fun m B H vx vy S r1 r2 Q q => by
  subst hx
  obtain ⟨a, rfl, ha⟩ := r2
  obtain ⟨⟨xs, e, pr⟩, _⟩ := S.obj n a _ ha h
  refine ⟨a, xs, k, rfl, e, (key_D S.sub r1).1, mr_tr S.sub pr, ?_⟩
  rw [at_has pr]
  exact retF S q (FR.bl _) z
theorem mr_stored {B : Hp} {xs : MX} {kvs : List (MK × Bool)} (r : Paired (MR B) xs kvs) {k : MK} {u : Value} {b : Bool} (hu : ∀ p, k = .inr p → ∃ c, u = .ref c ∧ B c = some (.tup [.str p.1, .str p.2])) : Paired (MR B) (storedM xs k u (.bool b)) (putMD kvs k b) := by
  unfold storedM putMD
  rw [at_has r]
  by_cases c : hasM kvs k = true
  · rw [if_pos c, if_pos c]
    clear c
    induction r with
    | nil => exact .nil
    | @cons x q xs qs h t ih =>
      rw [List.map_cons, List.map_cons]
      refine .cons ?_ ih
      unfold putM
      rw [h.1]
      by_cases d : q.1 = k
      · rw [if_pos d, if_pos d]
        exact ⟨rfl, rfl, fun p hp => h.2.2 p (h.1.trans hp)⟩
      · rw [if_neg d, if_neg d]
        exact ⟨h.1, h.2⟩
  · rw [if_neg c, if_neg c]
    clear c
    induction r with
    | nil => exact .cons ⟨rfl, rfl, hu⟩ .nil
    | @cons x q xs qs h t ih => exact .cons h ih
theorem x_dputM {ta tb tc : TE} {E : E3} (h : EvS K tc ρ l fun x l1 => EvS K ta ρ l1 fun o l2 => EvS K tb ρ l2 fun y l3 => ∃ n kvs k b, x = .f (.bool b) ∧ o = .own n ∧ y = keyMD k ∧ l3[n]? = some (.dctM P w kvs) ∧ kvs.length ≤ 100000 ∧ E.nx ρ (l3.set n (.dctM P w (putMD kvs k b)))) : ExS K (sDPutM P w ta tb tc) ρ l E := fun m B H σ S e Dn F => by
  refine h m B H σ S e _ fun vx m1 B1 H1 x l1 s1 S1 r1 z1 => ?_
  refine z1 m1 B1 H1 σ S1 (e.step s1) _ fun vo m2 B2 H2 o l2 s2 S2 r2 z2 => ?_
  refine z2 m2 B2 H2 σ S2 (e.step (s1.trans s2)) _ fun vy m3 B3 H3 y l3 s3 S3 r3 ⟨n, kvs, k, b, ex, eo, ey, hn, hl, z3⟩ => ?_
  subst ex eo ey
  have r1' : FR K B1 vx (.bool b) := r1
  cases r1'
  obtain ⟨a, rfl, ha⟩ := r2.step s3
  obtain ⟨⟨xs, e1, pr⟩, hb⟩ := S3.obj n a _ ha hn
  obtain ⟨q1, q2⟩ := key_D S3.sub r3
  refine ⟨a, xs, k, b, rfl, e1, q1, mr_tr S3.sub pr, rfl, Nat.le_of_lt (small' (by rw [pair_len pr]; exact hl)), fun u hu => ?_⟩
  obtain ⟨S4, s4⟩ := S3.write (u := mixH P w a (storedM xs k u (.bool b))) (o := .dctM P w (putMD kvs k b)) ha (hb (by simp)) ⟨_, upd_same, mr_stored pr (q2 u hu)⟩
  exact F.nx _ _ _ _ _ _ (((s1.trans s2).trans s3).trans s4) S4 (e.step (((s1.trans s2).trans s3).trans s4)) z3
theorem xs_dputM {ta tb tc : TE} {t : TS} {E : E3} (h : EvS K tc ρ l fun x l1 => EvS K ta ρ l1 fun o l2 => EvS K tb ρ l2 fun y l3 => ∃ n kvs k b, x = .f (.bool b) ∧ o = .own n ∧ y = keyMD k ∧ l3[n]? = some (.dctM P w kvs) ∧ kvs.length ≤ 100000 ∧ ExS K t ρ (l3.set n (.dctM P w (putMD kvs k b))) E) : ExS K (tSeq (sDPutM P w ta tb tc) t) ρ l E := x_seq (x_dputM h)
end
end L3
namespace Qk37
open PySem L3
open L2 hiding take_next mem_ins len_ins stepF stepF_some
def top (i : Nat) : Stmt := PySem.Challenge.pw_orderkeep_k37_good_houses.main.body.getD i (.Pass ⟨0, 0, 0, 0⟩)
local macro_rules
  | `(tactic| walk_at "c") => `(tactic| first
    | decide
    | assumption
    | omega
    | (dsimp only; omega)
    | exact Or.inr ⟨by decide, by decide⟩
    | exact Or.inl ⟨by decide, by decide⟩
    | (refine Or.inl ⟨?_, ?_⟩ <;> omega)
    | (refine Or.inr ⟨?_, ?_⟩ <;> omega)
    | (refine And.intro ?_ ?_ <;> omega))
local macro_rules
  | `(tactic| walk_at "e") => `(tactic| first
    | ((with_reducible refine' e_var ?hv ?_); (case hv => exact rfl))
    | with_reducible refine' e_int ?_
    | with_reducible refine' e_op ?_
    | with_reducible refine' e_cb ?_
    | with_reducible refine' a_cons ?_
    | with_reducible refine' a_nil ?_
    | with_reducible refine' e_str ?_
    | with_reducible refine' e_bl ?_
    | with_reducible refine' e_non ?_
    | with_reducible refine' t_test ?_
    | with_reducible refine' t_B ?_
    | with_reducible refine' t_and ?_
    | with_reducible refine' t_or ?_
    | with_reducible refine' t_not ?_
    | with_reducible refine' t_yes ?_
    | with_reducible refine' e_un ?_
    | with_reducible refine' e_andV ?_
    | with_reducible refine' e_orV ?_
    | with_reducible refine' e_notV ?_
    | with_reducible refine' e_tIf ?_
    | with_reducible refine' e_m1 ?_
    | with_reducible refine' e_sl ?_
    | with_reducible refine' e_dK ?_
    | with_reducible refine' e_dT ?_
    | with_reducible refine' o_none ?_
    | with_reducible refine' o_some ?_
    | with_reducible refine' iteT ?_
    | with_reducible refine' iteF ?_
    | with_reducible refine' iteNT ?_
    | with_reducible refine' iteNF ?_
    | with_reducible refine' Exists.intro _ (And.intro (rfl : D.f (PyData.bool _) = D.f (PyData.bool _)) ?_)
    | with_reducible refine' Exists.intro _ (And.intro (rfl : D.f (PyData.int _) = D.f (PyData.int _)) ?_)
    | with_reducible refine' Exists.intro _ (And.intro (rfl : [D.f (PyData.int _)] = [D.f (PyData.int _)]) ?_)
    | ((with_reducible refine' Exists.intro _ (And.intro (?hz : unF _ = some _) ?_)); (case hz => exact rfl))
    | ((with_reducible refine' And.intro ?ha ?_); (case ha => first | decide | exact Nat.le_of_ble_eq_true rfl))
    | with_reducible refine' And.intro (Exists.intro _ rfl) ?_
    | with_reducible refine' o_addI ?_
    | with_reducible refine' o_I0i ?_
    | with_reducible refine' o_I0b ?_
    | with_reducible refine' o_isN ?_
    | with_reducible refine' o_notN ?_
    | with_reducible refine' o_eqI ?_
    | with_reducible refine' o_neI ?_
    | with_reducible refine' o_eqS ?_
    | with_reducible refine' o_neS ?_
    | ((with_reducible refine' o_Ii ?hc ?_); (case hc => walk_at "c"))
    | ((with_reducible refine' o_mulI ?hc ?_); (case hc => walk_at "c"))
    | ((with_reducible refine' o_ixR ?ha ?hb ?_); (case ha => exact rfl); (case hb => exact rfl))
    | ((with_reducible refine' o_ixQ isq_tup ?hb ?_); (case hb => exact rfl))
    | ((with_reducible refine' o_ixQ isq_list ?hb ?_); (case hb => exact rfl))
    | ((with_reducible refine' o_ixQ (isq_own ?hn) ?hb ?_); (case hn => exact rfl); (case hb => exact rfl))
    | with_reducible refine' o_ipI ?_
    | with_reducible refine' c_abs ?_
    | with_reducible refine' c_min2 ?_
    | with_reducible refine' c_max2 ?_
    | with_reducible refine' c_intB ?_
    | with_reducible refine' c_lenSq ?_
    | with_reducible refine' c_lenP ?_
    | with_reducible refine' c_lenQ isq_tup ?_
    | with_reducible refine' c_lenQ isq_list ?_
    | ((with_reducible refine' c_lenQ (isq_own ?hn) ?_); (case hn => exact rfl))
    | with_reducible refine' e_bmL ?_
    | with_reducible refine' e_tup ?_
    | ((with_reducible refine' And.intro (Exists.intro _ (isl_own ?hn)) ?_); (case hn => exact rfl))
    | with_reducible refine' And.intro (Exists.intro _ isl_list) ?_
    | with_reducible refine' g_name ?_
    | with_reducible refine' g_nil ?_
    | with_reducible refine' g_cons ?_
    | refine' g_cons (gs := gCons _ _) ?_
    | refine' g_cons (gs := gNil) ?_
    | refine' g_nil (R := _) ?_
    | ((with_reducible refine' g_tup ?hn ?_); (case hn => exact rfl))
    | with_reducible refine' xs_seq ?_
    | with_reducible refine' xs_set ?_
    | with_reducible refine' xs_asg ?_
    | with_reducible refine' xs_drop ?_
    | with_reducible refine' xs_next ?_
    | with_reducible refine' xs_ret ?_
    | with_reducible refine' xs_if ?_
    | with_reducible refine' xs_dput ?_
    | with_reducible refine' x_set ?_
    | with_reducible refine' x_asg ?_
    | with_reducible refine' x_drop ?_
    | with_reducible refine' x_ret ?_
    | with_reducible refine' x_if ?_
    | with_reducible refine' x_dput ?_)
local macro_rules
  | `(tactic| walk_at "w") => `(tactic| repeat' (walk_at "e"))
local macro_rules
  | `(tactic| walk_at "t") => `(tactic| (with_reducible refine' e_tup ?_); (walk_at "w"))
local macro_rules
  | `(tactic| walk_at "d") => `(tactic| (refine e_draw 0 ?_; walk_at "w"; refine ⟨_, _, rfl, rfl, by assumption, by first | decide | omega, by first | decide | omega, ?_⟩))
local macro_rules
  | `(tactic| walk_at "s") => `(tactic| repeat' ((fail_if_success (with_reducible refine' xs_if ?_)); (walk_at "e")))
local macro_rules
  | `(tactic| walk_at "v") => `(tactic| repeat' (first
    | exact trivial
    | exact Nat.le_of_ble_eq_true rfl
    | (apply IsPen.under; assumption)
    | (apply IsPenG.under; assumption)
    | refine And.intro ?_ ?_))
local macro_rules
  | `(tactic| walk_at "u") => `(tactic| (refine And.intro ?hs (And.intro ?ho ?_); (case hs => walk_at "v"); (case ho => walk_at "v")))
local macro_rules
  | `(tactic| walk_at "dg") => `(tactic| (refine e_drawG 0 ?_; walk_at "w"; refine ⟨_, _, rfl, rfl, by assumption, by first | decide | omega, by first | decide | omega, ?_⟩))
structure Bi (K : PySem.W.Frag) (mg : Str → Option Value) : Prop where
  b_abs : mg "abs" = none
  b_all : mg "all" = none
  b_dict : mg "dict" = none
  b_enumerate : mg "enumerate" = none
  b_int : mg "int" = none
  b_isinstance : mg "isinstance" = none
  b_len : mg "len" = none
  b_list : mg "list" = none
  b_min : mg "min" = none
  b_range : mg "range" = none
  b_repr : mg "repr" = none
  b_set : mg "set" = none
  b_str : mg "str" = none
  b_tuple : mg "tuple" = none
  gc_LETTERS : ∃ t : Tok, mg "LETTERS" = some (.str "abcdefghijklmnopqrstuvwxyz" t)
  gc_MOST_LETTERS : ∃ t : Tok, mg "MOST_LETTERS" = some (.int (8) t)
  gc_MOST_TIES : ∃ t : Tok, mg "MOST_TIES" = some (.int (200) t)
  gc_MOST_UNITS : ∃ t : Tok, mg "MOST_UNITS" = some (.int (60) t)
  gc_MOST_WITHIN : ∃ t : Tok, mg "MOST_WITHIN" = some (.int (6) t)
  gc_TOP : ∃ t : Tok, mg "TOP" = some (.str "" t)
  gt_WORDS : GTup K mg "WORDS" ["first", "last"]
  gd_EMPTY : GDat K mg "EMPTY" (.tuple [.tuple [.tuple [.str "", .tuple []]], .tuple [], .tuple [], .tuple []])
section
variable {P : Program} {w : World} {K : PySem.W.Frag} {mg : Str → Option Value} {base : Heap}
abbrev S__law_pen := S_pen
abbrev s__law_pen : Stmt := top 44
theorem sc__law_pen : FnScope ["_law_script"] ["_law_script"] (defScope s__law_pen) := ⟨rfl, rfl, rfl, by decide +kernel, rfl, by decide +kernel, by decide +kernel⟩
set_option maxHeartbeats 4000000 in
theorem ok__law_pen (T : Bi K mg) (Df : DefAt K mg "_law_pen" s__law_pen ["_law_script"]) : Cal P w K mg base 1 "_law_pen" ["_law_script"] S__law_pen := by
  refine ok4 Df sc__law_pen (fun ds g R h0 => by obtain ⟨_, h, _⟩ := h0; rw [h]; rfl) (fun cdv A outer s H E f hr => ?_)
  have hu1 := hu_of hr.r
  have hu64 := hr.units
  have hu65 : (A.deeper (PyProof.Rows.envOfC "_law_pen" (defScope s__law_pen) s.heap.objs.size f cdv)).units + 65 < cLine := by have := hr.un; omega
  refine ⟨_, (pss_one (ps_ret (pe_lst (pa_cons (pv 0) (pa_cons pe_int (pa_cons pe_int pa_nil)))))), fun ds g R hS => ?_⟩
  obtain ⟨s, rfl, rfl, hs, z⟩ := hS
  show ExS K _ [some _] _ _
  refine x_ret (e_rfs ?_)
  walk_at "w"
  exact .inl (z _ ⟨s, 0, 0, rfl, hs, Int.le_refl _, Int.le_refl _⟩)
abbrev S__law_draw := S_draw
abbrev s__law_draw : Stmt := top 45
theorem sc__law_draw : FnScope ["_law_pen_here", "_law_most", "_law_found", "_law_place", "_law_cell", "_law_first", "_law_second"] ["_law_pen_here", "_law_most"] (defScope s__law_draw) := ⟨rfl, rfl, rfl, by decide +kernel, rfl, by decide +kernel, by decide +kernel⟩
set_option maxHeartbeats 4000000 in
theorem ok__law_draw (T : Bi K mg) (Df : DefAt K mg "_law_draw" s__law_draw ["_law_pen_here", "_law_most"]) : Cal P w K mg base 1 "_law_draw" ["_law_pen_here", "_law_most"] S__law_draw := by
  refine ok4 Df sc__law_draw (fun ds g R h0 => by obtain ⟨_, _, h, _⟩ := h0; rw [h]; rfl) (fun cdv A outer s H E f hr => ?_)
  have hu1 := hu_of hr.r
  have hu64 := hr.units
  have hu65 : (A.deeper (PyProof.Rows.envOfC "_law_draw" (defScope s__law_draw) s.heap.objs.size f cdv)).units + 65 < cLine := by have := hr.un; omega
  refine ⟨_, (pss_cons (ps_if (pt_cmpR op_gt (pe_ix (u_ix (K := K) rfl hu1) (pv 0) pe_int (fun _ _ => rfl)) pe_int (nomark _))
    (pss_cons (ps_set (i := 2) sc__law_draw.nd rfl (by first | exact Or.inl rfl | exact Or.inr rfl) (pe_op op_mod (pe_ix (u_ix (K := K) rfl hu1) (pv 0) pe_int (fun _ _ => rfl)) (pv 1)))
    (pss_cons (ps_asg (pe_op op_fdivW (pe_ix (u_ix (K := K) rfl hu1) (pv 0) pe_int (fun _ _ => rfl)) (pv 1)) (pg_sub (pv 0) pe_int set_list))
    (pss_one (ps_ret (pv 2)))))
    pss_nil)
    (pss_cons (ps_set (i := 3) sc__law_draw.nd rfl (by first | exact Or.inl rfl | exact Or.inr rfl) (pe_ix (u_ix (K := K) rfl hu1) (pv 0) pe_int (fun _ _ => rfl)))
    (pss_cons (ps_asg (pe_op (u_add (K := K) rfl) (pv 3) pe_int) (pg_sub (pv 0) pe_int set_list))
    (pss_cons (ps_set (i := 4) sc__law_draw.nd rfl (by first | exact Or.inl rfl | exact Or.inr rfl) pe_int)
    (pss_cons (ps_if (pt_cmpR op_gt (pe_callB (u_len (K := K) rfl) (by rfl) T.b_len (by decide +kernel) (pa_cons (pe_ix (u_ix (K := K) rfl hu1) (pv 0) pe_int (fun _ _ => rfl)) pa_nil)) pe_int (nomark _))
    (pss_one (ps_set (i := 4) sc__law_draw.nd rfl (by first | exact Or.inl rfl | exact Or.inr rfl) (pe_ix (u_ix (K := K) rfl hu1) (pe_ix (u_ix (K := K) rfl hu1) (pv 0) pe_int (fun _ _ => rfl)) (pe_op op_mod (pv 3) (pe_callB (u_len (K := K) rfl) (by rfl) T.b_len (by decide +kernel) (pa_cons (pe_ix (u_ix (K := K) rfl hu1) (pv 0) pe_int (fun _ _ => rfl)) pa_nil))) (fun _ _ => rfl))))
    pss_nil)
    (pss_cons (ps_if (PW.pt (pw_and (pt_cmpR op_lt (pv 3) (pe_callB (u_len (K := K) rfl) (by rfl) T.b_len (by decide +kernel) (pa_cons (pe_ix (u_ix (K := K) rfl hu1) (pv 0) pe_int (fun _ _ => rfl)) pa_nil)) (nomark _)) (pw_and1 (pt_cmpR op_ge (pe_callB u_abs (by rfl) T.b_abs (by decide +kernel) (pa_cons (pv 4) pa_nil)) (pe_op op_pow pe_int pe_int) (nomark _)))))
    (pss_cons (ps_asg (pe_op op_fdivW (pe_callB u_abs (by rfl) T.b_abs (by decide +kernel) (pa_cons (pv 4) pa_nil)) (pv 1)) (pg_sub (pv 0) pe_int set_list))
    (pss_one (ps_ret (pe_op op_mod (pe_callB u_abs (by rfl) T.b_abs (by decide +kernel) (pa_cons (pv 4) pa_nil)) (pv 1)))))
    pss_nil)
    (pss_cons (ps_set (i := 5) sc__law_draw.nd rfl (by first | exact Or.inl rfl | exact Or.inr rfl) (pe_op op_mod (pe_op u_mul (pe_op (u_add (K := K) rfl) (pe_op (u_add (K := K) rfl) (pe_op op_mod (pv 4) pe_int) (pe_op u_mul pe_int (pv 3))) pe_int) pe_int) pe_int))
    (pss_cons (ps_set (i := 6) sc__law_draw.nd rfl (by first | exact Or.inl rfl | exact Or.inr rfl) (pe_op op_mod (pe_op (u_add (K := K) rfl) (pe_op (u_add (K := K) rfl) (pe_op u_mul (pv 5) (pv 5)) (pe_op u_mul pe_int (pv 3))) pe_int) pe_int))
    (pss_one (ps_ret (pe_op op_mod (pe_op op_fdivW (pv 6) pe_int) (pv 1)))))))))))), fun ds g R hS => ?_⟩
  obtain ⟨o, most, rfl, rfl, ⟨s, at_, dg, rfl, hs, h0, h1⟩, h2, h3, z⟩ := hS
  have ret : ∀ {r at' dg' : Int} {l : List O}, 0 ≤ r → r < most → 0 ≤ at' → 0 ≤ dg' → l = [penO s at' dg'] → Res 1 R (.f (.int r)) l := fun a b c d e => by subst e; exact .inl (z _ _ a b ⟨s, _, _, rfl, hs, c, d⟩)
  have e80 : (2 : Nat) ^ 80 = 1208925819614629174706176 := by decide
  have m80 : most.natAbs < 2 ^ 80 := by rw [e80]; omega
  have cw : ∀ x : Int, CDivW x most := fun x => wide_div h2 m80 (by decide) (by decide)
  show ExS K _ [some _, some _, none, none, none, none, none] _ _
  walk_at "w"
  refine d_both (fun hd => ?_) (fun hd => ?_)
  · walk_at "w"
    refine o_Ii (cw _) ?_
    refine g_setR ?_
    walk_at "w"
    refine ⟨0, _, 2, 2, rfl, rfl, rfl, rfl, ?_⟩
    walk_at "w"
    exact ret (Int.emod_nonneg _ (Int.ne_of_gt h2)) (Int.emod_lt_of_pos _ h2) h0 (Int.ediv_nonneg h1 (Int.le_of_lt h2)) rfl
  · walk_at "w"
    refine g_setR ?_
    walk_at "w"
    refine ⟨0, _, 1, 1, rfl, rfl, rfl, rfl, ?_⟩
    refine xs_set ?_
    walk_at "e"
    refine xs_mid (fun ρ' l' => ∃ c, ρ' = [some (.own 0), some (.f (.int most)), none, some (.f (.int at_)), some (.f (.int c)), none, none] ∧ l' = [penO s (at_ + 1) dg]) ?_ ?_
    · walk_at "w"
      refine d_both (fun hl => ?_) (fun hl => ?_)
      · obtain ⟨k, hk⟩ := at_mod (i := at_) hl
        walk_at "w"
        refine o_ixSq hk ?_
        exact ⟨k, rfl, rfl⟩
      · exact x_next ⟨0, rfl, rfl⟩
    · rintro ρ' l' ⟨c, rfl, rfl⟩
      have hm : ∀ {x : Int} {l : List O}, l = [penO s (at_ + 1) dg] → Res 1 R (.f (.int (x % most))) l := fun e => ret (Int.emod_nonneg _ (Int.ne_of_gt h2)) (Int.emod_lt_of_pos _ h2) (by omega) h1 e
      walk_at "w"
      refine d_both (fun ha => ?_) (fun ha => ?_)
      · walk_at "w"
        refine d_both (fun hb => ?_) (fun hb => ?_)
        · have hc : (0 : Int) ≤ if c < 0 then -c else c := by split <;> omega
          walk_at "w"
          refine o_Ii (cw _) ?_
          refine g_setR ?_
          walk_at "w"
          refine ⟨0, _, 2, 2, rfl, rfl, rfl, rfl, ?_⟩
          walk_at "w"
          exact ret (Int.emod_nonneg _ (Int.ne_of_gt h2)) (Int.emod_lt_of_pos _ h2) (by omega) (Int.ediv_nonneg hc (Int.le_of_lt h2)) rfl
        · walk_at "w"
          refine o_Ii (wide_div (b := 7) (by decide) (by decide) (by decide) (by decide)) ?_
          walk_at "w"
          exact hm rfl
      · walk_at "w"
        refine o_Ii (wide_div (b := 7) (by decide) (by decide) (by decide) (by decide)) ?_
        walk_at "w"
        exact hm rfl
def NamesOk (many : Int) (xs : List Str) : Prop := (xs.length : Int) = many ∧ xs.Nodup ∧ ∀ x ∈ xs, Low x ∧ 1 ≤ x.length ∧ x.length ≤ 8
theorem strs_of {acc : List PyData} {n : Nat} {f : Nat → Str} (hl : acc.length = n) (h : ∀ (i : Nat) d, acc[i]? = some d → d = .str (f i)) : acc = sPy ((List.range n).map f) := by
  refine List.ext_getElem? fun i => ?_
  show _ = (((List.range n).map f).map PyData.str)[i]?
  rw [List.getElem?_map, List.getElem?_map]
  by_cases hi : i < n
  · have e : acc[i]? = some acc[i] := List.getElem?_eq_getElem (by omega)
    rw [List.getElem?_range hi, e, h i _ e]
    rfl
  · rw [List.getElem?_eq_none (by omega), List.getElem?_eq_none (by simpa using hi)]
    rfl
theorem range_nodup {n : Nat} {f : Nat → Str} (h : ∀ i j, i < n → j < n → f i = f j → i = j) : ((List.range n).map f).Nodup := by
  have h0 : (List.range n).Nodup := List.nodup_range
  unfold List.Nodup at *
  rw [List.pairwise_map]
  refine List.Pairwise.imp_of_mem (fun ha hb hne e => hne ?_) h0
  exact h _ _ (List.mem_range.mp ha) (List.mem_range.mp hb) e
theorem cut_head_len {x : Str} {k : Int} (h0 : 0 ≤ k) (h1 : k ≤ x.length) : ((cutS x none (some k)).length : Int) = k := by
  rw [← cs_len, cs_cut, List.length_take, List.length_drop, cs_len]
  have e1 : HT.sIx x.length 0 none = 0 := rfl
  have e2 : HT.sIx x.length x.length (some k) = k.toNat := by
    unfold HT.sIx
    simp only
    split <;> omega
  rw [e1, e2]
  omega
theorem cut_head_le {x : Str} {k : Int} (h0 : 0 ≤ k) : ((cutS x none (some k)).length : Int) ≤ k := by
  rw [← cs_len, cs_cut, List.length_take, List.length_drop, cs_len]
  have e1 : HT.sIx x.length 0 none = 0 := rfl
  have e2 : (HT.sIx x.length x.length (some k) : Int) ≤ k := by
    unfold HT.sIx
    simp only
    split <;> omega
  rw [e1]
  omega
theorem cut_mid_le {x : Str} {a b : Int} (h0 : 0 ≤ a) (h1 : 0 ≤ b) : (cutS x (some a) (some b)).length ≤ (b - a).toNat := by
  rw [← cs_len, cs_cut, List.length_take, List.length_drop, cs_len]
  have e1 : HT.sIx x.length 0 (some a) = x.length ∨ HT.sIx x.length 0 (some a) = a.toNat := by
    unfold HT.sIx
    simp only
    split <;> omega
  have e2 : (HT.sIx x.length x.length (some b)) ≤ b.toNat := by
    unfold HT.sIx
    simp only
    split <;> omega
  omega
theorem app_left {a x y : Str} (h : a ++ x = a ++ y) : x = y := by
  have e := congrArg cs h
  rw [cs_app, cs_app] at e
  exact cs_ext (List.append_cancel_left e)
theorem app_right {a x y : Str} (h : x ++ a = y ++ a) : x = y := by
  have e := congrArg cs h
  rw [cs_app, cs_app] at e
  exact cs_ext (List.append_cancel_right e)
theorem one_inj {a b : Nat} (h : (⟨#[a]⟩ : Str) = ⟨#[b]⟩) : a = b := by
  have e := congrArg cs h
  simpa [cs] using e
theorem two_inj {a b c d : Nat} (h : (⟨#[a]⟩ : Str) ++ ⟨#[b]⟩ = ⟨#[c]⟩ ++ ⟨#[d]⟩) : a = c ∧ b = d := by
  have e := congrArg cs h
  rw [cs_app, cs_app] at e
  simpa [cs] using e
theorem str_assoc (x y z : Str) : x ++ y ++ z = x ++ (y ++ z) := cs_ext (by rw [cs_app, cs_app, cs_app, cs_app, List.append_assoc])
def sign (t : Int) (i : Nat) : Str := ⟨#[97 + ((t + 5 * i) % 26).toNat]⟩
theorem sign_low (t : Int) (i : Nat) : Low (sign t i) ∧ (sign t i).length = 1 := by
  have g1 := Int.emod_nonneg (t + 5 * i) (show (26 : Int) ≠ 0 by decide)
  have g2 := Int.emod_lt_of_pos (t + 5 * i) (show (0 : Int) < 26 by decide)
  exact ⟨Low.one (by omega) (by omega), rfl⟩
def S__law_names : Spec3 := fun ds g R => ∃ o many, ds = [.own 0, .f (.int many)] ∧ g = [o] ∧ IsPen o ∧ 0 ≤ many ∧ many ≤ 60 ∧ ∀ o' xs, IsPen o' → NamesOk many xs → R (.own 1) [o', .lst (sPy xs)]
abbrev s__law_names : Stmt := top 46
theorem sc__law_names : FnScope ["_law_pen_here", "_law_many", "_law_letters", "_law_words", "_law_base", "_law_size", "_law_at", "_law_turn", "_law_manner", "_law_signs", "_law_head", "_law_tail", "_law_k", "_law_sign"] ["_law_pen_here", "_law_many"] (defScope s__law_names) := ⟨rfl, rfl, rfl, by decide +kernel, rfl, by decide +kernel, by decide +kernel⟩
set_option maxHeartbeats 4000000 in
theorem ok__law_names (T : Bi K mg) (Df : DefAt K mg "_law_names" s__law_names ["_law_pen_here", "_law_many"]) (C__law_draw : Cal P w K mg base 1 "_law_draw" ["_law_pen_here", "_law_most"] S__law_draw) : Cal P w K mg base 2 "_law_names" ["_law_pen_here", "_law_many"] S__law_names := by
  refine ok4 Df sc__law_names (fun ds g R h0 => by obtain ⟨_, _, h, _⟩ := h0; rw [h]; rfl) (fun cdv A outer s H E f hr => ?_)
  have hu1 := hu_of hr.r
  have hu64 := hr.units
  have hu65 : (A.deeper (PyProof.Rows.envOfC "_law_names" (defScope s__law_names) s.heap.objs.size f cdv)).units + 65 < cLine := by have := hr.un; omega
  refine ⟨_, (pss_cons (ps_set (i := 2) sc__law_names.nd rfl (by first | exact Or.inl rfl | exact Or.inr rfl) pe_str)
    (pss_cons (ps_set (i := 3) sc__law_names.nd rfl (by first | exact Or.inl rfl | exact Or.inr rfl) (pe_lst (pa_cons pe_str (pa_cons pe_str (pa_cons pe_str (pa_cons pe_str (pa_cons pe_str (pa_cons pe_str (pa_cons pe_str (pa_cons pe_str (pa_cons pe_str (pa_cons pe_str (pa_cons pe_str (pa_cons pe_str pa_nil))))))))))))))
    (pss_cons (ps_set (i := 3) sc__law_names.nd rfl (by first | exact Or.inl rfl | exact Or.inr rfl) (pe_op (u_add (K := K) rfl) (pv 3) (pe_lst (pa_cons pe_str (pa_cons pe_str (pa_cons pe_str (pa_cons pe_str (pa_cons pe_str pa_nil))))))))
    (pss_cons (ps_set (i := 4) sc__law_names.nd rfl (by first | exact Or.inl rfl | exact Or.inr rfl) (u_join (K := K) rfl pe_str (pe_lc (own := [("_law_k", 12)]) (by rfl) sc__law_names.nd (pi_range1 (by rfl) T.b_range (pa_cons pe_int pa_nil)) (blkOk_by (own := [("_law_k", 12)]) (N := ["_law_pen_here", "_law_many", "_law_letters", "_law_words", "_law_base", "_law_size", "_law_at", "_law_turn", "_law_manner", "_law_signs", "_law_head", "_law_tail", "_law_k", "_law_sign"]) (sc := defScope s__law_names) (by decide +kernel)) (fun _ _ _ _ _ => (pg_name (i := 12) sc__law_names.nd rfl (by first | exact Or.inl rfl | exact Or.inr rfl))) (fun _ _ _ _ _ => pts_nil) (fun _ _ _ _ _ => (pe_ix (u_ix (K := K) rfl hu1) (pv 2) (pe_cal (K := K) rfl C__law_draw (hr.mono (by decide)) (by rfl) (pa_cons (pv 0) (pa_cons pe_int pa_nil))) (fun _ _ => rfl))))))
    (pss_cons (ps_set (i := 5) sc__law_names.nd rfl (by first | exact Or.inl rfl | exact Or.inr rfl) (pe_op (u_add (K := K) rfl) pe_int (pe_cal (K := K) rfl C__law_draw (hr.mono (by decide)) (by rfl) (pa_cons (pv 0) (pa_cons pe_int pa_nil)))))
    (pss_cons (ps_set (i := 6) sc__law_names.nd rfl (by first | exact Or.inl rfl | exact Or.inr rfl) (pe_cal (K := K) rfl C__law_draw (hr.mono (by decide)) (by rfl) (pa_cons (pv 0) (pa_cons (pv 5) pa_nil))))
    (pss_cons (ps_set (i := 7) sc__law_names.nd rfl (by first | exact Or.inl rfl | exact Or.inr rfl) (pe_cal (K := K) rfl C__law_draw (hr.mono (by decide)) (by rfl) (pa_cons (pv 0) (pa_cons pe_int pa_nil))))
    (pss_cons (ps_set (i := 8) sc__law_names.nd rfl (by first | exact Or.inl rfl | exact Or.inr rfl) (pe_cal (K := K) rfl C__law_draw (hr.mono (by decide)) (by rfl) (pa_cons (pv 0) (pa_cons pe_int pa_nil))))
    (pss_cons (ps_if (PW.pt (pw_and (pt_cmpR (u_eq (K := K) rfl hu64) (pv 8) pe_int (nomark _)) (pw_and1 (pt_cmpR op_lt (pv 1) pe_int (nomark _)))))
    (pss_one (ps_ret (pe_lc (own := [("_law_k", 12)]) (by rfl) sc__law_names.nd (pi_range1 (by rfl) T.b_range (pa_cons (pv 1) pa_nil)) (blkOk_by (own := [("_law_k", 12)]) (N := ["_law_pen_here", "_law_many", "_law_letters", "_law_words", "_law_base", "_law_size", "_law_at", "_law_turn", "_law_manner", "_law_signs", "_law_head", "_law_tail", "_law_k", "_law_sign"]) (sc := defScope s__law_names) (by decide +kernel)) (fun _ _ _ _ _ => (pg_name (i := 12) sc__law_names.nd rfl (by first | exact Or.inl rfl | exact Or.inr rfl))) (fun _ _ _ _ _ => pts_nil) (fun _ _ _ _ _ => (pe_slice (u_sl (K := K) rfl) (pv 4) po_none (po_some (pe_op (u_add (K := K) rfl) (pe_op op_mod (pe_op (u_add (K := K) rfl) (pv 7) (pe_op u_mul pe_int (pv 12))) pe_int) pe_int)))))))
    pss_nil)
    (pss_cons (ps_if (PW.pt (pw_and (pt_cmpR (u_eq (K := K) rfl hu64) (pv 8) pe_int (nomark _)) (pw_and1 (pt_cmpR op_lt (pv 1) pe_int (nomark _)))))
    (pss_one (ps_ret (pe_lc (own := [("_law_k", 12)]) (by rfl) sc__law_names.nd (pi_range1 (by rfl) T.b_range (pa_cons (pv 1) pa_nil)) (blkOk_by (own := [("_law_k", 12)]) (N := ["_law_pen_here", "_law_many", "_law_letters", "_law_words", "_law_base", "_law_size", "_law_at", "_law_turn", "_law_manner", "_law_signs", "_law_head", "_law_tail", "_law_k", "_law_sign"]) (sc := defScope s__law_names) (by decide +kernel)) (fun _ _ _ _ _ => (pg_name (i := 12) sc__law_names.nd rfl (by first | exact Or.inl rfl | exact Or.inr rfl))) (fun _ _ _ _ _ => pts_nil) (fun _ _ _ _ _ => (pe_ix (u_ix (K := K) rfl hu1) (pv 3) (pe_op op_mod (pe_op (u_add (K := K) rfl) (pv 7) (pv 12)) pe_int) (fun _ _ => rfl))))))
    pss_nil)
    (pss_cons (ps_set (i := 9) sc__law_names.nd rfl (by first | exact Or.inl rfl | exact Or.inr rfl) (pe_lc (own := [("_law_k", 12)]) (by rfl) sc__law_names.nd (pi_range1 (by rfl) T.b_range (pa_cons (pv 1) pa_nil)) (blkOk_by (own := [("_law_k", 12)]) (N := ["_law_pen_here", "_law_many", "_law_letters", "_law_words", "_law_base", "_law_size", "_law_at", "_law_turn", "_law_manner", "_law_signs", "_law_head", "_law_tail", "_law_k", "_law_sign"]) (sc := defScope s__law_names) (by decide +kernel)) (fun _ _ _ _ _ => (pg_name (i := 12) sc__law_names.nd rfl (by first | exact Or.inl rfl | exact Or.inr rfl))) (fun _ _ _ _ _ => pts_nil) (fun _ _ _ _ _ => (pe_ix (u_ix (K := K) rfl hu1) (pv 2) (pe_op op_mod (pe_op (u_add (K := K) rfl) (pv 7) (pe_op u_mul pe_int (pv 12))) pe_int) (fun _ _ => rfl)))))
    (pss_cons (ps_if (pt_cmpR op_lt (pv 1) pe_int (nomark _))
    (pss_one (ps_ret (pe_lc (own := [("_law_sign", 13)]) (by rfl) sc__law_names.nd (u_seq (K := K) rfl (pv 9)) (blkOk_by (own := [("_law_sign", 13)]) (N := ["_law_pen_here", "_law_many", "_law_letters", "_law_words", "_law_base", "_law_size", "_law_at", "_law_turn", "_law_manner", "_law_signs", "_law_head", "_law_tail", "_law_k", "_law_sign"]) (sc := defScope s__law_names) (by decide +kernel)) (fun _ _ _ _ _ => (pg_name (i := 13) sc__law_names.nd rfl (by first | exact Or.inl rfl | exact Or.inr rfl))) (fun _ _ _ _ _ => pts_nil) (fun _ _ _ _ _ => (pe_op (u_add (K := K) rfl) (pe_op (u_add (K := K) rfl) (pe_slice (u_sl (K := K) rfl) (pv 4) po_none (po_some (pv 6))) (pv 13)) (pe_slice (u_sl (K := K) rfl) (pv 4) (po_some (pe_op (u_add (K := K) rfl) (pv 6) pe_int)) (po_some (pv 5))))))))
    pss_nil)
    (pss_cons (ps_set (i := 10) sc__law_names.nd rfl (by first | exact Or.inl rfl | exact Or.inr rfl) (pe_slice (u_sl (K := K) rfl) (pv 4) po_none (po_some (pe_op op_mod (pv 6) pe_int))))
    (pss_cons (ps_set (i := 11) sc__law_names.nd rfl (by first | exact Or.inl rfl | exact Or.inr rfl) (pe_slice (u_sl (K := K) rfl) (pv 4) (po_some (pe_op op_mod (pv 6) pe_int)) (po_some (pe_op op_mod (pv 5) pe_int))))
    (pss_one (ps_ret (pe_lc (own := [("_law_k", 12)]) (by rfl) sc__law_names.nd (pi_range1 (by rfl) T.b_range (pa_cons (pv 1) pa_nil)) (blkOk_by (own := [("_law_k", 12)]) (N := ["_law_pen_here", "_law_many", "_law_letters", "_law_words", "_law_base", "_law_size", "_law_at", "_law_turn", "_law_manner", "_law_signs", "_law_head", "_law_tail", "_law_k", "_law_sign"]) (sc := defScope s__law_names) (by decide +kernel)) (fun _ _ _ _ _ => (pg_name (i := 12) sc__law_names.nd rfl (by first | exact Or.inl rfl | exact Or.inr rfl))) (fun _ _ _ _ _ => pts_nil) (fun _ _ _ _ _ => (pe_op (u_add (K := K) rfl) (pe_op (u_add (K := K) rfl) (pe_op (u_add (K := K) rfl) (pv 10) (pe_ix (u_ix (K := K) rfl hu1) (pv 9) (pv 12) (fun _ _ => rfl))) (pe_ix (u_ix (K := K) rfl hu1) (pv 2) (pe_op op_fdiv (pv 12) pe_int) (fun _ _ => rfl))) (pv 11)))))))))))))))))))), fun ds g R hS => ?_⟩
  obtain ⟨o, many, rfl, rfl, hp, h0, h1, z⟩ := hS
  show ExS K _ [some _, some _, none, none, none, none, none, none, none, none, none, none, none, none] _ _
  refine xs_set ?_
  walk_at "e"
  refine xs_mid (fun ρ' l' => ∃ W, ρ' = [some (.own 0), some (.f (.int many)), some (.f (.str lets)), some (.own 1), none, none, none, none, none, none, none, none, none, none] ∧ l' = [o, .lst (sPy W)] ∧ W.length = 12 ∧ W = (["top", "group", "tie", "wait", "first", "last", "thing", "untie", "drop", "want", "unwant", "many"] : List Str)) ?_ ?_
  · walk_at "w"
    refine e_lst ?_
    walk_at "w"
    refine ⟨["top", "group", "tie", "wait", "first", "last", "thing", "untie", "drop", "want", "unwant", "many"], rfl, rfl, rfl, rfl⟩
  rintro ρ' l' ⟨W, rfl, rfl, hW1, hW⟩
  refine xs_mid (fun ρ' l' => ∃ W W2, ρ' = [some (.own 0), some (.f (.int many)), some (.f (.str lets)), some (.own 3), none, none, none, none, none, none, none, none, none, none] ∧ l' = [o, .lst (sPy W), .lst (sPy W2), .lst (sPy (W ++ W2))] ∧ (W ++ W2).length = 17 ∧ (W ++ W2).Nodup ∧ ∀ x ∈ W ++ W2, Low x ∧ 1 ≤ x.length ∧ x.length ≤ 8) ?_ ?_
  · walk_at "w"
    refine e_lst ?_
    walk_at "w"
    refine o_addL (.inr ⟨_, rfl, rfl⟩) (.inr ⟨_, rfl, rfl⟩) (by rw [sPy_len, hW1]; decide) ?_
    refine ⟨W, ["lay", "ring", "place", "bar", "house"], rfl, by rw [sPy_app]; rfl, by rw [List.length_append, hW1]; rfl, ?_, ?_⟩
    · subst hW; decide +kernel
    · subst hW; decide +kernel
  clear hW hW1 W
  rintro ρ' l' ⟨W, W2, rfl, rfl, hW1, hWn, hW⟩
  walk_at "w"
  refine e_lcR (gg_name (by decide)) ?_
  walk_at "w"
  refine ⟨fun i acc l' => ∃ o' ys, IsPen o' ∧ l' = [o', .lst (sPy W), .lst (sPy W2), .lst (sPy (W ++ W2))] ∧ acc = sPy ys ∧ ys.length = i ∧ ∀ y ∈ ys, Low y ∧ y.length = 1, ⟨o, [], hp, rfl, rfl, rfl, fun _ h => by cases h⟩, ?_, ?_, ?_⟩
  · rintro i acc l' hi ⟨o', ys, _, _, rfl, hyl, _⟩
    rw [sPy_len]
    have : i ≤ 8 := hi
    omega
  · rintro i acc l' hi ⟨o', ys, hp', rfl, rfl, hl, hy⟩
    walk_at "w"
    walk_at "d"
    intro r o2 hr1 hr2 hp2
    refine o_ixS (by rw [lets_len]; decide) (lets_at hr1 hr2) ?_
    refine ⟨_, rfl, o2, ys ++ [⟨#[97 + r.toNat]⟩], hp2, rfl, by rw [sPy_app]; rfl, by rw [List.length_append, hl]; rfl, fun y hy' => ?_⟩
    rcases List.mem_append.mp hy' with h | h
    · exact hy y h
    · have e : y = ⟨#[97 + r.toNat]⟩ := by simpa using h
      subst e
      exact ⟨Low.one (by omega) (by omega), rfl⟩
  rintro acc l' ⟨o', ys, hp', rfl, rfl, hl, hy⟩
  have hys : ys.length = 8 := hl
  refine m_join (ys := ys) (.inl (.inr ⟨_, rfl, rfl⟩)) (by rw [sum_len ys 1 fun y h => (hy y h).2, hys]; decide) ?_
  have hbL : Low (Txt.join "" ys) := Low.join fun y h => (hy y h).1
  have hbl : (Txt.join "" ys).length = 8 := by rw [join_len ys 1 fun y h => (hy y h).2, hys]
  generalize Txt.join "" ys = base at hbL hbl
  have fin : ∀ {n : Nat} {l' : List O} {o' : O} {xs : List Str}, l'[n]? = some (.lst (sPy xs)) → 1 ≤ n → l'.take 1 = [o'] → IsPen o' → (xs.length : Int) = many → xs.Nodup → (∀ x ∈ xs, Low x ∧ 1 ≤ x.length ∧ x.length ≤ 8) → Res 1 R (.own n) l' := fun h1 h2 h3 h4 h5 h7 h6 =>
    Res.own h1 trivial nofun h2 (by rw [h3]; intro x hx; cases hx with | head => exact h4.under | tail _ h => cases h) (by rw [h3]; exact z _ _ h4 ⟨h5, h7, h6⟩)
  walk_at "w"
  walk_at "d"
  intro r1 o1 a1 b1 p1
  walk_at "w"
  walk_at "d"
  intro r2 o2 a2 b2 p2
  walk_at "w"
  walk_at "d"
  intro r3 o3 a3 b3 p3
  walk_at "w"
  walk_at "d"
  intro r4 o4 a4 b4 p4
  refine xs_gate ?_ ?_
  · walk_at "w"
    refine d_both (fun c1 => ?_) (fun c1 => rfl)
    walk_at "w"
    refine d_both (fun c2 => ?_) (fun c2 => rfl)
    walk_at "w"
    refine e_lcRp (fun i y => y = .str (cutS base none (some ((r3 + 3 * i) % 8 + 1)))) (gg_name (by decide)) ?_
    walk_at "w"
    refine ⟨by omega, by omega, fun i hi => ?_, fun acc ha hx => ?_⟩
    · walk_at "w"
      refine s_str (by omega) ?_
      exact ⟨_, rfl, rfl, rfl⟩
    · have e := strs_of (f := fun i => cutS base none (some ((r3 + 3 * (i : Int)) % 8 + 1))) ha hx
      subst e
      have hlen : ∀ i : Nat, ((cutS base none (some ((r3 + 3 * (i : Int)) % 8 + 1))).length : Int) = (r3 + 3 * (i : Int)) % 8 + 1 := fun i => cut_head_len (by omega) (by omega)
      refine fin (n := 5) rfl (by decide) rfl p4 (by rw [List.length_map, List.length_range]; omega) (range_nodup fun i j hi hj e => ?_) fun x hx => ?_
      · have e1 := hlen i
        rw [e, hlen j] at e1
        omega
      · obtain ⟨i, _, rfl⟩ := List.mem_map.mp hx
        have e1 := hlen i
        exact ⟨hbL.cut _ _, by omega, by omega⟩
  refine xs_gate ?_ ?_
  · walk_at "w"
    refine d_both (fun c1 => ?_) (fun c1 => rfl)
    walk_at "w"
    refine d_both (fun c2 => ?_) (fun c2 => rfl)
    walk_at "w"
    refine e_lcRp (fun i y => y = .str ((W ++ W2).getD ((r3 + i) % 17).toNat "")) (gg_name (by decide)) ?_
    walk_at "w"
    have inW : ∀ i : Nat, ((r3 + (i : Int)) % 17).toNat < (W ++ W2).length := fun i => by
      have g1 := Int.emod_nonneg (r3 + i) (show (17 : Int) ≠ 0 by decide)
      have g2 := Int.emod_lt_of_pos (r3 + i) (show (0 : Int) < 17 by decide)
      omega
    have getW : ∀ i : Nat, (W ++ W2).getD ((r3 + (i : Int)) % 17).toNat "" = (W ++ W2)[((r3 + (i : Int)) % 17).toNat]'(inW i) := fun i => by
      rw [List.getD_eq_getElem?_getD, List.getElem?_eq_getElem (inW i)]
      rfl
    refine ⟨by omega, by omega, fun i hi => ?_, fun acc ha hx => ?_⟩
    · walk_at "w"
      have g1 := Int.emod_nonneg (r3 + i) (show (17 : Int) ≠ 0 by decide)
      obtain ⟨j, hj⟩ := Int.eq_ofNat_of_zero_le g1
      have hjl : j < (W ++ W2).length := by have := inW i; omega
      have hx : (sPy (W ++ W2))[j]? = some (.str ((W ++ W2)[j])) := by
        show ((W ++ W2).map PyData.str)[j]? = _
        rw [List.getElem?_map]; simp [hjl]
      refine o_ixQ (isq_own (n := 3) rfl) (by rw [hj]; exact atI_nat hx) ?_
      refine ⟨_, rfl, ?_, rfl⟩
      rw [hj, List.getD_eq_getElem?_getD, show ((j : Int)).toNat = j from rfl, List.getElem?_eq_getElem hjl]
      rfl
    · have e := strs_of (f := fun i => (W ++ W2).getD ((r3 + (i : Int)) % 17).toNat "") ha hx
      subst e
      refine fin (n := 5) rfl (by decide) rfl p4 (by rw [List.length_map, List.length_range]; omega) (range_nodup fun i j hi hj e => ?_) fun x hx => ?_
      · rw [getW, getW] at e
        have e1 := congrArg (fun x => (W ++ W2).idxOf x) e
        simp only [hWn.idxOf_getElem] at e1
        have g1 := Int.emod_nonneg (r3 + i) (show (17 : Int) ≠ 0 by decide)
        have g2 := Int.emod_nonneg (r3 + j) (show (17 : Int) ≠ 0 by decide)
        omega
      · obtain ⟨i, _, rfl⟩ := List.mem_map.mp hx
        have hm := hW _ (List.getElem_mem (inW i))
        rw [← getW i] at hm
        exact ⟨hm.1, hm.2.1, by omega⟩
  walk_at "w"
  refine e_lcRp (fun i y => y = .str (sign r3 i)) (gg_name (by decide)) ?_
  walk_at "w"
  refine ⟨by omega, by omega, fun i hi => ?_, fun acc ha hx => ?_⟩
  · walk_at "w"
    refine o_ixS lets_le (lets_at (Int.emod_nonneg _ (by decide)) (Int.emod_lt_of_pos _ (by decide))) ?_
    exact ⟨_, rfl, rfl, rfl⟩
  have e := strs_of (f := sign r3) ha hx
  subst e
  clear hx ha
  refine xs_gate ?_ ?_
  · walk_at "w"
    refine d_both (fun c1 => ?_) (fun c1 => rfl)
    walk_at "w"
    refine e_lcQp (fun d y => ∃ x, d = .str x ∧ y = .str (cutS base none (some r2) ++ x ++ cutS base (some (r2 + 1)) (some (1 + r1)))) (gg_name (by decide)) ?_
    walk_at "w"
    refine ⟨sPy ((List.range many.toNat).map (sign r3)), isq_own (n := 5) rfl, by rw [sPy_len, List.length_map, List.length_range]; omega, fun d hd => ?_, fun acc ha hx => ?_⟩
    · obtain ⟨x, hxm, rfl⟩ := sPy_mem hd
      obtain ⟨i, _, rfl⟩ := List.mem_map.mp hxm
      have x2 := (sign_low r3 i).2
      walk_at "w"
      refine s_str (by omega) ?_
      walk_at "w"
      have q1 := cut_len base none (some r2)
      refine o_addS (by omega) ?_
      walk_at "w"
      refine s_str (by omega) ?_
      have q2 := cut_len base (some (r2 + 1)) (some (1 + r1))
      refine o_addS (by rw [len_app]; omega) ?_
      exact ⟨_, rfl, ⟨_, rfl, rfl⟩, rfl⟩
    · rw [sPy_len, List.length_map, List.length_range] at ha
      have e := strs_of (f := fun i => cutS base none (some r2) ++ sign r3 i ++ cutS base (some (r2 + 1)) (some (1 + r1))) ha fun i d hd => by
        have hi : i < many.toNat := by rw [← ha]; exact (List.getElem?_eq_some_iff.mp hd).1
        obtain ⟨x, e1, e2⟩ := hx i (.str (sign r3 i)) d (sPy_get_of (by rw [List.getElem?_map, List.getElem?_range hi]; rfl)) hd
        cases e1
        exact e2
      subst e
      have q1 := cut_head_le (x := base) (k := r2) (by omega)
      have q2 := cut_mid_le (x := base) (a := r2 + 1) (b := 1 + r1) (by omega) (by omega)
      refine fin (n := 6) rfl (by decide) rfl p4 (by rw [List.length_map, List.length_range]; omega) (range_nodup fun i j hi hj e => ?_) fun x hx => ?_
      · have e1 := one_inj (app_left (app_right e))
        omega
      · obtain ⟨i, _, rfl⟩ := List.mem_map.mp hx
        have x2 := sign_low r3 i
        exact ⟨((hbL.cut _ _).app x2.1).app (hbL.cut _ _), by rw [len_app, len_app]; omega, by rw [len_app, len_app]; omega⟩
  walk_at "w"
  refine s_str (by omega) ?_
  walk_at "w"
  refine s_str (by omega) ?_
  walk_at "w"
  refine e_lcRp (fun i y => y = .str (cutS base none (some (r2 % 6)) ++ sign r3 i ++ ⟨#[97 + ((i : Int) / 26).toNat]⟩ ++ cutS base (some (r2 % 6)) (some ((1 + r1) % 7)))) (gg_name (by decide)) ?_
  walk_at "w"
  refine ⟨by omega, by omega, fun i hi => ?_, fun acc ha hx => ?_⟩
  · have hil : i < many.toNat := hi
    walk_at "w"
    have hs : (sPy ((List.range many.toNat).map (sign r3)))[i]? = some (.str (sign r3 i)) := sPy_get_of (by rw [List.getElem?_map, List.getElem?_range hil]; rfl)
    refine o_ixQ (isq_own (n := 5) rfl) (atI_nat hs) ?_
    have x2 := (sign_low r3 i).2
    have q1 := cut_len base none (some (r2 % 6))
    have q2 := cut_len base (some (r2 % 6)) (some ((1 + r1) % 7))
    refine o_addS (by omega) ?_
    walk_at "w"
    refine o_ixS lets_le (lets_at (Int.ediv_nonneg (by omega) (by decide)) (by omega)) ?_
    refine o_addS (by rw [len_app, one_len]; omega) ?_
    walk_at "w"
    refine o_addS (by rw [len_app, len_app, one_len]; omega) ?_
    exact ⟨_, rfl, rfl, rfl⟩
  have e := strs_of (f := fun i => cutS base none (some (r2 % 6)) ++ sign r3 i ++ ⟨#[97 + ((i : Int) / 26).toNat]⟩ ++ cutS base (some (r2 % 6)) (some ((1 + r1) % 7))) ha hx
  subst e
  have q1 := cut_head_le (x := base) (k := r2 % 6) (by omega)
  have q2 := cut_mid_le (x := base) (a := r2 % 6) (b := (1 + r1) % 7) (by omega) (by omega)
  refine fin (n := 6) rfl (by decide) rfl p4 (by rw [List.length_map, List.length_range]; omega) (range_nodup fun i j hi hj e => ?_) fun x hx => ?_
  · have e0 := app_right e
    rw [str_assoc, str_assoc] at e0
    obtain ⟨e1, e2⟩ := two_inj (app_left e0)
    omega
  · obtain ⟨i, hi, rfl⟩ := List.mem_map.mp hx
    have hi := List.mem_range.mp hi
    have x2 := sign_low r3 i
    exact ⟨(((hbL.cut _ _).app x2.1).app (Low.one (by omega) (by omega))).app (hbL.cut _ _), by rw [len_app, len_app, len_app]; omega, by rw [len_app, len_app, len_app, one_len]; omega⟩
def S__law_tree : Spec3 := fun ds g R => ∃ o us deep, ds = [.own 0, .f (.list (sPy us)), .f (.int deep)] ∧ g = [o] ∧ IsPen o ∧ us.length ≤ 60 ∧ us.Nodup ∧ (∀ u ∈ us, 1 ≤ u.length) ∧ 0 ≤ deep ∧ ∀ o' ks r, IsPen o' → Tree ks us deep r → R (.f (plD (ksPy ks))) [o']
abbrev s__law_tree : Stmt := top 47
theorem sc__law_tree : FnScope ["_law_pen_here", "_law_names_here", "_law_deep", "_law_knots", "_law_levels", "_law_name", "_law_knot", "_law_some"] ["_law_pen_here", "_law_names_here", "_law_deep"] (defScope s__law_tree) := ⟨rfl, rfl, rfl, by decide +kernel, rfl, by decide +kernel, by decide +kernel⟩
set_option maxHeartbeats 4000000 in
theorem ok__law_tree (T : Bi K mg) (Df : DefAt K mg "_law_tree" s__law_tree ["_law_pen_here", "_law_names_here", "_law_deep"]) (C__law_draw : Cal P w K mg base 1 "_law_draw" ["_law_pen_here", "_law_most"] S__law_draw) : Cal P w K mg base 2 "_law_tree" ["_law_pen_here", "_law_names_here", "_law_deep"] S__law_tree := by
  refine ok4 Df sc__law_tree (fun ds g R h0 => by obtain ⟨_, _, _, h, _⟩ := h0; rw [h]; rfl) (fun cdv A outer s H E f hr => ?_)
  have hu1 := hu_of hr.r
  have hu64 := hr.units
  have hu65 : (A.deeper (PyProof.Rows.envOfC "_law_tree" (defScope s__law_tree) s.heap.objs.size f cdv)).units + 65 < cLine := by have := hr.un; omega
  refine ⟨_, (pss_cons (ps_set (i := 3) sc__law_tree.nd rfl (by first | exact Or.inl rfl | exact Or.inr rfl) (pe_lst (pa_cons (pe_tup (pa_cons pe_str (pa_cons (pe_lst pa_nil) pa_nil))) pa_nil)))
    (pss_cons (ps_set (i := 4) sc__law_tree.nd rfl (by first | exact Or.inl rfl | exact Or.inr rfl) (pe_disp (pps_cons pe_str pe_int pps_nil) (by rfl) (by rfl) (List.cons_ne_nil _ _) (Nat.le_of_ble_eq_true rfl)))
    (pss_cons (ps_for PassesOwn.never rfl (u_seq (K := K) rfl (pv 1)) (pg_name (i := 5) sc__law_tree.nd rfl (by first | exact Or.inl rfl | exact Or.inr rfl))
    (pss_cons (ps_asg (pe_ix (u_ix (K := K) rfl hu1) (pv 3) (pe_cal (K := K) rfl C__law_draw (hr.mono (by decide)) (by rfl) (pa_cons (pv 0) (pa_cons (pe_callB (u_len (K := K) rfl) (by rfl) T.b_len (by decide +kernel) (pa_cons (pv 3) pa_nil)) pa_nil))) (fun _ _ => rfl)) (u_tup (K := K) (n := 2) rfl (by rfl) (pgs_cons (pg_name (i := 6) sc__law_tree.nd rfl (by first | exact Or.inl rfl | exact Or.inr rfl)) (pgs_cons (pg_name (i := 7) sc__law_tree.nd rfl (by first | exact Or.inl rfl | exact Or.inr rfl)) pgs_nil))))
    (pss_cons (ps_expr (u_bm (K := K) rfl PySem.F.plainAttrs_list PySem.F.slot_list_insert PySem.F.type_list_insert u_insert (pv 7) (pa_cons (pe_cal (K := K) rfl C__law_draw (hr.mono (by decide)) (by rfl) (pa_cons (pv 0) (pa_cons (pe_op (u_add (K := K) rfl) (pe_callB (u_len (K := K) rfl) (by rfl) T.b_len (by decide +kernel) (pa_cons (pv 7) pa_nil)) pe_int) pa_nil))) (pa_cons (pv 5) pa_nil))))
    (pss_one (ps_if (PW.pt (pw_and (pt_cmpR op_lt (pe_ix (u_ix (K := K) rfl hu1) (pv 4) (pv 6) (fun _ _ => rfl)) (pv 2) (nomark _)) (pw_and1 (pt_cmpR (u_eq (K := K) rfl hu64) (pe_cal (K := K) rfl C__law_draw (hr.mono (by decide)) (by rfl) (pa_cons (pv 0) (pa_cons pe_int pa_nil))) pe_int (nomark _)))))
    (pss_cons (ps_dput hu1 (pv 4) (pv 5) (pe_op (u_add (K := K) rfl) (pe_ix (u_ix (K := K) rfl hu1) (pv 4) (pv 6) (fun _ _ => rfl)) pe_int) rfl)
    (pss_one (ps_expr (u_bm (K := K) rfl PySem.F.plainAttrs_list PySem.F.slot_list_insert PySem.F.type_list_insert u_insert (pv 3) (pa_cons (pe_op (u_add (K := K) rfl) pe_int (pe_cal (K := K) rfl C__law_draw (hr.mono (by decide)) (by rfl) (pa_cons (pv 0) (pa_cons (pe_callB (u_len (K := K) rfl) (by rfl) T.b_len (by decide +kernel) (pa_cons (pv 3) pa_nil)) pa_nil)))) (pa_cons (pe_tup (pa_cons (pv 5) (pa_cons (pe_lst pa_nil) pa_nil))) pa_nil))))))
    pss_nil)))))
    (pss_one (ps_ret (pe_callTy (u_tupleP (K := K) rfl) (by rfl) T.b_tuple (by decide +kernel) (pa_cons (pe_lc (own := [("_law_name", 5), ("_law_some", 7)]) (by rfl) sc__law_tree.nd (u_seq (K := K) rfl (pv 3)) (blkOk_by (own := [("_law_name", 5), ("_law_some", 7)]) (N := ["_law_pen_here", "_law_names_here", "_law_deep", "_law_knots", "_law_levels", "_law_name", "_law_knot", "_law_some"]) (sc := defScope s__law_tree) (by decide +kernel)) (fun _ _ _ _ _ => (u_tup (K := K) (n := 2) rfl (by rfl) (pgs_cons (pg_name (i := 5) sc__law_tree.nd rfl (by first | exact Or.inl rfl | exact Or.inr rfl)) (pgs_cons (pg_name (i := 7) sc__law_tree.nd rfl (by first | exact Or.inl rfl | exact Or.inr rfl)) pgs_nil)))) (fun _ _ _ _ _ => pts_nil) (fun _ _ _ _ _ => (pe_tup (pa_cons (pv 5) (pa_cons (pe_callTy (u_tupleP (K := K) rfl) (by rfl) T.b_tuple (by decide +kernel) (pa_cons (pv 7) pa_nil)) pa_nil))))) pa_nil))))))), fun ds g R hS => ?_⟩
  obtain ⟨o, us, deep, rfl, rfl, hp, hul, hun, hu1, hd, z⟩ := hS
  show ExS K _ [some _, some _, some _, none, none, none, none, none] _ _
  refine xs_set (e_rfs (a_cons (e_tpr (a_cons (e_str (a_cons (e_lst (a_nil ⟨[], rfl, by decide, a_nil ⟨Nat.le_of_ble_eq_true rfl, a_nil ⟨Nat.le_of_ble_eq_true rfl, ?_⟩⟩⟩))))))))
  refine xs_set (e_disp (by decide) (e_str (e_int ⟨.inr "", .int 0, rfl, rfl, by decide, rfl, ?_⟩)))
  show ExS K _ [some (.own 0), some (.f (.list (sPy us))), some (.f (.int deep)), some (.own 3), some (.own 4), none, none, none] [o, .lst (sPy []), .tpr [.f (.str nil0), .own 1], .rfs [.own 2], .dct [((Sum.inr nil0 : Key), PyData.int 0)]] _
  have hS0 : TreeS [o, .lst (sPy []), .tpr [.f (.str nil0), .own 1], .rfs [.own 2], .dct [((Sum.inr nil0 : Key), PyData.int 0)]] [(nil0, [])] [(2, 1)] [((Sum.inr nil0 : Key), PyData.int 0)] o := by
    refine ⟨rfl, hp, rfl, rfl, by simp, rfl, fun i p k a b => ?_⟩
    cases i with
    | zero => cases a; cases b; exact ⟨rfl, rfl⟩
    | succ i => simp at a
  refine xs_forQ (e_var rfl ⟨sPy us, isq_list, fun i ρ' l' => ∃ ks ps kvs o' r a b c, ρ' = [some (.own 0), some (.f (.list (sPy us))), some (.f (.int deep)), some (.own 3), some (.own 4), a, b, c] ∧ TreeS l' ks ps kvs o' ∧ Tree ks (us.take i) deep r ∧ kvs.length ≤ i + 1 ∧ ∀ k ∈ ks, lookD kvs (.inr k.1) = some (.int (r k.1)),
    ⟨_, _, _, _, _, none, none, none, rfl, hS0, Tree.start hd, Nat.le_refl _, fun k hk => by cases List.mem_singleton.mp hk; rfl⟩, fun _ _ _ _ _ => isq_list, ?_, ?_⟩)
  · rintro i d ρ' l' hdd ⟨ks, ps, kvs, o', r, a, b, c, rfl, hS, hT, hkl, hlv⟩
    obtain ⟨x, hx, rfl⟩ := sPy_get hdd
    have hil : i < us.length := (List.getElem?_eq_some_iff.mp hx).1
    have hks : 0 < ks.length := by obtain ⟨xs, rest, e⟩ := hT.first; rw [e]; simp
    have hkb : ks.length ≤ 61 := by have := hT.len; rw [List.length_take] at this; omega
    refine g_name (xs_asg (e_op (e_var rfl (e_draw 0 (a_cons (e_var rfl (a_cons (e_cb (a_cons (e_var rfl (a_nil (c_lenR hS.rfs ?_))))))))))))
    rw [List.length_map, hS.len]
    refine a_nil ⟨_, _, rfl, hS.pen, hS.isp, by omega, by omega, fun r1 o2 a1 b1 p2 => ?_⟩
    have hS2 := hS.drawn p2
    obtain ⟨j, rfl⟩ := Int.eq_ofNat_of_zero_le a1
    have hj : j < ks.length := by omega
    have hk : ks[j]? = some ks[j] := List.getElem?_eq_getElem hj
    obtain ⟨p, hpj⟩ := hS2.knot hk
    obtain ⟨g1, g2⟩ := hS2.at_ j p _ hpj hk
    refine o_ixR hS2.rfs (show atI (ps.map fun p => D.own p.1) ((j : Nat) : Int) = some (.own p.1) from atI_nat (by rw [List.getElem?_map, hpj]; rfl)) ?_
    refine g_tpr g1 rfl (g_cons (g_name (g_cons (g_name (g_nil ?_)))))
    have hxi : ¬ x ∈ us.take i := not_mem_take hun hx
    have hxe : x ≠ nil0 := fun e => by
      have := hu1 x (List.mem_of_getElem? hx)
      rw [e] at this
      exact absurd this (by decide)
    have hkl2 : ks[j].2.length ≤ us.length := nodup_le (hT.nd _ (List.getElem_mem hj)) fun y hy => List.mem_of_mem_take ((hT.all y).mpr ⟨_, _, List.getElem_mem hj, hy⟩)
    refine xs_drop (e_bmL (e_var rfl ⟨⟨_, isl_own g2⟩, ?_⟩))
    refine a_cons (e_draw 0 (a_cons (e_var rfl (a_cons (e_op (e_cb (a_cons (e_var rfl (a_nil (c_lenQ (isq_own g2) (e_int (o_addI ?_))))))))))))
    rw [sPy_len]
    refine a_nil ⟨_, _, rfl, hS2.pen, hS2.isp, by omega, by omega, fun r2 o3 a2 b2 p3 => ?_⟩
    have hS3 := hS2.drawn p3
    refine a_cons (e_var rfl (a_nil (m_insert (hS3.at_ j p _ hpj hk).2 (by rw [sPy_len]; omega) a2 (by omega) ?_)))
    rw [sPy_insAt]
    have hS4 := hS3.put (ys := insAt ks[j].2 r2.toNat x) hpj hk
    have hT4 := hT.put (k := ks[j].1) (xs := ks[j].2) hk r2.toNat hxi hxe
    have hnm := set_names (ys := insAt ks[j].2 r2.toNat x) (k := ks[j].1) (xs := ks[j].2) hk
    have hlen4 : (ks.set j (ks[j].1, insAt ks[j].2 r2.toNat x)).length = ks.length := List.length_set ..
    have hst : Stands (ks.set j (ks[j].1, insAt ks[j].2 r2.toNat x)) x ks[j].1 := (stands_put (k := ks[j].1) (xs := ks[j].2) hk _).mpr (.inr ⟨rfl, rfl⟩)
    have hlv4 : ∀ k ∈ ks.set j (ks[j].1, insAt ks[j].2 r2.toNat x), lookD kvs (.inr k.1) = some (.int (r k.1)) := fun k hk4 => by
      have : k.1 ∈ ks.map (·.1) := by rw [← hnm]; exact List.mem_map_of_mem hk4
      obtain ⟨k0, h0, e0⟩ := List.mem_map.mp this
      rw [← e0]
      exact hlv k0 h0
    have hjk := hlv _ (List.getElem_mem hj)
    generalize ks.set j (ks[j].1, insAt ks[j].2 r2.toNat x) = ks4 at hS4 hT4 hnm hlen4 hst hlv4
    rw [← L3.take_next hx] at hT4
    have hxn : ¬ x ∈ ks4.map (·.1) := fun h => by
      rw [hnm] at h
      rcases hT.knot_in h with e | e
      · exact hxe e
      · exact hxi e
    generalize ((l'.set 0 o2).set 0 o3).set p.2 (.lst (sPy (insAt ks[j].2 r2.toNat x))) = l4 at hS4
    clear hS3 hS2 hS g1 g2
    show ExS K _ [some (.own 0), some (.f (.list (sPy us))), some (.f (.int deep)), some (.own 3), some (.own 4), some (.f (.str x)), some (.f (.str ks[j].1)), some (.own p.2)] l4 _
    have no : ∀ {o4 : O} {l5 : List O} {kn : Str} {pn : Nat}, TreeS l5 ks4 ps kvs o4 → ∃ ks ps kvs o' r a b c, [some (D.own 0), some (.f (.list (sPy us))), some (.f (.int deep)), some (.own 3), some (.own 4), some (.f (.str x)), some (.f (.str kn)), some (.own pn)] = [some (.own 0), some (.f (.list (sPy us))), some (.f (.int deep)), some (.own 3), some (.own 4), a, b, c] ∧ TreeS l5 ks ps kvs o' ∧ Tree ks (us.take (i + 1)) deep r ∧ kvs.length ≤ i + 1 + 1 ∧ ∀ k ∈ ks, lookD kvs (.inr k.1) = some (.int (r k.1)) := fun h =>
      ⟨ks4, ps, kvs, _, r, _, _, _, rfl, h, hT4, by omega, hlv4⟩
    refine x_if (t_and (t_test (e_op (e_op (e_var rfl (e_var rfl (o_ixDk (k := .inr ks[j].1) hS4.dct hjk (e_var rfl (o_I0b ⟨_, rfl, ?_⟩)))))))))
    refine d_both (fun c1 => ?_) (fun c1 => iteF (x_next (no hS4)))
    refine t_test (e_op (e_draw 0 (a_cons (e_var rfl (a_cons (e_int (a_nil ⟨_, _, rfl, hS4.pen, hS4.isp, by decide, by decide, fun r3 o4 a3 b3 p4 => e_int (o_eqI ⟨_, rfl, ?_⟩)⟩)))))))
    have hS5 := hS4.drawn p4
    refine d_both (fun c2 => ?_) (fun c2 => x_next (no hS5))
    refine xs_dput (e_op (e_op (e_var rfl (e_var rfl (o_ixDk (k := .inr ks[j].1) hS5.dct hjk (e_int (o_addI ?_)))))))
    refine e_var rfl (e_var rfl ⟨4, kvs, .inr x, .int _, rfl, rfl, rfl, hS5.dct, by omega, ?_⟩)
    have hS6 := hS5.lev (kvs' := putD kvs (.inr x) (.int (r ks[j].1 + 1)))
    generalize (l4.set 0 o4).set 4 (.dct (putD kvs (.inr x) (.int (r ks[j].1 + 1)))) = l6 at hS6
    refine x_drop (e_bmR (e_var rfl ⟨⟨_, _, rfl, hS6.rfs⟩, ?_⟩))
    refine a_cons (e_op (e_int (e_draw 0 (a_cons (e_var rfl (a_cons (e_cb (a_cons (e_var rfl (a_nil (c_lenR hS6.rfs ?_)))))))))))
    have hps : ps.length = ks4.length := hS6.len
    refine a_nil ⟨_, _, rfl, hS6.pen, hS6.isp, by rw [List.length_map]; omega, by rw [List.length_map]; omega, fun r4 o5 a4 b4 p5 => o_addI ?_⟩
    rw [List.length_map] at b4
    have hS7 := hS6.drawn p5
    refine a_cons (e_tpr (a_cons (e_var rfl (a_cons (e_lst (a_nil ⟨[], rfl, by decide, a_nil ⟨Nat.le_of_ble_eq_true rfl, ?_⟩⟩))))))
    have hS8 := hS7.group (x := x) (j := r4.toNat + 1) (by omega)
    have el : (l6.set 0 o5 ++ [O.lst []] ++ [O.tpr [D.f (.str x), D.own (l6.set 0 o5).length]]) = l6.set 0 o5 ++ [O.lst [], O.tpr [D.f (.str x), D.own (l6.set 0 o5).length]] := by rw [List.append_assoc]; rfl
    refine a_nil (m_insertR (n := 3) (ds := ps.map fun p => D.own p.1) ?_ (by rw [List.length_map]; omega) (by omega) (by omega) ?_)
    · rw [List.append_assoc, List.getElem?_append_left (List.getElem?_eq_some_iff.mp hS7.rfs).1]
      exact hS7.rfs
    have e1 : (1 + r4).toNat = r4.toNat + 1 := by omega
    have e2 : (l6.set 0 o5 ++ [O.lst []]).length = (l6.set 0 o5).length + 1 := by rw [List.length_append]; rfl
    rw [e1, e2, el]
    refine ⟨insAt ks4 (r4.toNat + 1) (x, []), _, _, _, fun y => if y = x then r ks[j].1 + 1 else r y, _, _, _, rfl, hS8, hT4.group r4.toNat hst hxn rfl c1 (by
      have h1 := hT.len
      have h2 : (us.take (i + 1)).length = (us.take i).length + 1 := by rw [L3.take_next hx, List.length_append]; rfl
      omega), ?_, ?_⟩
    · have := putD_len kvs (.inr x) (.int (r ks[j].1 + 1))
      omega
    · intro k hk4
      rw [lookD_put]
      rcases mem_insAt.mp hk4 with hk4 | rfl
      · have ne : k.1 ≠ x := fun e => hxn (e ▸ List.mem_map_of_mem hk4)
        rw [if_neg fun e => ne (Sum.inr.inj e).symm]
        show _ = some (PyData.int (if k.1 = x then _ else _))
        rw [if_neg ne]
        exact hlv4 k hk4
      · rw [if_pos rfl]
        show _ = some (PyData.int (if x = x then _ else _))
        rw [if_pos rfl]
  rintro ρ' l' ⟨ks, ps, kvs, o', r, a, b, c, rfl, hS, hT, hkl, hlv⟩
  rw [sPy_len, List.take_length] at hT
  refine x_ret (e_cb (a_cons (e_lcRf (gg_tup (gg_cons (gg_name (by decide)) (gg_cons (gg_name (by decide)) gg_nil mono_name) mono_name)) (e_var rfl ⟨3, _, rfl, hS.rfs, fun i acc l2 => l2 = l' ∧ acc = ksPy (ks.take i), ⟨rfl, rfl⟩, ?_, ?_, ?_⟩))))
  · rintro i acc l2 hi ⟨rfl, rfl⟩
    refine ⟨hS.rfs, ?_⟩
    rw [ksPy_len, List.length_take]
    have := hT.len
    omega
  · rintro i d acc l2 hdd ⟨rfl, rfl⟩
    rw [List.getElem?_map] at hdd
    cases hpi : ps[i]? with
    | none => rw [hpi] at hdd; cases hdd
    | some p =>
      rw [hpi] at hdd
      cases hdd
      have hil : i < ks.length := by rw [← hS.len]; exact (List.getElem?_eq_some_iff.mp hpi).1
      have hki : ks[i]? = some ks[i] := List.getElem?_eq_getElem hil
      obtain ⟨g1, g2⟩ := hS.at_ i p _ hpi hki
      refine g_tpr g1 rfl (g_cons (g_name (g_cons (g_name (g_nil (t_yes ?_))))))
      refine e_tup (a_cons (e_var rfl (a_cons (e_cb (a_cons (e_var rfl (a_nil (c_tupleP (isl_own g2) (a_nil ⟨_, rfl, Nat.le_of_ble_eq_true rfl, ?_⟩)))))))))
      refine ⟨_, rfl, rfl, ?_⟩
      rw [L3.take_next hki, ksPy_app]
      rfl
  · rintro acc l2 ⟨rfl, rfl⟩
    have e : ks.take (ps.map fun p => D.own p.1).length = ks := by rw [List.length_map, hS.len, List.take_length]
    rw [e]
    refine a_nil (c_tupleP (isl_own (n := l2.length) (by rw [List.getElem?_append_right (Nat.le_refl _), Nat.sub_self]; rfl)) ?_)
    have hl1 : 1 ≤ l2.length := by have := (List.getElem?_eq_some_iff.mp hS.pen).1; omega
    have ht : (l2 ++ [O.lst (ksPy ks)]).take [o].length = [o'] := by
      show (l2 ++ [O.lst (ksPy ks)]).take 1 = _
      rw [List.take_append_of_le_length hl1]; exact hS.take1
    refine Res.dat (by rw [ht]; intro y hy; cases hy with | head => exact hS.isp.under | tail _ h => cases h) ?_
    rw [ht]
    exact z o' ks r hS.isp hT
def S__law_around : Spec3 := fun ds g R => ∃ ks us, ds = [.f (plD (ksPy ks))] ∧ g = [] ∧ TreeB ks us ∧ ∀ kvs, Arounds ks kvs → R (.own 0) [.dct kvs]
abbrev s__law_around : Stmt := top 48
theorem sc__law_around : FnScope ["_law_knots", "_law_found", "_law_name", "_law_some", "_law_unit"] ["_law_knots"] (defScope s__law_around) := ⟨rfl, rfl, rfl, by decide +kernel, rfl, by decide +kernel, by decide +kernel⟩
set_option maxHeartbeats 4000000 in
theorem ok__law_around (T : Bi K mg) (Df : DefAt K mg "_law_around" s__law_around ["_law_knots"]) : Cal P w K mg base 1 "_law_around" ["_law_knots"] S__law_around := by
  refine ok4 Df sc__law_around (fun ds g R h0 => by obtain ⟨_, _, h, _⟩ := h0; rw [h]; rfl) (fun cdv A outer s H E f hr => ?_)
  have hu1 := hu_of hr.r
  have hu64 := hr.units
  have hu65 : (A.deeper (PyProof.Rows.envOfC "_law_around" (defScope s__law_around) s.heap.objs.size f cdv)).units + 65 < cLine := by have := hr.un; omega
  refine ⟨_, (pss_cons (ps_set (i := 1) sc__law_around.nd rfl (by first | exact Or.inl rfl | exact Or.inr rfl) pe_dnewK)
    (pss_cons (ps_for PassesOwn.never rfl (u_seq (K := K) rfl (pv 0)) (u_tup (K := K) (n := 2) rfl (by rfl) (pgs_cons (pg_name (i := 2) sc__law_around.nd rfl (by first | exact Or.inl rfl | exact Or.inr rfl)) (pgs_cons (pg_name (i := 3) sc__law_around.nd rfl (by first | exact Or.inl rfl | exact Or.inr rfl)) pgs_nil)))
    (pss_one (ps_for PassesOwn.never rfl (u_seq (K := K) rfl (pv 3)) (pg_name (i := 4) sc__law_around.nd rfl (by first | exact Or.inl rfl | exact Or.inr rfl))
    (pss_one (ps_dput hu1 (pv 1) (pv 4) (pv 2) rfl)))))
    (pss_one (ps_ret (pv 1))))), fun ds g R hS => ?_⟩
  obtain ⟨ks, us, rfl, rfl, ⟨deep, r, hT, hdp, hul⟩, z⟩ := hS
  show ExS K _ [some _, none, none, none, none] _ _
  refine xs_set (e_dK ?_)
  have hin : ∀ (n : Nat) k, ks[n]? = some k → ∀ u ∈ k.2, Stands ks u k.1 := fun n k hk u hu => ⟨k.2, List.mem_of_getElem? hk, hu⟩
  have hul2 : ∀ k ∈ ks, k.2.length ≤ us.length := fun k hk => nodup_le (hT.nd k hk) fun y hy => (hT.all y).mpr ⟨_, _, hk, hy⟩
  have hkl : ks.length ≤ 61 := by have := hT.len; omega
  refine xs_forP (e_var rfl ⟨ksPy ks, rfl, fun i ρ' l' => ∃ kvs a b c, ρ' = [some (.f (plD (ksPy ks))), some (.own 0), a, b, c] ∧ l' = [.dct kvs] ∧ kvs.length ≤ 60 * i ∧ ∀ u k, Stands (ks.take i) u k → lookD kvs (.inr u) = some (.str k), ⟨[], none, none, none, rfl, rfl, Nat.zero_le _, fun u k ⟨xs, h1, _⟩ => by simp at h1⟩, ?_, ?_⟩)
  · rintro i d ρ' l' hd ⟨kvs, a, b, c, rfl, rfl, hkv, hA⟩
    obtain ⟨k, hk, rfl⟩ := ksPy_get hd
    have hkm := List.mem_of_getElem? hk
    have hk60 := hul2 k hkm
    have hil := (List.getElem?_eq_some_iff.mp hk).1
    refine g_tup rfl (g_cons (g_name (g_cons (g_name (g_nil ?_)))))
    refine x_forP (e_var rfl ⟨sPy k.2, rfl, fun j ρ' l' => ∃ kvs c, ρ' = [some (.f (plD (ksPy ks))), some (.own 0), some (.f (.str k.1)), some (.f (plD (sPy k.2))), c] ∧ l' = [.dct kvs] ∧ kvs.length ≤ 60 * i + j ∧ (∀ u k, Stands (ks.take i) u k → lookD kvs (.inr u) = some (.str k)) ∧ ∀ u ∈ k.2.take j, lookD kvs (.inr u) = some (.str k.1),
      ⟨kvs, c, rfl, rfl, hkv, hA, fun u hu => by simp at hu⟩, ?_, ?_⟩)
    · rintro j d ρ' l' hd2 ⟨kvs, c, rfl, rfl, hkv, hA, hB⟩
      obtain ⟨u, hu, rfl⟩ := sPy_get hd2
      have hum := List.mem_of_getElem? hu
      have hjl := (List.getElem?_eq_some_iff.mp hu).1
      refine g_name (x_dput (e_var rfl (e_var rfl (e_var rfl ⟨0, kvs, .inr u, .str k.1, rfl, rfl, rfl, rfl, by omega, ?_⟩))))
      refine ⟨putD kvs (.inr u) (.str k.1), _, rfl, rfl, ?_, fun v kk hv => ?_, fun v hv => ?_⟩
      · have := putD_len kvs (.inr u) (.str k.1)
        omega
      · rw [lookD_put]
        by_cases e : u = v
        · subst e
          rw [if_pos rfl]
          obtain ⟨xs, m1, m2⟩ := hv
          rw [hT.one u kk k.1 ⟨xs, List.mem_of_mem_take m1, m2⟩ ⟨k.2, hkm, hum⟩]
        · rw [if_neg fun q => e (Sum.inr.inj q)]
          exact hA v kk hv
      · rw [lookD_put]
        by_cases e : u = v
        · subst e; rw [if_pos rfl]
        · rw [if_neg fun q => e (Sum.inr.inj q)]
          rw [L3.take_next hu] at hv
          rcases List.mem_append.mp hv with h | h
          · exact hB v h
          · exact absurd (List.mem_singleton.mp h).symm e
    · rintro ρ' l' ⟨kvs, c, rfl, rfl, hkv, hA, hB⟩
      rw [sPy_len, List.take_length] at hB
      rw [sPy_len] at hkv
      refine ⟨kvs, _, _, _, rfl, rfl, by omega, fun u kk hs => ?_⟩
      obtain ⟨xs, m1, m2⟩ := hs
      rw [L3.take_next hk] at m1
      rcases List.mem_append.mp m1 with h | h
      · exact hA u kk ⟨xs, h, m2⟩
      · have e := List.mem_singleton.mp h
        subst e
        exact hB u m2
  rintro ρ' l' ⟨kvs, a, b, c, rfl, rfl, hkv, hA⟩
  rw [ksPy_len, List.take_length] at hA
  exact x_ret (e_var rfl (Res.own (n := 0) rfl trivial nofun (Nat.zero_le _) (fun _ h => by cases h) (z kvs hA)))
def S__law_path : Spec3 := fun ds g R => ∃ ks us kvs u, ds = [.own 0, .f (.str u)] ∧ g = [.dct kvs] ∧ TreeB ks us ∧ Arounds ks kvs ∧ u ∈ us ∧ ∀ p, Up ks u p → R (.own 1) [.dct kvs, .lst (sPy p)]
abbrev s__law_path : Stmt := top 49
theorem sc__law_path : FnScope ["_law_around_here", "_law_unit", "_law_path_here"] ["_law_around_here", "_law_unit"] (defScope s__law_path) := ⟨rfl, rfl, rfl, by decide +kernel, rfl, by decide +kernel, by decide +kernel⟩
set_option maxHeartbeats 4000000 in
theorem ok__law_path (T : Bi K mg) (Df : DefAt K mg "_law_path" s__law_path ["_law_around_here", "_law_unit"]) : Cal P w K mg base 1 "_law_path" ["_law_around_here", "_law_unit"] S__law_path := by
  refine ok4 Df sc__law_path (fun ds g R h0 => by obtain ⟨_, _, _, _, h, _⟩ := h0; rw [h]; rfl) (fun cdv A outer s H E f hr => ?_)
  have hu1 := hu_of hr.r
  have hu64 := hr.units
  have hu65 : (A.deeper (PyProof.Rows.envOfC "_law_path" (defScope s__law_path) s.heap.objs.size f cdv)).units + 65 < cLine := by have := hr.un; omega
  refine ⟨_, (pss_cons (ps_set (i := 2) sc__law_path.nd rfl (by first | exact Or.inl rfl | exact Or.inr rfl) (pe_lst (pa_cons (pv 1) pa_nil)))
    (pss_cons (ps_while PassesOwn.never (pt_cmpR (u_ne (K := K) rfl hu64) (pe_ix (u_ix (K := K) rfl hu1) (pv 2) pe_int (fun _ _ => rfl)) pe_str (nomark _))
    (pss_one (ps_expr (u_bm (K := K) rfl PySem.F.plainAttrs_list PySem.F.slot_list_insert PySem.F.type_list_insert u_insert (pv 2) (pa_cons pe_int (pa_cons (pe_ix (u_ix (K := K) rfl hu1) (pv 0) (pe_ix (u_ix (K := K) rfl hu1) (pv 2) pe_int (fun _ _ => rfl)) (fun _ _ => rfl)) pa_nil))))))
    (pss_one (ps_ret (pv 2))))), fun ds g R hS => ?_⟩
  obtain ⟨ks, us, kvs, u, rfl, rfl, ⟨deep, r, hT, hdp, hul⟩, hA, hu, z⟩ := hS
  show ExS K _ [some _, some _, none] _ _
  refine xs_set (e_lst (a_cons (e_var rfl (a_nil ⟨[.str u], rfl, Nat.le_of_ble_eq_true rfl, ?_⟩))))
  obtain ⟨p, hp, hpl⟩ := hT.path hu
  refine xs_while (fun ρ' l' => ∃ v q s, ρ' = [some (.own 0), some (.f (.str u)), some (.own 1)] ∧ l' = [.dct kvs, .lst (sPy (v :: s))] ∧ Up ks v q ∧ p = q ++ s) (fun _ l' => p.length - lenI l' 1) ⟨u, p, [], rfl, rfl, hp, by simp⟩ ?_
  rintro ρ' l' ⟨v, q, s, rfl, rfl, hq, hps⟩
  have hv0 : atI (sPy (v :: s)) 0 = some (.str v) := atI_nat rfl
  refine t_test (e_op (e_op (e_var rfl (e_int (o_ixQ (isq_own (n := 1) rfl) hv0 (e_str (o_neS ⟨_, rfl, ?_⟩)))))))
  refine nd_both (fun c1 => ?_) (fun c1 => ?_)
  · cases hq with
    | top => exact absurd rfl c1
    | @step _ k q' h1 h2 h3 =>
      obtain ⟨q2, eq2⟩ := h3.ne
      have hlen : p.length = q'.length + 1 + s.length := by rw [hps]; simp; omega
      have hq2 : 1 ≤ q'.length := by rw [eq2]; simp
      refine x_drop (e_bmL (e_var rfl ⟨⟨_, isl_own (n := 1) rfl⟩, ?_⟩))
      refine a_cons (e_int (a_cons (e_op (e_var rfl (e_op (e_var rfl (e_int (o_ixQ (isq_own (n := 1) rfl) hv0 ?_))))))))
      refine o_ixDk (n := 0) (k := .inr v) rfl (hA v k h2) (a_nil (m_insert (n := 1) rfl (by rw [sPy_len]; simp; omega) (by decide) (by decide) ?_))
      refine ⟨⟨k, q', v :: s, rfl, rfl, h3, by rw [hps]; simp⟩, ?_⟩
      show p.length - (sPy (k :: v :: s)).length < p.length - (sPy (v :: s)).length
      rw [sPy_len, sPy_len]
      simp only [List.length_cons]
      omega
  · subst c1
    cases hq with
    | step h1 _ _ => exact absurd rfl h1
    | top =>
      refine x_ret (e_var rfl (Res.own (n := 1) rfl trivial nofun (Nat.le_refl _) (fun x hx => by cases hx with | head => trivial | tail _ h => cases h) ?_))
      have e : p = nil0 :: s := hps
      show R (.own 1) [.dct kvs, .lst (sPy (nil0 :: s))]
      rw [← e]
      exact z p hp
def slotN (ρ : List (Option D)) (i : Nat) : Nat := match ρ[i]? with | some (some (.f (.int k))) => k.toNat | _ => 0
def S__law_parting : Spec3 := fun ds g R => ∃ ks us kvs u v, ds = [.own 0, .f (.str u), .f (.str v)] ∧ g = [.dct kvs] ∧ TreeB ks us ∧ Arounds ks kvs ∧ u ∈ us ∧ v ∈ us ∧ R (.f (partD (partF ks u v))) [.dct kvs]
abbrev s__law_parting : Stmt := top 50
theorem sc__law_parting : FnScope ["_law_around_here", "_law_one", "_law_other", "_law_here", "_law_there", "_law_at"] ["_law_around_here", "_law_one", "_law_other"] (defScope s__law_parting) := ⟨rfl, rfl, rfl, by decide +kernel, rfl, by decide +kernel, by decide +kernel⟩
set_option maxHeartbeats 4000000 in
theorem ok__law_parting (T : Bi K mg) (Df : DefAt K mg "_law_parting" s__law_parting ["_law_around_here", "_law_one", "_law_other"]) (C__law_path : Cal P w K mg base 1 "_law_path" ["_law_around_here", "_law_unit"] S__law_path) : Cal P w K mg base 2 "_law_parting" ["_law_around_here", "_law_one", "_law_other"] S__law_parting := by
  refine ok4 Df sc__law_parting (fun ds g R h0 => by obtain ⟨_, _, _, _, _, h, _⟩ := h0; rw [h]; rfl) (fun cdv A outer s H E f hr => ?_)
  have hu1 := hu_of hr.r
  have hu64 := hr.units
  have hu65 : (A.deeper (PyProof.Rows.envOfC "_law_parting" (defScope s__law_parting) s.heap.objs.size f cdv)).units + 65 < cLine := by have := hr.un; omega
  refine ⟨_, (pss_cons (ps_set (i := 3) sc__law_parting.nd rfl (by first | exact Or.inl rfl | exact Or.inr rfl) (pe_cal (K := K) rfl C__law_path (hr.mono (by decide)) (by rfl) (pa_cons (pv 0) (pa_cons (pv 1) pa_nil))))
    (pss_cons (ps_set (i := 4) sc__law_parting.nd rfl (by first | exact Or.inl rfl | exact Or.inr rfl) (pe_cal (K := K) rfl C__law_path (hr.mono (by decide)) (by rfl) (pa_cons (pv 0) (pa_cons (pv 2) pa_nil))))
    (pss_cons (ps_set (i := 5) sc__law_parting.nd rfl (by first | exact Or.inl rfl | exact Or.inr rfl) pe_int)
    (pss_cons (ps_while PassesOwn.never (PW.pt (pw_and (pt_cmpR op_lt (pv 5) (pe_callB (u_min2 rfl) (by rfl) T.b_min (by decide +kernel) (pa_cons (pe_callB (u_len (K := K) rfl) (by rfl) T.b_len (by decide +kernel) (pa_cons (pv 3) pa_nil)) (pa_cons (pe_callB (u_len (K := K) rfl) (by rfl) T.b_len (by decide +kernel) (pa_cons (pv 4) pa_nil)) pa_nil))) (nomark _)) (pw_and1 (pt_cmpR (u_eq (K := K) rfl hu64) (pe_ix (u_ix (K := K) rfl hu1) (pv 3) (pv 5) (fun _ _ => rfl)) (pe_ix (u_ix (K := K) rfl hu1) (pv 4) (pv 5) (fun _ _ => rfl)) (nomark _)))))
    (pss_one (ps_set (i := 5) sc__law_parting.nd rfl (by first | exact Or.inl rfl | exact Or.inr rfl) (pe_op (u_add (K := K) rfl) (pv 5) pe_int))))
    (pss_cons (ps_if (pt_cmpR (u_eq (K := K) rfl hu64) (pv 5) (pe_callB (u_min2 rfl) (by rfl) T.b_min (by decide +kernel) (pa_cons (pe_callB (u_len (K := K) rfl) (by rfl) T.b_len (by decide +kernel) (pa_cons (pv 3) pa_nil)) (pa_cons (pe_callB (u_len (K := K) rfl) (by rfl) T.b_len (by decide +kernel) (pa_cons (pv 4) pa_nil)) pa_nil))) (nomark _))
    (pss_one (ps_ret pe_non))
    pss_nil)
    (pss_one (ps_ret (pe_tup (pa_cons (pe_ix (u_ix (K := K) rfl hu1) (pv 3) (pe_op op_sub (pv 5) pe_int) (fun _ _ => rfl)) (pa_cons (pe_ix (u_ix (K := K) rfl hu1) (pv 3) (pv 5) (fun _ _ => rfl)) (pa_cons (pe_ix (u_ix (K := K) rfl hu1) (pv 4) (pv 5) (fun _ _ => rfl)) pa_nil))))))))))), fun ds g R hS => ?_⟩
  obtain ⟨ks, us, kvs, u, v, rfl, rfl, ⟨deep, r, hT, hdp, hul⟩, hA, hu, hv, z0⟩ := hS
  show ExS K _ [some _, some _, some _, none, none, none] _ _
  have hB : TreeB ks us := ⟨deep, r, hT, hdp, hul⟩
  have z : ∀ p q, Up ks u p → Up ks v q → R (.f (partD (partP p q))) [.dct kvs] := fun p q hp hq => by
    rw [hB.eq hp (.inl hu), hB.eq hq (.inl hv)]; exact z0
  obtain ⟨p, hp, hpl⟩ := hT.path hu
  obtain ⟨q, hq, hql⟩ := hT.path hv
  refine xs_set (e_call1 0 (a_cons (e_var rfl (a_cons (e_var rfl (a_nil ⟨_, _, rfl, trivial, rfl, ks, us, kvs, u, rfl, rfl, hB, hA, hu, fun p' hp' => ⟨_, _, rfl, ?_⟩⟩))))))
  cases hp.uniq hT hp'
  refine xs_set (e_call1 0 (a_cons (e_var rfl (a_cons (e_var rfl (a_nil ⟨_, _, rfl, trivial, rfl, ks, us, kvs, v, rfl, rfl, hB, hA, hv, fun q' hq' => ⟨_, _, rfl, ?_⟩⟩))))))
  cases hq.uniq hT hq'
  refine xs_set (e_int ?_)
  show ExS K _ [some (.own 0), some (.f (.str u)), some (.f (.str v)), some (.own 1), some (.own 2), some (.f (.int 0))] [.dct kvs, .lst (sPy p), .lst (sPy q)] _
  have hle := common_le p q
  refine xs_while (fun ρ' l' => ∃ n : Nat, ρ' = [some (.own 0), some (.f (.str u)), some (.f (.str v)), some (.own 1), some (.own 2), some (.f (.int n))] ∧ l' = [.dct kvs, .lst (sPy p), .lst (sPy q)] ∧ n ≤ common p q) (fun ρ' _ => p.length - slotN ρ' 5) ⟨0, rfl, rfl, Nat.zero_le _⟩ ?_
  rintro ρ' l' ⟨n, rfl, rfl, hn⟩
  have hmin : ∀ {R : D → List O → Prop} {ρ : List (Option D)}, ρ[3]? = some (some (.own 1)) → ρ[4]? = some (some (.own 2)) → R (.f (.int ((min p.length q.length : Nat) : Int))) [.dct kvs, .lst (sPy p), .lst (sPy q)] →
      EvS K (tCB rMin2 (tCons (tCB (rLenU K) (tCons (tVar 3) tNil)) (tCons (tCB (rLenU K) (tCons (tVar 4) tNil)) tNil))) ρ [.dct kvs, .lst (sPy p), .lst (sPy q)] R := by
    intro R ρ h1 h2 z
    refine e_cb (a_cons (e_cb (a_cons (e_var h1 (a_nil (c_lenQ (isq_own (n := 1) rfl) ?_))))))
    refine a_cons (e_cb (a_cons (e_var h2 (a_nil (c_lenQ (isq_own (n := 2) rfl) (a_nil (c_min2 ?_)))))))
    rw [sPy_len, sPy_len]
    have e : (if ((q.length : Nat) : Int) < ((p.length : Nat) : Int) then ((q.length : Nat) : Int) else ((p.length : Nat) : Int)) = ((min p.length q.length : Nat) : Int) := by split <;> omega
    rw [e]
    exact z
  have hat : ∀ {xs : List Str} {n : Nat}, n < xs.length → atI (sPy xs) (n : Int) = some (.str (xs.getD n nil0)) := fun {xs n} h => atI_nat (sPy_get_of (by rw [List.getD_eq_getElem?_getD, List.getElem?_eq_getElem h]; rfl))
  have same : ∀ {n : Nat}, n < p.length → n < q.length → (p.getD n nil0 = q.getD n nil0 ↔ p[n]? = q[n]?) := fun {n} h1 h2 => by
    rw [List.getD_eq_getElem?_getD, List.getD_eq_getElem?_getD, List.getElem?_eq_getElem h1, List.getElem?_eq_getElem h2]
    simp
  refine EvT.imp (R := fun b l1 => l1 = [.dct kvs, .lst (sPy p), .lst (sPy q)] ∧ if b = true then n < common p q else n = common p q) ?_ ?_
  · refine t_and (t_test (e_op (e_var rfl (hmin rfl rfl (o_I0b ⟨_, rfl, ?_⟩)))))
    refine d_both (fun c1 => ?_) (fun c1 => ⟨rfl, ?_⟩)
    · have h1 : n < p.length := by omega
      have h2 : n < q.length := by omega
      refine t_test (e_op (e_op (e_var rfl (e_var rfl (o_ixQ (isq_own (n := 1) rfl) (hat h1) ?_)))))
      refine e_op (e_var rfl (e_var rfl (o_ixQ (isq_own (n := 2) rfl) (hat h2) (o_eqS ⟨_, rfl, ?_⟩))))
      have hs := same h1 h2
      by_cases c2 : p.getD n nil0 = q.getD n nil0
      · rw [decide_eq_true c2]
        refine ⟨rfl, ?_⟩
        show n < common p q
        rcases Nat.lt_or_ge n (common p q) with h | h
        · exact h
        · have e : n = common p q := Nat.le_antisymm hn h
          have := common_end (xs := p) (ys := q) (by omega)
          rw [← e] at this
          exact absurd (hs.mp c2) this
      · rw [decide_eq_false c2]
        refine ⟨rfl, ?_⟩
        show n = common p q
        rcases Nat.lt_or_ge n (common p q) with h | h
        · exact absurd (hs.mpr (common_at h)) c2
        · exact Nat.le_antisymm hn h
    · show n = common p q
      omega
  rintro b l1 ⟨rfl, hb⟩
  cases b with
  | true =>
    have hb : n < common p q := hb
    refine x_set (e_op (e_var rfl (e_int (o_addI ?_))))
    refine ⟨⟨n + 1, rfl, rfl, hb⟩, ?_⟩
    show p.length - ((n : Int) + 1).toNat < p.length - ((n : Int)).toNat
    omega
  | false =>
    have hb : n = common p q := hb
    show ExS K _ _ _ _
    refine xs_gateC (¬ common p q = min p.length q.length) ?_ ?_
    · refine t_test (e_op (e_var rfl (hmin rfl rfl (o_eqI ⟨_, rfl, ?_⟩))))
      refine d_both (fun c1 => ?_) (fun c1 => ⟨rfl, fun e => c1 (by rw [hb, e])⟩)
      have e : partP p q = none := if_pos (by omega)
      refine x_ret (e_non (Res.dat (fun x hx => by cases hx with | head => trivial | tail _ h => cases h) ?_))
      have := z p q hp hq
      rw [e] at this
      exact this
    intro hne
    have hlt : n < min p.length q.length := by omega
    obtain ⟨p2, ep⟩ := hp.ne
    obtain ⟨q2, eq⟩ := hq.ne
    have hn1 : 1 ≤ n := by
      rw [hb, ep, eq]
      simp [common]
    have e : partP p q = some (p.getD (n - 1) nil0, p.getD n nil0, q.getD n nil0) := by
      unfold partP
      rw [if_neg hne, hb]
    have zz := z p q hp hq
    rw [e] at zz
    refine x_ret (e_tup (a_cons (e_op (e_var rfl (e_op (e_var rfl (e_int (o_I0i ?_))))))))
    rw [show (n : Int) - 1 = ((n - 1 : Nat) : Int) by omega]
    refine o_ixQ (isq_own (n := 1) rfl) (hat (by omega)) ?_
    refine a_cons (e_op (e_var rfl (e_var rfl (o_ixQ (isq_own (n := 1) rfl) (hat (by omega)) ?_))))
    refine a_cons (e_op (e_var rfl (e_var rfl (o_ixQ (isq_own (n := 2) rfl) (hat (by omega)) ?_))))
    refine a_nil ⟨_, rfl, Nat.le_of_ble_eq_true rfl, Res.dat (fun x hx => by cases hx with | head => trivial | tail _ h => cases h) zz⟩
theorem tieE_next {ks : Knots} {k : Str} {ts : Ties} {i : Nat} {e : Str × Str} (he : ts[i]? = some e) : tieE ks k (ts.take (i + 1)) = tieE ks k (ts.take i) ++ (tieE1 ks k e).toList := by
  rw [L3.take_next he]
  unfold tieE
  rw [List.filterMap_append]
  congr 1
def wantF (X : List Str) (w : Str) : PyData → Option PyData
  | .tuple [.str a, .str b] => if (decide (a = w) && decide (b ∈ X)) = true then some (.str b) else none
  | _ => none
theorem wantF_eq (ks : Knots) (k w : Str) (ws : Ties) : (pPy ws).filterMap (wantF (kids ks k) w) = sPy (wantUs ks k w ws) := by
  induction ws with
  | nil => rfl
  | cons q ws ih =>
    have e : wantF (kids ks k) w (.tuple [.str q.1, .str q.2]) = if (decide (q.1 = w) && decide (q.2 ∈ kids ks k)) = true then some (.str q.2) else none := rfl
    show (PyData.tuple [.str q.1, .str q.2] :: pPy ws).filterMap _ = _
    rw [List.filterMap_cons, ih, e]
    unfold wantUs
    rw [List.filter_cons]
    cases (decide (q.1 = w) && decide (q.2 ∈ kids ks k)) <;> rfl
def wordsL : List Str := ["first", "last"]
def wantP (w u o : Str) : Str × Str := if w = ("last" : Str) then (o, u) else (u, o)
theorem wantRow_next {w u o : Str} {X : List Str} {i : Nat} (h : X[i]? = some o) : wantRow w u (X.take (i + 1)) = wantRow w u (X.take i) ++ if o ≠ u then [wantP w u o] else [] := by
  rw [L3.take_next h]
  unfold wantRow
  rw [List.filter_append, List.map_append]
  congr 1
  rw [List.filter_cons]
  by_cases e : o = u
  · rw [decide_eq_false (by simpa using e), if_neg (show ¬ o ≠ u from fun q => q e)]
    rfl
  · rw [decide_eq_true (by simpa using e), if_pos e]
    rfl
def S__law_edges : Spec3 := fun ds g R => ∃ ks us ts wt ws k, ds = [.f (houseD ks ts wt ws), .f (.str k)] ∧ g = [] ∧ TreeB ks us ∧ Parted ks us ts ∧ ts.length ≤ 200 ∧ ws.length ≤ 60 ∧ k ∈ ks.map (·.1) ∧ (∀ u ∈ us, PyData.strOk u = true) ∧ R (.own 0) [.lst (pPy (edgesF ks ts ws k))]
abbrev s__law_edges : Stmt := top 51
theorem sc__law_edges : FnScope ["_law_house_here", "_law_knot", "_law_some", "_law_around_here", "_law_found", "_law_one", "_law_other", "_law_told", "_law_word", "_law_unit", "_law_pair", "_law_sort"] ["_law_house_here", "_law_knot"] (defScope s__law_edges) := ⟨rfl, rfl, rfl, by decide +kernel, rfl, by decide +kernel, by decide +kernel⟩
set_option maxHeartbeats 4000000 in
theorem ok__law_edges (T : Bi K mg) (Df : DefAt K mg "_law_edges" s__law_edges ["_law_house_here", "_law_knot"]) (C__law_parting : Cal P w K mg base 2 "_law_parting" ["_law_around_here", "_law_one", "_law_other"] S__law_parting) (C__law_around : Cal P w K mg base 1 "_law_around" ["_law_knots"] S__law_around) : Cal P w K mg base 3 "_law_edges" ["_law_house_here", "_law_knot"] S__law_edges := by
  refine ok4 Df sc__law_edges (fun ds g R h0 => by obtain ⟨_, _, _, _, _, _, h, _⟩ := h0; rw [h]; rfl) (fun cdv A outer s H E f hr => ?_)
  have hu1 := hu_of hr.r
  have hu64 := hr.units
  have hu65 : (A.deeper (PyProof.Rows.envOfC "_law_edges" (defScope s__law_edges) s.heap.objs.size f cdv)).units + 65 < cLine := by have := hr.un; omega
  refine ⟨_, (pss_cons (ps_set (i := 2) sc__law_edges.nd rfl (by first | exact Or.inl rfl | exact Or.inr rfl) (pe_ix (u_ix (K := K) rfl hu1) (pe_callTy (u_dictP (K := K) rfl rfl) (by rfl) T.b_dict (by decide +kernel) (pa_cons (pe_ix (u_ix (K := K) rfl hu1) (pv 0) pe_int (fun _ _ => rfl)) pa_nil)) (pv 1) (fun _ _ => rfl)))
    (pss_cons (ps_set (i := 3) sc__law_edges.nd rfl (by first | exact Or.inl rfl | exact Or.inr rfl) (pe_cal (K := K) rfl C__law_around (hr.mono (by decide)) (by rfl) (pa_cons (pe_ix (u_ix (K := K) rfl hu1) (pv 0) pe_int (fun _ _ => rfl)) pa_nil)))
    (pss_cons (ps_set (i := 4) sc__law_edges.nd rfl (by first | exact Or.inl rfl | exact Or.inr rfl) (pe_lst pa_nil))
    (pss_cons (ps_for PassesOwn.never rfl (u_seq (K := K) rfl (pe_ix (u_ix (K := K) rfl hu1) (pv 0) pe_int (fun _ _ => rfl))) (u_tup (K := K) (n := 2) rfl (by rfl) (pgs_cons (pg_name (i := 5) sc__law_edges.nd rfl (by first | exact Or.inl rfl | exact Or.inr rfl)) (pgs_cons (pg_name (i := 6) sc__law_edges.nd rfl (by first | exact Or.inl rfl | exact Or.inr rfl)) pgs_nil)))
    (pss_cons (ps_set (i := 7) sc__law_edges.nd rfl (by first | exact Or.inl rfl | exact Or.inr rfl) (pe_cal (K := K) rfl C__law_parting (hr.mono (by decide)) (by rfl) (pa_cons (pv 3) (pa_cons (pv 5) (pa_cons (pv 6) pa_nil)))))
    (pss_one (ps_if (PW.pt (pw_and (pt_cmpR (u_eq (K := K) rfl hu64) (pe_ix (u_ix (K := K) rfl hu1) (pv 7) pe_int (fun _ _ => rfl)) (pv 1) (nomark _)) (pw_and1 (pt_cmpR (u_notIn (K := K) rfl hu65) (pe_slice (u_sl (K := K) rfl) (pv 7) (po_some pe_int) po_none) (pv 4) (by rfl)))))
    (pss_one (ps_expr (u_bm (K := K) rfl PySem.F.plainAttrs_list PySem.F.slot_list_append PySem.F.type_list_append mt_append (pv 4) (pa_cons (pe_slice (u_sl (K := K) rfl) (pv 7) (po_some pe_int) po_none) pa_nil))))
    pss_nil))))
    (pss_cons (ps_for PassesOwn.never rfl (u_seq (K := K) rfl (pe_tup (pa_cons pe_str (pa_cons pe_str pa_nil)))) (pg_name (i := 8) sc__law_edges.nd rfl (by first | exact Or.inl rfl | exact Or.inr rfl))
    (pss_one (ps_for PassesOwn.never rfl (u_seq (K := K) rfl (pe_lc (own := [("_law_sort", 11), ("_law_unit", 9)]) (by rfl) sc__law_edges.nd (u_seq (K := K) rfl (pe_ix (u_ix (K := K) rfl hu1) (pv 0) pe_int (fun _ _ => rfl))) (blkOk_by (own := [("_law_sort", 11), ("_law_unit", 9)]) (N := ["_law_house_here", "_law_knot", "_law_some", "_law_around_here", "_law_found", "_law_one", "_law_other", "_law_told", "_law_word", "_law_unit", "_law_pair", "_law_sort"]) (sc := defScope s__law_edges) (by decide +kernel)) (fun _ _ _ _ _ => (u_tup (K := K) (n := 2) rfl (by rfl) (pgs_cons (pg_name (i := 11) sc__law_edges.nd rfl (by first | exact Or.inl rfl | exact Or.inr rfl)) (pgs_cons (pg_name (i := 9) sc__law_edges.nd rfl (by first | exact Or.inl rfl | exact Or.inr rfl)) pgs_nil)))) (fun _ _ _ _ _ => (pts_one (PW.pt (pw_and (pt_cmpR (u_eq (K := K) rfl hu64) (pv 11) (pv 8) (nomark _)) (pw_and1 (pt_cmpR (u_in (K := K) rfl hu65) (pv 9) (pv 2) (by rfl))))))) (fun _ _ _ _ _ => (pv 9)))) (pg_name (i := 9) sc__law_edges.nd rfl (by first | exact Or.inl rfl | exact Or.inr rfl))
    (pss_one (ps_for PassesOwn.never rfl (u_seq (K := K) rfl (pv 2)) (pg_name (i := 6) sc__law_edges.nd rfl (by first | exact Or.inl rfl | exact Or.inr rfl))
    (pss_cons (ps_set (i := 10) sc__law_edges.nd rfl (by first | exact Or.inl rfl | exact Or.inr rfl) (pe_ix (u_ix (K := K) rfl hu1) (pe_lst (pa_cons (pe_tup (pa_cons (pv 9) (pa_cons (pv 6) pa_nil))) (pa_cons (pe_tup (pa_cons (pv 6) (pa_cons (pv 9) pa_nil))) pa_nil))) (pe_callTy u_int (by rfl) T.b_int (by decide +kernel) (pa_cons (pe_cmpR (u_eq (K := K) rfl hu64) (pv 8) pe_str (nomark _)) pa_nil)) (fun _ _ => rfl)))
    (pss_one (ps_if (PW.pt (pw_and (pt_cmpR (u_ne (K := K) rfl hu64) (pv 6) (pv 9) (nomark _)) (pw_and1 (pt_cmpR (u_notIn (K := K) rfl hu65) (pv 10) (pv 4) (by rfl)))))
    (pss_one (ps_expr (u_bm (K := K) rfl PySem.F.plainAttrs_list PySem.F.slot_list_append PySem.F.type_list_append mt_append (pv 4) (pa_cons (pv 10) pa_nil))))
    pss_nil))))))))
    (pss_one (ps_ret (pv 4)))))))), fun ds g R hS => ?_⟩
  obtain ⟨ks, us, ts, wt, ws, k, rfl, rfl, hB, hP, htl, hwl, hk, hso, z⟩ := hS
  show ExS K _ [some _, some _, none, none, none, none, none, none, none, none, none, none] _ _
  have hkl := hB.kidsLen k
  have hko : ∀ u ∈ kids ks k, PyData.strOk u = true := fun u hu => hso u (hB.kid hu)
  have okE : ∀ zs : Ties, (∀ e ∈ zs, e.1 ∈ kids ks k ∧ e.2 ∈ kids ks k ∧ e.1 ≠ e.2) → PyData.canLayAll0 (pPy (onceL zs)) = true := fun zs h => lay_pPy fun e he =>
    have := h e (mem_onceL.mp he)
    ⟨hko _ this.1, hko _ this.2.1⟩
  have okT : ∀ i, ∀ e ∈ tieE ks k (ts.take i), e.1 ∈ kids ks k ∧ e.2 ∈ kids ks k ∧ e.1 ≠ e.2 := fun i => tieE_kids hB (fun e he => hP e (List.mem_of_mem_take he))
  refine xs_set (e_dictKnots hB.names (e_op (e_var rfl (e_int (o_ixQ isq_tup rfl ⟨rfl, e_var rfl ⟨k, rfl, hk, rfl, ?_⟩⟩)))))
  refine xs_set (e_call0 (a_cons (e_op (e_var rfl (e_int (o_ixQ isq_tup rfl (a_nil ⟨trivial, ks, us, rfl, rfl, hB, fun A hA => ?_⟩)))))))
  refine xs_set (e_lst (a_nil ⟨[], rfl, by decide, ?_⟩))
  show ExS K _ [some (.f (houseD ks ts wt ws)), some (.f (.str k)), some (.f (plD (sPy (kids ks k)))), some (.own 1), some (.own 2), none, none, none, none, none, none, none] [.dct (mergeD [] (ksPrs ks)), .dct A, .lst (pPy [])] _
  generalize mergeD [] (ksPrs ks) = D0
  refine xs_forQ (e_op (e_var rfl (e_int (o_ixQ isq_tup rfl ⟨pPy ts, isq_tup, fun i ρ' l' => ρ' = [some (.f (houseD ks ts wt ws)), some (.f (.str k)), some (.f (plD (sPy (kids ks k)))), some (.own 1), some (.own 2), none, none, none, none, none, none, none] ∧ l' = [.dct D0, .dct A, .lst (pPy (onceL (tieE ks k (ts.take i))))], ⟨rfl, rfl⟩, fun _ _ _ _ _ => isq_tup, ?_, ?_⟩))))
  · rintro i d ρ' l' hd ⟨rfl, rfl⟩
    obtain ⟨e, he, rfl⟩ := pPy_get hd
    have him := (List.getElem?_eq_some_iff.mp he).1
    obtain ⟨h1, h2, kk, x, y, hq⟩ := hP e (List.mem_of_getElem? he)
    have hT := tieE_next (ks := ks) (k := k) he
    have hT1 : tieE1 ks k e = if kk = k then some (x, y) else none := by unfold tieE1; rw [hq]
    have hln : (onceL (tieE ks k (ts.take i))).length ≤ 200 := by
      have a1 := onceL_len (tieE ks k (ts.take i))
      have a2 : (tieE ks k (ts.take i)).length ≤ (ts.take i).length := List.length_filterMap_le ..
      rw [List.length_take] at a2
      omega
    have hpt := hB.part h1 h2 hq
    refine g_tup rfl (g_cons (g_name (g_cons (g_name (g_nil (x_tidy 3 [5, 6, 7] (Nat.le_refl _) ?_))))))
    refine xs_set (e_call1 1 (a_cons (e_var rfl (a_cons (e_var rfl (a_cons (e_var rfl (a_nil ⟨_, _, rfl, trivial, rfl, ks, us, A, e.1, e.2, rfl, rfl, hB, hA, h1, h2, _, _, rfl, ?_⟩))))))))
    rw [hq]
    show ExS K _ [some (.f (houseD ks ts wt ws)), some (.f (.str k)), some (.f (plD (sPy (kids ks k)))), some (.own 1), some (.own 2), some (.f (.str e.1)), some (.f (.str e.2)), some (.f (.tuple [.str kk, .str x, .str y])), none, none, none, none] [.dct D0, .dct A, .lst (pPy (onceL (tieE ks k (ts.take i))))] _
    refine x_if (t_and (t_test (e_op (e_op (e_var rfl (e_int (o_ixQ isq_tup rfl (e_var rfl (o_eqS ⟨_, rfl, ?_⟩)))))))))
    refine d_both (fun c1 => ?_) (fun c1 => ?_)
    · subst c1
      rw [if_pos rfl] at hT1
      have hxy : x ∈ kids ks kk ∧ y ∈ kids ks kk := ⟨(mem_kids hB.names).mpr hpt.1, (mem_kids hB.names).mpr hpt.2.1⟩
      refine t_test (e_op (e_sl (e_var rfl (o_some (e_int ⟨_, rfl, o_none (s_tup (by show ¬ (1 = 0 ∧ 3 = 3); decide) (e_var rfl (o_inP asd_f (isq_own (n := 2) rfl) (shape_pair (hko x hxy.1) (hko y hxy.2)) (okE _ (okT i)) ⟨_, rfl, ?_⟩)))⟩)))))
      rw [if_pos rfl, show cutD [PyData.str kk, .str x, .str y] (some 1) none = [.str x, .str y] from rfl, any_pPy]
      refine nd_both (fun c2 => ?_) (fun c2 => ?_)
      · refine x_drop (e_bmL (e_var rfl ⟨⟨_, isl_own (n := 2) rfl⟩, ?_⟩))
        refine a_cons (e_sl (e_var rfl (o_some (e_int ⟨_, rfl, o_none (s_tup (by show ¬ (1 = 0 ∧ 3 = 3); decide) (a_nil (m_append (n := 2) rfl (by rw [pPy_len]; omega) ?_)))⟩))))
        walk_at "u"
        refine ⟨rfl, ?_⟩
        rw [hT, hT1, Option.toList_some, onceL_snoc, addOnce, if_neg c2, pPy_app]
        rfl
      · refine x_next ?_
        walk_at "u"
        refine ⟨rfl, ?_⟩
        rw [hT, hT1, Option.toList_some, onceL_snoc, addOnce, if_pos c2]
        rfl
    · rw [if_neg c1] at hT1
      refine iteF (x_next ?_)
      walk_at "u"
      refine ⟨rfl, ?_⟩
      rw [hT, hT1, Option.toList_none, List.append_nil]
      rfl
  rintro ρ' l' ⟨rfl, rfl⟩
  rw [pPy_len, List.take_length]
  have hw2 : ∀ w, (wantE ks k w ws).length ≤ 3600 := fun w => by
    have a1 := flatMap_len (f := fun u => wantRow w u (kids ks k)) (n := 60) (xs := wantUs ks k w ws) fun u _ => Nat.le_trans (wantRow_len ..) hkl
    have a2 := wantUs_len ks k w ws
    unfold wantE
    omega
  have hwl2 : ∀ n, ((wordsL.take n).flatMap fun w => wantE ks k w ws).length ≤ 7200 := fun n => by
    have a1 := flatMap_len (f := fun w => wantE ks k w ws) (n := 3600) (xs := wordsL.take n) fun w _ => hw2 w
    have a2 : (wordsL.take n).length ≤ 2 := by rw [List.length_take]; exact Nat.min_le_right _ _
    omega
  refine xs_forQ (e_tup (a_cons (e_str (a_cons (e_str (a_nil ⟨sPy wordsL, rfl, by decide, sPy wordsL, isq_tup, fun i ρ' l' => ρ' = [some (.f (houseD ks ts wt ws)), some (.f (.str k)), some (.f (plD (sPy (kids ks k)))), some (.own 1), some (.own 2), none, none, none, none, none, none, none] ∧ l' = [.dct D0, .dct A, .lst (pPy (onceL (tieE ks k ts ++ (wordsL.take i).flatMap fun w => wantE ks k w ws)))], ⟨rfl, by simp⟩, fun _ _ _ _ _ => isq_tup, ?_, ?_⟩))))))
  · rintro i d ρ' l' hd ⟨rfl, rfl⟩
    obtain ⟨w, hw, rfl⟩ := sPy_get hd
    have hww : w = "first" ∨ w = "last" := by
      match i, hw with
      | 0, h => exact .inl (Option.some.inj h).symm
      | 1, h => exact .inr (Option.some.inj h).symm
    have hti : ((wordsL.take (i + 1)).flatMap fun w => wantE ks k w ws) = ((wordsL.take i).flatMap fun w => wantE ks k w ws) ++ wantE ks k w ws := by rw [L3.take_next hw, List.flatMap_append]; simp
    dsimp only
    rw [hti, ← List.append_assoc]
    have hBl : (tieE ks k ts ++ (wordsL.take i).flatMap fun w => wantE ks k w ws).length ≤ 7400 := by
      rw [List.length_append]
      have a1 := hwl2 i
      have a2 : (tieE ks k ts).length ≤ ts.length := List.length_filterMap_le ..
      omega
    have hBk : ∀ e ∈ tieE ks k ts ++ (wordsL.take i).flatMap fun w => wantE ks k w ws, e.1 ∈ kids ks k ∧ e.2 ∈ kids ks k ∧ e.1 ≠ e.2 := fun e he => by
      rcases List.mem_append.mp he with h | h
      · exact tieE_kids hB hP e h
      · obtain ⟨w, _, h⟩ := List.mem_flatMap.mp h
        exact wantE_kids e h
    generalize (tieE ks k ts ++ (wordsL.take i).flatMap fun w => wantE ks k w ws) = Bz at hBl hBk ⊢
    refine g_name (x_tidy 3 [8] (Nat.le_refl _) ?_)
    refine x_forQ (e_lcF (wantF (kids ks k) w) (gg_tup (gg_cons (gg_name (by decide)) (gg_cons (gg_name (by decide)) gg_nil mono_name) mono_name)) (e_op (e_var rfl (e_int (o_ixQ isq_tup rfl ⟨pPy ws, isq_tup, by rw [pPy_len]; omega, fun d hd => ?_, ?_⟩)))))
    · obtain ⟨q, hq, rfl⟩ := List.mem_map.mp hd
      refine g_tup rfl (g_cons (g_name (g_cons (g_name (g_nil ?_)))))
      have e1 : wantF (kids ks k) w (.tuple [.str q.1, .str q.2]) = if (decide (q.1 = w) && decide (q.2 ∈ kids ks k)) = true then some (.str q.2) else none := rfl
      refine t_and (t_test (e_op (e_var rfl (e_var rfl (o_eqS ⟨_, rfl, ?_⟩)))))
      refine d_both (fun c1 => ?_) (fun c1 => ?_)
      · refine t_test (e_op (e_var rfl (e_var rfl (o_inPS ⟨_, rfl, ?_⟩))))
        refine d_both (fun c2 => ?_) (fun c2 => ?_)
        · exact e_var rfl ⟨_, rfl, by rw [e1, decide_eq_true c1, decide_eq_true c2]; rfl, rfl⟩
        · exact ⟨by rw [e1, decide_eq_true c1, decide_eq_false c2]; rfl, rfl⟩
      · exact iteF ⟨by rw [e1, decide_eq_false c1]; rfl, rfl⟩
    rw [wantF_eq]
    have hul := wantUs_len ks k w ws
    refine ⟨sPy (wantUs ks k w ws), isq_own (n := 3) rfl, fun j ρ' l' => ρ' = [some (.f (houseD ks ts wt ws)), some (.f (.str k)), some (.f (plD (sPy (kids ks k)))), some (.own 1), some (.own 2), none, none, none, some (.f (.str w)), none, none, none] ∧ l' = [.dct D0, .dct A, .lst (pPy (onceL (Bz ++ ((wantUs ks k w ws).take j).flatMap fun u => wantRow w u (kids ks k)))), .lst (sPy (wantUs ks k w ws))], ⟨rfl, by simp⟩, fun i ρ' l' _ h => by rw [h.2]; exact isq_own (n := 3) rfl, ?_, ?_⟩
    · rintro j d ρ' l' hd ⟨rfl, rfl⟩
      obtain ⟨u, hu, rfl⟩ := sPy_get hd
      have hjl := (List.getElem?_eq_some_iff.mp hu).1
      have huk : u ∈ kids ks k := by
        have := List.mem_of_getElem? hu
        obtain ⟨q, hq, rfl⟩ := List.mem_map.mp this
        have := (List.mem_filter.mp hq).2
        simp at this
        exact this.2
      have htj : (((wantUs ks k w ws).take (j + 1)).flatMap fun u => wantRow w u (kids ks k)) = (((wantUs ks k w ws).take j).flatMap fun u => wantRow w u (kids ks k)) ++ wantRow w u (kids ks k) := by rw [L3.take_next hu, List.flatMap_append]; simp
      dsimp only
      rw [htj, ← List.append_assoc]
      have hCl : (Bz ++ ((wantUs ks k w ws).take j).flatMap fun u => wantRow w u (kids ks k)).length ≤ 11000 := by
        rw [List.length_append]
        have a1 := flatMap_len (f := fun u => wantRow w u (kids ks k)) (n := 60) (xs := (wantUs ks k w ws).take j) fun u _ => Nat.le_trans (wantRow_len ..) hkl
        have a2 : ((wantUs ks k w ws).take j).length ≤ 60 := by rw [List.length_take]; omega
        omega
      have hrow : ∀ v ∈ kids ks k, ∀ X : List Str, (∀ o ∈ X, o ∈ kids ks k) → ∀ e ∈ wantRow w v X, e.1 ∈ kids ks k ∧ e.2 ∈ kids ks k ∧ e.1 ≠ e.2 := fun v hv X hX e he => by
        obtain ⟨o, ho, rfl⟩ := List.mem_map.mp he
        obtain ⟨ho1, ho2⟩ := List.mem_filter.mp ho
        have ho2 : o ≠ v := of_decide_eq_true ho2
        split
        · exact ⟨hX o ho1, hv, ho2⟩
        · exact ⟨hv, hX o ho1, fun q => ho2 q.symm⟩
      have hCk : ∀ e ∈ Bz ++ ((wantUs ks k w ws).take j).flatMap fun u => wantRow w u (kids ks k), e.1 ∈ kids ks k ∧ e.2 ∈ kids ks k ∧ e.1 ≠ e.2 := fun e he => by
        rcases List.mem_append.mp he with h | h
        · exact hBk e h
        · obtain ⟨v, hv, h⟩ := List.mem_flatMap.mp h
          obtain ⟨q, hq, rfl⟩ := List.mem_map.mp (List.mem_of_mem_take hv)
          have := (List.mem_filter.mp hq).2
          simp at this
          exact hrow q.2 this.2 _ (fun _ h => h) e h
      generalize (Bz ++ ((wantUs ks k w ws).take j).flatMap fun u => wantRow w u (kids ks k)) = Cz at hCl hCk ⊢
      refine g_name (x_tidy 4 [9] (Nat.le_refl _) ?_)
      refine x_forP (e_var rfl ⟨sPy (kids ks k), rfl, fun n ρ' l' => ρ' = [some (.f (houseD ks ts wt ws)), some (.f (.str k)), some (.f (plD (sPy (kids ks k)))), some (.own 1), some (.own 2), none, none, none, some (.f (.str w)), some (.f (.str u)), none, none] ∧ l' = [.dct D0, .dct A, .lst (pPy (onceL (Cz ++ wantRow w u ((kids ks k).take n)))), .lst (sPy (wantUs ks k w ws))], ⟨rfl, by simp [wantRow]⟩, ?_, ?_⟩)
      · rintro n d ρ' l' hd ⟨rfl, rfl⟩
        obtain ⟨o, ho, rfl⟩ := sPy_get hd
        have hom := List.mem_of_getElem? ho
        have hN := wantRow_next (w := w) (u := u) ho
        have hDl : (onceL (Cz ++ wantRow w u ((kids ks k).take n))).length ≤ 20000 := by
          have a1 := onceL_len (Cz ++ wantRow w u ((kids ks k).take n))
          have a2 := wantRow_len w u ((kids ks k).take n)
          rw [List.length_take] at a2
          rw [List.length_append] at a1
          omega
        have hDk : ∀ e ∈ Cz ++ wantRow w u ((kids ks k).take n), e.1 ∈ kids ks k ∧ e.2 ∈ kids ks k ∧ e.1 ≠ e.2 := fun e he => by
          rcases List.mem_append.mp he with h | h
          · exact hCk e h
          · exact hrow u huk _ (fun o h => List.mem_of_mem_take h) e h
        have hP2 : PyData.strOk (wantP w u o).1 = true ∧ PyData.strOk (wantP w u o).2 = true := by
          unfold wantP
          split
          · exact ⟨hko _ hom, hko _ huk⟩
          · exact ⟨hko _ huk, hko _ hom⟩
        refine g_name (x_tidy 4 [6, 10] (Nat.le_refl _) ?_)
        refine xs_set (e_op (e_lst (a_cons (e_tup (a_cons (e_var rfl (a_cons (e_var rfl (a_nil ⟨[.str u, .str o], rfl, Nat.le_of_ble_eq_true rfl, ?_⟩)))))))))
        refine a_cons (e_tup (a_cons (e_var rfl (a_cons (e_var rfl (a_nil ⟨[.str o, .str u], rfl, Nat.le_of_ble_eq_true rfl, a_nil ⟨[.tuple [.str u, .str o], .tuple [.str o, .str u]], rfl, Nat.le_of_ble_eq_true rfl, ?_⟩⟩))))))
        refine e_cb (a_cons (e_op (e_var rfl (e_str (o_eqS (a_nil (c_intB (o_ixQ (isq_own (n := 4) rfl) (d := .tuple [.str (wantP w u o).1, .str (wantP w u o).2]) (by rcases hww with rfl | rfl <;> rfl) ?_))))))))
        refine x_if (t_and (t_test (e_op (e_var rfl (e_var rfl (o_neS ⟨_, rfl, ?_⟩))))))
        refine nd_both (fun c1 => ?_) (fun c1 => ?_)
        · rw [if_pos c1] at hN
          refine t_test (e_op (e_var rfl (e_var rfl (o_inP asd_f (isq_own (n := 2) rfl) (shape_pair hP2.1 hP2.2) (okE _ hDk) ⟨_, rfl, ?_⟩))))
          rw [if_pos rfl, any_pPy]
          refine nd_both (fun c2 => ?_) (fun c2 => ?_)
          · refine x_drop (e_bmL (e_var rfl ⟨⟨_, isl_own (n := 2) rfl⟩, a_cons (e_var rfl (a_nil (m_append (n := 2) rfl (by rw [pPy_len]; omega) ?_)))⟩))
            walk_at "u"
            refine ⟨rfl, ?_⟩
            rw [hN, ← List.append_assoc, onceL_snoc, addOnce, if_neg c2, pPy_app]
            rfl
          · refine x_next ?_
            walk_at "u"
            refine ⟨rfl, ?_⟩
            rw [hN, ← List.append_assoc, onceL_snoc, addOnce, if_pos c2]
            rfl
        · rw [if_neg fun q => q c1, List.append_nil] at hN
          refine iteF (x_next ?_)
          walk_at "u"
          refine ⟨rfl, ?_⟩
          rw [hN]
          rfl
      · rintro ρ' l' ⟨rfl, rfl⟩
        rw [sPy_len, List.take_length]
        walk_at "u"
        exact ⟨rfl, rfl⟩
    · rintro ρ' l' ⟨rfl, rfl⟩
      rw [sPy_len, List.take_length]
      walk_at "u"
      exact ⟨rfl, rfl⟩
  rintro ρ' l' ⟨rfl, rfl⟩
  have e1 : (tieE ks k ts ++ (wordsL.take (sPy wordsL).length).flatMap fun w => wantE ks k w ws) = edges0 ks ts ws k := by
    unfold edges0
    show _ ++ (wantE ks k "first" ws ++ (wantE ks k "last" ws ++ [])) = _
    rw [List.append_nil, List.append_assoc]
  rw [e1]
  exact x_ret (e_var rfl (Res.own (n := 2) rfl trivial nofun (Nat.zero_le _) (fun _ h => by cases h) z))
def S__law_reached : Spec3 := fun ds g R => ∃ es one, ds = [.f (.list (pPy es)), .f (.str one)] ∧ g = [] ∧ es.length ≤ 20000 ∧ ∀ xs, Reached es one xs → R (.own 0) [.lst (sPy xs)]
abbrev s__law_reached : Stmt := top 52
theorem sc__law_reached : FnScope ["_law_edges_here", "_law_one", "_law_found", "_law_at", "_law_here", "_law_there"] ["_law_edges_here", "_law_one"] (defScope s__law_reached) := ⟨rfl, rfl, rfl, by decide +kernel, rfl, by decide +kernel, by decide +kernel⟩
set_option maxHeartbeats 4000000 in
theorem ok__law_reached (T : Bi K mg) (Df : DefAt K mg "_law_reached" s__law_reached ["_law_edges_here", "_law_one"]) : Cal P w K mg base 1 "_law_reached" ["_law_edges_here", "_law_one"] S__law_reached := by
  refine ok4 Df sc__law_reached (fun ds g R h0 => by obtain ⟨_, _, h, _⟩ := h0; rw [h]; rfl) (fun cdv A outer s H E f hr => ?_)
  have hu1 := hu_of hr.r
  have hu64 := hr.units
  have hu65 : (A.deeper (PyProof.Rows.envOfC "_law_reached" (defScope s__law_reached) s.heap.objs.size f cdv)).units + 65 < cLine := by have := hr.un; omega
  refine ⟨_, (pss_cons (ps_set (i := 2) sc__law_reached.nd rfl (by first | exact Or.inl rfl | exact Or.inr rfl) (pe_lst (pa_cons (pv 1) pa_nil)))
    (pss_cons (ps_set (i := 3) sc__law_reached.nd rfl (by first | exact Or.inl rfl | exact Or.inr rfl) pe_int)
    (pss_cons (ps_while PassesOwn.never (pt_cmpR op_lt (pv 3) (pe_callB (u_len (K := K) rfl) (by rfl) T.b_len (by decide +kernel) (pa_cons (pv 2) pa_nil)) (nomark _))
    (pss_cons (ps_for PassesOwn.never rfl (u_seq (K := K) rfl (pv 0)) (u_tup (K := K) (n := 2) rfl (by rfl) (pgs_cons (pg_name (i := 4) sc__law_reached.nd rfl (by first | exact Or.inl rfl | exact Or.inr rfl)) (pgs_cons (pg_name (i := 5) sc__law_reached.nd rfl (by first | exact Or.inl rfl | exact Or.inr rfl)) pgs_nil)))
    (pss_one (ps_if (PW.pt (pw_and (pt_cmpR (u_eq (K := K) rfl hu64) (pv 4) (pe_ix (u_ix (K := K) rfl hu1) (pv 2) (pv 3) (fun _ _ => rfl)) (nomark _)) (pw_and1 (pt_cmpR (u_notIn (K := K) rfl hu65) (pv 5) (pv 2) (by rfl)))))
    (pss_one (ps_expr (u_bm (K := K) rfl PySem.F.plainAttrs_list PySem.F.slot_list_append PySem.F.type_list_append mt_append (pv 2) (pa_cons (pv 5) pa_nil))))
    pss_nil)))
    (pss_one (ps_set (i := 3) sc__law_reached.nd rfl (by first | exact Or.inl rfl | exact Or.inr rfl) (pe_op (u_add (K := K) rfl) (pv 3) pe_int)))))
    (pss_one (ps_ret (pv 2)))))), fun ds g R hS => ?_⟩
  obtain ⟨es, one, rfl, rfl, hel, z⟩ := hS
  show ExS K _ [some _, some _, none, none, none, none] _ _
  refine xs_set (e_lst (a_cons (e_var rfl (a_nil ⟨[.str one], rfl, Nat.le_of_ble_eq_true rfl, ?_⟩))))
  refine xs_set (e_int ?_)
  refine xs_while (fun ρ' l' => ∃ (n : Nat) (xs : List Str) (a b : Option D), ρ' = [some (.f (.list (pPy es))), some (.f (.str one)), some (.own 0), some (.f (.int n)), a, b] ∧ l' = [.lst (sPy xs)] ∧ Reaching es one n 0 xs) (fun ρ' _ => es.length + 1 - slotI ρ' 3) ⟨0, [one], none, none, rfl, rfl, .start es one⟩ ?_
  rintro ρ' l' ⟨n, xs, a, b, rfl, rfl, hR⟩
  have hxl := hR.len
  refine t_test (e_op (e_var rfl (e_cb (a_cons (e_var rfl (a_nil (c_lenQ (isq_own (n := 0) rfl) (o_I0b ⟨_, rfl, ?_⟩))))))))
  rw [sPy_len]
  refine d_both (fun c1 => ?_) (fun c1 => ?_)
  · have hnl : n < xs.length := by omega
    refine xs_forQ (e_var rfl ⟨pPy es, isq_list, fun j ρ' l' => ∃ (ys : List Str) (a b : Option D), ρ' = [some (.f (.list (pPy es))), some (.f (.str one)), some (.own 0), some (.f (.int n)), a, b] ∧ l' = [.lst (sPy ys)] ∧ Reaching es one n j ys ∧ n < ys.length, ⟨xs, a, b, rfl, rfl, hR, hnl⟩, fun _ _ _ _ _ => isq_list, ?_, ?_⟩)
    · rintro j d ρ' l' hd ⟨ys, a, b, rfl, rfl, hRj, hny⟩
      obtain ⟨e, he, rfl⟩ := pPy_get hd
      have hyl := hRj.len
      have hyn : ys[n]? = some ys[n] := List.getElem?_eq_getElem hny
      generalize ys[n] = x at hyn
      refine g_tup rfl (g_cons (g_name (g_cons (g_name (g_nil ?_)))))
      refine x_if (t_and (t_test (e_op (e_var rfl (e_op (e_var rfl (e_var rfl (o_ixQ (isq_own (n := 0) rfl) (atI_nat (sPy_get_of hyn)) (o_eqS ⟨_, rfl, ?_⟩)))))))))
      refine d_both (fun c2 => ?_) (fun c2 => ?_)
      · refine t_test (e_op (e_var rfl (e_var rfl (o_inQS (isq_own (n := 0) rfl) ⟨_, rfl, ?_⟩))))
        rw [if_pos rfl]
        refine nd_both (fun c3 => ?_) (fun c3 => ?_)
        · refine x_drop (e_bmL (e_var rfl ⟨⟨_, isl_own (n := 0) rfl⟩, a_cons (e_var rfl (a_nil (m_append (n := 0) rfl (by rw [sPy_len]; omega) ?_)))⟩))
          exact ⟨ys ++ [e.2], _, _, rfl, by rw [sPy_app]; rfl, hRj.add he hyn c2 c3, by rw [List.length_append]; omega⟩
        · exact x_next ⟨ys, _, _, rfl, rfl, hRj.same he fun _ _ _ => c3, hny⟩
      · refine iteF (x_next ⟨ys, _, _, rfl, rfl, hRj.same he fun y hy e1 => ?_, hny⟩)
        rw [hyn] at hy
        cases hy
        exact absurd e1 c2
    · rintro ρ' l' ⟨ys, a, b, rfl, rfl, hRj, hny⟩
      rw [pPy_len] at hRj
      have hyl := hRj.len
      refine x_set (e_op (e_var rfl (e_int (o_addI ⟨⟨n + 1, ys, _, _, rfl, rfl, hRj.next⟩, ?_⟩))))
      show es.length + 1 - ((n : Int) + 1).toNat < es.length + 1 - ((n : Int)).toNat
      omega
  · refine x_ret (e_var rfl (Res.own (n := 0) rfl trivial nofun (Nat.zero_le _) (fun _ h => by cases h) (z xs (hR.done (by omega)))))
def S__law_wants : Spec3 := fun ds g R => ∃ o ks us, ds = [.own 0, .f (plD (ksPy ks))] ∧ g = [o] ∧ IsPen o ∧ TreeB ks us ∧ ∀ o' ws, IsPen o' → WantsOk ks ws → R (.own 1) [o', .lst (pPy ws)]
/-- the wants so far: of the first i knots, and of the first child of the next -/
structure WantsTo (ks : Knots) (i : Nat) (f : Bool) (ws : Ties) : Prop where
  ok : WantsOk ks ws
  at_ : ∀ q ∈ ws, (∃ k ∈ ks.take i, q.2 ∈ k.2) ∨ (f = true ∧ ∃ k, ks[i]? = some k ∧ k.2.head? = some q.2)
  len : ws.length ≤ 2 * i + (if f then 1 else 0)
theorem WantsTo.add {ks : Knots} {us : List Str} {i : Nat} {f : Bool} {ws : Ties} (hB : TreeB ks us) (h : WantsTo ks i f ws) {k : Str × List Str} (hk : ks[i]? = some k) {q : Str × Str} (j : Nat) (hq : WantOk ks q) (hm : q.2 ∈ k.2)
    (hn : f = true → ∀ u, k.2.head? = some u → u ≠ q.2) : WantsOk ks (insAt ws j q) := by
  obtain ⟨deep, r, T, _⟩ := hB
  refine ⟨fun p hp => ?_, ?_⟩
  · rcases mem_insAt.mp hp with hp | rfl
    · exact h.ok.ok p hp
    · exact hq
  · rw [insAt_map]
    refine insAt_nodup _ h.ok.nd fun hmem => ?_
    obtain ⟨p, hp, ep⟩ := List.mem_map.mp hmem
    rcases h.at_ p hp with ⟨k', hk', hu⟩ | ⟨hf, k', hk', hu⟩
    · obtain ⟨n, hn'⟩ := List.getElem?_of_mem hk'
      rw [List.getElem?_take] at hn'
      split at hn'
      · rename_i hlt
        have e1 : k'.1 = k.1 := T.one q.2 k'.1 k.1 ⟨k'.2, List.mem_of_getElem? hn', by rw [← ep]; exact hu⟩ ⟨k.2, List.mem_of_getElem? hk, hm⟩
        have hnd := T.names
        have a1 : (ks.map (·.1))[n]? = some k.1 := by rw [List.getElem?_map, hn']; simp [e1]
        have a2 : (ks.map (·.1))[i]? = some k.1 := by rw [List.getElem?_map, hk]; rfl
        have := (List.getElem?_inj (List.getElem?_eq_some_iff.mp a1).1 hnd).mp (a1.trans a2.symm)
        omega
      · cases hn'
    · rw [hk] at hk'
      cases hk'
      exact hn hf _ hu ep
abbrev s__law_wants : Stmt := top 53
theorem sc__law_wants : FnScope ["_law_pen_here", "_law_knots", "_law_found", "_law_knot", "_law_some"] ["_law_pen_here", "_law_knots"] (defScope s__law_wants) := ⟨rfl, rfl, rfl, by decide +kernel, rfl, by decide +kernel, by decide +kernel⟩
set_option maxHeartbeats 4000000 in
theorem ok__law_wants (T : Bi K mg) (Df : DefAt K mg "_law_wants" s__law_wants ["_law_pen_here", "_law_knots"]) (C__law_draw : Cal P w K mg base 1 "_law_draw" ["_law_pen_here", "_law_most"] S__law_draw) : Cal P w K mg base 2 "_law_wants" ["_law_pen_here", "_law_knots"] S__law_wants := by
  refine ok4 Df sc__law_wants (fun ds g R h0 => by obtain ⟨_, _, _, h, _⟩ := h0; rw [h]; rfl) (fun cdv A outer s H E f hr => ?_)
  have hu1 := hu_of hr.r
  have hu64 := hr.units
  have hu65 : (A.deeper (PyProof.Rows.envOfC "_law_wants" (defScope s__law_wants) s.heap.objs.size f cdv)).units + 65 < cLine := by have := hr.un; omega
  refine ⟨_, (pss_cons (ps_set (i := 2) sc__law_wants.nd rfl (by first | exact Or.inl rfl | exact Or.inr rfl) (pe_lst pa_nil))
    (pss_cons (ps_for PassesOwn.never rfl (u_seq (K := K) rfl (pv 1)) (u_tup (K := K) (n := 2) rfl (by rfl) (pgs_cons (pg_name (i := 3) sc__law_wants.nd rfl (by first | exact Or.inl rfl | exact Or.inr rfl)) (pgs_cons (pg_name (i := 4) sc__law_wants.nd rfl (by first | exact Or.inl rfl | exact Or.inr rfl)) pgs_nil)))
    (pss_cons (ps_if (PW.pt (pw_and (pt_cmpR op_gt (pe_callB (u_len (K := K) rfl) (by rfl) T.b_len (by decide +kernel) (pa_cons (pv 4) pa_nil)) pe_int (nomark _)) (pw_and1 (pt_cmpR (u_eq (K := K) rfl hu64) (pe_cal (K := K) rfl C__law_draw (hr.mono (by decide)) (by rfl) (pa_cons (pv 0) (pa_cons pe_int pa_nil))) pe_int (nomark _)))))
    (pss_one (ps_expr (u_bm (K := K) rfl PySem.F.plainAttrs_list PySem.F.slot_list_insert PySem.F.type_list_insert u_insert (pv 2) (pa_cons (pe_cal (K := K) rfl C__law_draw (hr.mono (by decide)) (by rfl) (pa_cons (pv 0) (pa_cons (pe_op (u_add (K := K) rfl) (pe_callB (u_len (K := K) rfl) (by rfl) T.b_len (by decide +kernel) (pa_cons (pv 2) pa_nil)) pe_int) pa_nil))) (pa_cons (pe_tup (pa_cons pe_str (pa_cons (pe_ix (u_ix (K := K) rfl hu1) (pv 4) pe_int (fun _ _ => rfl)) pa_nil))) pa_nil)))))
    pss_nil)
    (pss_one (ps_if (PW.pt (pw_and (pt_cmpR op_gt (pe_callB (u_len (K := K) rfl) (by rfl) T.b_len (by decide +kernel) (pa_cons (pv 4) pa_nil)) pe_int (nomark _)) (pw_and1 (pt_cmpR (u_eq (K := K) rfl hu64) (pe_cal (K := K) rfl C__law_draw (hr.mono (by decide)) (by rfl) (pa_cons (pv 0) (pa_cons pe_int pa_nil))) pe_int (nomark _)))))
    (pss_one (ps_expr (u_bm (K := K) rfl PySem.F.plainAttrs_list PySem.F.slot_list_insert PySem.F.type_list_insert u_insert (pv 2) (pa_cons (pe_cal (K := K) rfl C__law_draw (hr.mono (by decide)) (by rfl) (pa_cons (pv 0) (pa_cons (pe_op (u_add (K := K) rfl) (pe_callB (u_len (K := K) rfl) (by rfl) T.b_len (by decide +kernel) (pa_cons (pv 2) pa_nil)) pe_int) pa_nil))) (pa_cons (pe_tup (pa_cons pe_str (pa_cons (pe_ix (u_ix (K := K) rfl hu1) (pv 4) (pe_un un_neg pe_int) (fun _ _ => rfl)) pa_nil))) pa_nil)))))
    pss_nil))))
    (pss_one (ps_ret (pv 2))))), fun ds g R hS => ?_⟩
  obtain ⟨o, ks, us, rfl, rfl, hp, hB, z⟩ := hS
  show ExS K _ [some _, some _, none, none, none] _ _
  have hkl := hB.len
  refine xs_set (e_lst (a_nil ⟨[], rfl, by decide, ?_⟩))
  refine xs_forP (e_var rfl ⟨ksPy ks, rfl, fun i ρ' l' => ∃ (o' : O) (ws : Ties) (a b : Option D), ρ' = [some (.own 0), some (.f (plD (ksPy ks))), some (.own 1), a, b] ∧ l' = [o', .lst (pPy ws)] ∧ IsPen o' ∧ WantsTo ks i false ws, ⟨o, [], none, none, rfl, rfl, hp, ⟨⟨nofun, List.nodup_nil⟩, nofun, Nat.zero_le _⟩⟩, ?_, ?_⟩)
  · rintro i d ρ' l' hd ⟨o', ws, a, b, rfl, rfl, hp', hW⟩
    obtain ⟨k, hk, rfl⟩ := ksPy_get hd
    have hkm := List.mem_of_getElem? hk
    have hil := (List.getElem?_eq_some_iff.mp hk).1
    have hwl := hW.len
    rw [if_neg (by decide)] at hwl
    have hknd : k.2.Nodup := by obtain ⟨_, _, T, _⟩ := hB; exact T.nd k hkm
    have hk60 : k.2.length ≤ 60 := by
      have := hB.kidsLen k.1
      rw [kids_of hB.names (k := k.1) (xs := k.2) hkm] at this
      exact this
    refine g_tup rfl (g_cons (g_name (g_cons (g_name (g_nil ?_)))))
    refine xs_mid (fun ρ' l' => ∃ (o' : O) (ws : Ties), ρ' = [some (.own 0), some (.f (plD (ksPy ks))), some (.own 1), some (.f (.str k.1)), some (.f (plD (sPy k.2)))] ∧ l' = [o', .lst (pPy ws)] ∧ IsPen o' ∧ WantsTo ks i true ws) ?_ ?_
    · have hW' : WantsTo ks i true ws := ⟨hW.ok, fun q hq => (hW.at_ q hq).elim .inl fun h => (by cases h.1), (by rw [if_pos rfl]; omega)⟩
      refine x_if (t_and (t_test (e_op (e_cb (a_cons (e_var rfl (a_nil (c_lenP (e_int (o_I0b ⟨_, rfl, ?_⟩))))))))))
      rw [sPy_len]
      refine d_both (fun c1 => ?_) (fun c1 => ?_)
      · have hne : 0 < k.2.length := by omega
        refine t_test (e_op (e_draw 0 (a_cons (e_var rfl (a_cons (e_int (a_nil ⟨_, o', rfl, rfl, hp', by decide, by decide, fun r o2 r0 r1 p2 => e_int (o_eqI ⟨_, rfl, ?_⟩)⟩)))))))
        refine d_both (fun c2 => ?_) (fun c2 => ?_)
        · refine x_drop (e_bmL (e_var rfl ⟨⟨_, isl_own (n := 1) rfl⟩, a_cons (e_draw 0 (a_cons (e_var rfl (a_cons (e_op (e_cb (a_cons (e_var rfl (a_nil (c_lenQ (isq_own (n := 1) rfl) (e_int (o_addI ?_))))))))))))⟩))
          rw [pPy_len]
          refine a_nil ⟨_, o2, rfl, rfl, p2, by omega, by omega, fun r3 o3 r30 r31 p3 => ?_⟩
          have hh : k.2[0]? = some k.2[0] := List.getElem?_eq_getElem hne
          have hq : WantOk ks (("first" : Str), k.2[0]) := .inl ⟨rfl, k, hkm, by rw [List.head?_eq_getElem?, hh]⟩
          refine a_cons (e_tup (a_cons (e_str (a_cons (e_op (e_var rfl (e_int (o_ixP (atI_nat (sPy_get_of hh)) (a_nil ⟨_, rfl, Nat.le_of_ble_eq_true rfl, ?_⟩)))))))))
          refine a_nil (m_insert (n := 1) rfl (by rw [pPy_len]; omega) (by omega) (by omega) ?_)
          refine ⟨o3, insAt ws r3.toNat ("first", k.2[0]), rfl, ?_, p3, ⟨hW.add hB hk _ hq (List.getElem_mem hne) nofun, fun q hq => ?_, by rw [insAt_len, if_pos rfl]; omega⟩⟩
          · rw [← pPy_insAt]; rfl
          · rcases mem_insAt.mp hq with h | rfl
            · exact hW'.at_ q h
            · exact .inr ⟨rfl, k, hk, by rw [List.head?_eq_getElem?, hh]⟩
        · exact x_next ⟨o2, ws, rfl, rfl, p2, hW'⟩
      · exact iteF (x_next ⟨o', ws, rfl, rfl, hp', hW'⟩)
    rintro ρ' l' ⟨o', ws, rfl, rfl, hp', hW'⟩
    have hwl := hW'.len
    rw [if_pos rfl] at hwl
    have tk : ks.take (i + 1) = ks.take i ++ [k] := L3.take_next hk
    have hat : ∀ q ∈ ws, ∃ k' ∈ ks.take (i + 1), q.2 ∈ k'.2 := fun q hq => by
      rcases hW'.at_ q hq with ⟨k', h1, h2⟩ | ⟨_, k', h1, h2⟩
      · exact ⟨k', by rw [tk]; exact List.mem_append_left _ h1, h2⟩
      · rw [hk] at h1
        cases h1
        exact ⟨k, by rw [tk]; simp, List.mem_of_mem_head? (by rw [h2]; rfl)⟩
    have hNx : WantsTo ks (i + 1) false ws := ⟨hW'.ok, fun q hq => .inl (hat q hq), by rw [if_neg (by decide)]; omega⟩
    refine x_if (t_and (t_test (e_op (e_cb (a_cons (e_var rfl (a_nil (c_lenP (e_int (o_I0b ⟨_, rfl, ?_⟩))))))))))
    rw [sPy_len]
    refine d_both (fun c1 => ?_) (fun c1 => ?_)
    · have hne : k.2.length - 1 < k.2.length := by omega
      refine t_test (e_op (e_draw 0 (a_cons (e_var rfl (a_cons (e_int (a_nil ⟨_, o', rfl, rfl, hp', by decide, by decide, fun r o2 r0 r1 p2 => e_int (o_eqI ⟨_, rfl, ?_⟩)⟩)))))))
      refine d_both (fun c2 => ?_) (fun c2 => ?_)
      · refine x_drop (e_bmL (e_var rfl ⟨⟨_, isl_own (n := 1) rfl⟩, a_cons (e_draw 0 (a_cons (e_var rfl (a_cons (e_op (e_cb (a_cons (e_var rfl (a_nil (c_lenQ (isq_own (n := 1) rfl) (e_int (o_addI ?_))))))))))))⟩))
        rw [pPy_len]
        refine a_nil ⟨_, o2, rfl, rfl, p2, by omega, by omega, fun r3 o3 r30 r31 p3 => ?_⟩
        have hh : k.2[k.2.length - 1]? = some k.2[k.2.length - 1] := List.getElem?_eq_getElem hne
        have hla : k.2.getLast? = some k.2[k.2.length - 1] := by rw [List.getLast?_eq_getElem?, hh]
        have hq : WantOk ks (("last" : Str), k.2[k.2.length - 1]) := .inr ⟨rfl, k, hkm, hla, by omega⟩
        have h1 : atI (sPy k.2) (-1) = some (.str k.2[k.2.length - 1]) := atI_m1 (sPy_last hla)
        refine a_cons (e_tup (a_cons (e_str (a_cons (e_op (e_var rfl (e_un (e_int (o_neg (o_ixP h1 (a_nil ⟨_, rfl, Nat.le_of_ble_eq_true rfl, ?_⟩)))))))))))
        refine a_nil (m_insert (n := 1) rfl (by rw [pPy_len]; omega) (by omega) (by omega) ?_)
        have hnq : k.2.head? ≠ some k.2[k.2.length - 1] := fun e => by
          rw [List.head?_eq_getElem?] at e
          have := (List.getElem?_inj (by omega) hknd).mp (e.trans hh.symm)
          omega
        refine ⟨o3, insAt ws r3.toNat ("last", k.2[k.2.length - 1]), _, _, rfl, ?_, p3, ⟨hW'.add hB hk _ hq (List.getElem_mem hne) fun _ u hu e => hnq (hu.trans (by rw [e])), fun q hq => .inl ?_, (by rw [insAt_len, if_neg (by decide)]; omega)⟩⟩
        · rw [← pPy_insAt]; rfl
        · rcases mem_insAt.mp hq with h | rfl
          · exact hat q h
          · exact ⟨k, by rw [tk]; simp, List.getElem_mem hne⟩
      · exact x_next ⟨o2, ws, _, _, rfl, rfl, p2, hNx⟩
    · exact iteF (x_next ⟨o', ws, _, _, rfl, rfl, hp', hNx⟩)
  · rintro ρ' l' ⟨o', ws, a, b, rfl, rfl, hp', hW⟩
    exact x_ret (e_var rfl (Res.own (n := 1) rfl trivial nofun (Nat.le_refl _) (fun x hx => by cases hx with | head => exact hp'.under | tail _ h => cases h) (z _ _ hp' hW.ok)))
def S__law_kept : Spec3 := fun ds g R => ∃ o ks us many, ds = [.own 0, .f (plD (ksPy ks)), .f (.list (sPy us)), .f (.int many)] ∧ g = [o] ∧ IsPen o ∧ TreeB ks us ∧ 0 ≤ many ∧ many ≤ 400 ∧ (us = [] → many = 0) ∧ (∀ u ∈ us, PyData.strOk u = true) ∧ ∀ o' ts, IsPen o' → TiesOk ks us ts → (ts.length : Int) ≤ many → R (.own 1) [o', .lst (pPy ts)]
abbrev s__law_kept : Stmt := top 54
theorem sc__law_kept : FnScope ["_law_pen_here", "_law_knots", "_law_units", "_law_many", "_law_found", "_law_around_here", "_law_k", "_law_one", "_law_other", "_law_told", "_law_some"] ["_law_pen_here", "_law_knots", "_law_units", "_law_many"] (defScope s__law_kept) := ⟨rfl, rfl, rfl, by decide +kernel, rfl, by decide +kernel, by decide +kernel⟩
set_option maxHeartbeats 4000000 in
theorem ok__law_kept (T : Bi K mg) (Df : DefAt K mg "_law_kept" s__law_kept ["_law_pen_here", "_law_knots", "_law_units", "_law_many"]) (C__law_parting : Cal P w K mg base 2 "_law_parting" ["_law_around_here", "_law_one", "_law_other"] S__law_parting) (C__law_draw : Cal P w K mg base 1 "_law_draw" ["_law_pen_here", "_law_most"] S__law_draw) (C__law_around : Cal P w K mg base 1 "_law_around" ["_law_knots"] S__law_around) : Cal P w K mg base 3 "_law_kept" ["_law_pen_here", "_law_knots", "_law_units", "_law_many"] S__law_kept := by
  refine ok4 Df sc__law_kept (fun ds g R h0 => by obtain ⟨_, _, _, _, h, _⟩ := h0; rw [h]; rfl) (fun cdv A outer s H E f hr => ?_)
  have hu1 := hu_of hr.r
  have hu64 := hr.units
  have hu65 : (A.deeper (PyProof.Rows.envOfC "_law_kept" (defScope s__law_kept) s.heap.objs.size f cdv)).units + 65 < cLine := by have := hr.un; omega
  refine ⟨_, (pss_cons (ps_set (i := 4) sc__law_kept.nd rfl (by first | exact Or.inl rfl | exact Or.inr rfl) (pe_lst pa_nil))
    (pss_cons (ps_set (i := 5) sc__law_kept.nd rfl (by first | exact Or.inl rfl | exact Or.inr rfl) (pe_cal (K := K) rfl C__law_around (hr.mono (by decide)) (by rfl) (pa_cons (pv 1) pa_nil)))
    (pss_cons (ps_for PassesOwn.never rfl (pi_range1 (by rfl) T.b_range (pa_cons (pv 3) pa_nil)) (pg_name (i := 6) sc__law_kept.nd rfl (by first | exact Or.inl rfl | exact Or.inr rfl))
    (pss_cons (ps_set (i := 7) sc__law_kept.nd rfl (by first | exact Or.inl rfl | exact Or.inr rfl) (pe_ix (u_ix (K := K) rfl hu1) (pv 2) (pe_cal (K := K) rfl C__law_draw (hr.mono (by decide)) (by rfl) (pa_cons (pv 0) (pa_cons (pe_callB (u_len (K := K) rfl) (by rfl) T.b_len (by decide +kernel) (pa_cons (pv 2) pa_nil)) pa_nil))) (fun _ _ => rfl)))
    (pss_cons (ps_set (i := 8) sc__law_kept.nd rfl (by first | exact Or.inl rfl | exact Or.inr rfl) (pe_ix (u_ix (K := K) rfl hu1) (pv 2) (pe_cal (K := K) rfl C__law_draw (hr.mono (by decide)) (by rfl) (pa_cons (pv 0) (pa_cons (pe_callB (u_len (K := K) rfl) (by rfl) T.b_len (by decide +kernel) (pa_cons (pv 2) pa_nil)) pa_nil))) (fun _ _ => rfl)))
    (pss_cons (ps_set (i := 9) sc__law_kept.nd rfl (by first | exact Or.inl rfl | exact Or.inr rfl) (pe_cal (K := K) rfl C__law_parting (hr.mono (by decide)) (by rfl) (pa_cons (pv 5) (pa_cons (pv 7) (pa_cons (pv 8) pa_nil)))))
    (pss_one (ps_if (pt_cmpR op_notN1 (pv 9) pe_non (nomark _))
    (pss_cons (ps_set (i := 10) sc__law_kept.nd rfl (by first | exact Or.inl rfl | exact Or.inr rfl) (pe_ix (u_ix (K := K) rfl hu1) (pe_callTy (u_dictP (K := K) rfl rfl) (by rfl) T.b_dict (by decide +kernel) (pa_cons (pv 1) pa_nil)) (pe_ix (u_ix (K := K) rfl hu1) (pv 9) pe_int (fun _ _ => rfl)) (fun _ _ => rfl)))
    (pss_cons (ps_if (pt_cmpR op_gt (u_bmP (K := K) rfl plainAttrs_tup PySem.F.slot_tuple_index ty_tindex (u_tindex (K := K) rfl) (pv 10) (pa_cons (pe_ix (u_ix (K := K) rfl hu1) (pv 9) pe_int (fun _ _ => rfl)) pa_nil)) (u_bmP (K := K) rfl plainAttrs_tup PySem.F.slot_tuple_index ty_tindex (u_tindex (K := K) rfl) (pv 10) (pa_cons (pe_ix (u_ix (K := K) rfl hu1) (pv 9) pe_int (fun _ _ => rfl)) pa_nil)) (nomark _))
    (pss_one (ps_par (i := 7) (j := 8) (by rfl) sc__law_kept.nd rfl rfl (by decide) rfl rfl (pa_cons (pv 8) (pa_cons (pv 7) pa_nil)) (by rfl)))
    pss_nil)
    (pss_one (ps_if (pt_cmpR (u_notIn (K := K) rfl hu65) (pe_tup (pa_cons (pv 7) (pa_cons (pv 8) pa_nil))) (pv 4) (by rfl))
    (pss_one (ps_expr (u_bm (K := K) rfl PySem.F.plainAttrs_list PySem.F.slot_list_append PySem.F.type_list_append mt_append (pv 4) (pa_cons (pe_tup (pa_cons (pv 7) (pa_cons (pv 8) pa_nil))) pa_nil))))
    pss_nil))))
    pss_nil))))))
    (pss_one (ps_ret (pv 4)))))), fun ds g R hS => ?_⟩
  obtain ⟨o, ks, us, many, rfl, rfl, hp, hB, hm0, hm1, hem, hso, z⟩ := hS
  show ExS K _ [some _, some _, some _, some _, none, none, none, none, none, none, none] _ _
  have hu60 : us.length ≤ 60 := by obtain ⟨_, _, _, _, h⟩ := hB; exact h
  refine xs_set (e_lst (a_nil ⟨[], rfl, by decide, ?_⟩))
  refine xs_set (e_call0 (a_cons (e_var rfl (a_nil ⟨trivial, ks, us, rfl, rfl, hB, fun A hA => ?_⟩))))
  show ExS K _ [some (.own 0), some (.f (plD (ksPy ks))), some (.f (.list (sPy us))), some (.f (.int many)), some (.own 1), some (.own 2), none, none, none, none, none] [o, .lst (pPy []), .dct A] _
  refine xs_forR (a_cons (e_var rfl (a_nil ⟨_, rfl, by omega, by omega, fun i ρ' l' => ∃ (o' : O) (ts : Ties), ρ' = [some (.own 0), some (.f (plD (ksPy ks))), some (.f (.list (sPy us))), some (.f (.int many)), some (.own 1), some (.own 2), none, none, none, none, none] ∧ l' = [o', .lst (pPy ts), .dct A] ∧ IsPen o' ∧ TiesOk ks us ts ∧ ts.length ≤ i, ⟨o, [], rfl, rfl, hp, ⟨nofun, nofun, List.nodup_nil⟩, Nat.zero_le _⟩, ?_, ?_⟩)))
  · rintro i ρ' l' hi ⟨o', ts, rfl, rfl, hp', hT, hl⟩
    have hu1 : 1 ≤ us.length := by
      cases us with
      | nil => have := hem rfl; omega
      | cons a b => simp
    refine g_name (x_tidy 3 [6, 7, 8, 9, 10] (Nat.le_refl _) ?_)
    refine xs_set (e_op (e_var rfl (e_draw 0 (a_cons (e_var rfl (a_cons (e_cb (a_cons (e_var rfl (a_nil (c_lenQ isq_list (a_nil ⟨_, o', rfl, rfl, hp', (by rw [sPy_len]; omega), (by rw [sPy_len]; omega), fun r o1 r0 r1 p1 => ?_⟩))))))))))))
    rw [sPy_len] at r1
    obtain ⟨u, hu, eu⟩ := sPy_at r0 r1
    refine o_ixQ isq_list eu ?_
    refine xs_set (e_op (e_var rfl (e_draw 0 (a_cons (e_var rfl (a_cons (e_cb (a_cons (e_var rfl (a_nil (c_lenQ isq_list (a_nil ⟨_, o1, rfl, rfl, p1, (by rw [sPy_len]; omega), (by rw [sPy_len]; omega), fun r' o2 r0' r1' p2 => ?_⟩))))))))))))
    rw [sPy_len] at r1'
    obtain ⟨v, hv, ev⟩ := sPy_at r0' r1'
    refine o_ixQ isq_list ev ?_
    refine xs_set (e_call1 2 (a_cons (e_var rfl (a_cons (e_var rfl (a_cons (e_var rfl (a_nil ⟨_, _, rfl, trivial, rfl, ks, us, A, u, v, rfl, rfl, hB, hA, hu, hv, _, _, rfl, ?_⟩))))))))
    show ExS K _ [some (.own 0), some (.f (plD (ksPy ks))), some (.f (.list (sPy us))), some (.f (.int many)), some (.own 1), some (.own 2), some (.f (.int i)), some (.f (.str u)), some (.f (.str v)), some (.f (partD (partF ks u v))), none] [o2, .lst (pPy ts), .dct A] _
    refine x_if (t_test (e_op (e_var rfl (e_non (o_notN ⟨_, rfl, ?_⟩)))))
    cases hq : partF ks u v with
    | none =>
      refine iteF (x_next ?_)
      walk_at "u"
      exact ⟨o2, ts, rfl, rfl, p2, hT, by omega⟩
    | some t =>
      obtain ⟨k, x, y⟩ := t
      obtain ⟨hx, hy, hxy⟩ := hB.part hu hv hq
      have hkm : k ∈ ks.map (·.1) := hx.knot
      have hxk := (mem_kids hB.names).mpr hx
      have hyk := (mem_kids hB.names).mpr hy
      refine iteT ?_
      show ExS K _ [some (.own 0), some (.f (plD (ksPy ks))), some (.f (.list (sPy us))), some (.f (.int many)), some (.own 1), some (.own 2), some (.f (.int i)), some (.f (.str u)), some (.f (.str v)), some (.f (.tuple [.str k, .str x, .str y])), none] [o2, .lst (pPy ts), .dct A] _
      refine xs_set (e_dictKnots hB.names (e_var rfl ⟨rfl, e_op (e_var rfl (e_int (o_ixQ isq_tup rfl ⟨k, rfl, hkm, rfl, ?_⟩)))⟩))
      show ExS K _ [some (.own 0), some (.f (plD (ksPy ks))), some (.f (.list (sPy us))), some (.f (.int many)), some (.own 1), some (.own 2), some (.f (.int i)), some (.f (.str u)), some (.f (.str v)), some (.f (.tuple [.str k, .str x, .str y])), some (.f (plD (sPy (kids ks k))))] [o2, .lst (pPy ts), .dct A, .dct (mergeD [] (ksPrs ks))] _
      generalize mergeD [] (ksPrs ks) = D0
      refine xs_mid (fun ρ' l' => ∃ a b, ρ' = [some (.own 0), some (.f (plD (ksPy ks))), some (.f (.list (sPy us))), some (.f (.int many)), some (.own 1), some (.own 2), some (.f (.int i)), some (.f (.str a)), some (.f (.str b)), some (.f (.tuple [.str k, .str x, .str y])), some (.f (plD (sPy (kids ks k))))] ∧ l' = [o2, .lst (pPy ts), .dct A, .dct D0] ∧ a ∈ us ∧ b ∈ us ∧ ∃ x y, partF ks a b = some (k, x, y) ∧ (kids ks k).idxOf x < (kids ks k).idxOf y) ?_ ?_
      · refine x_if (t_test (e_op (e_bmP (e_var rfl ⟨⟨_, rfl⟩, a_cons (e_op (e_var rfl (e_int (o_ixQ isq_tup rfl (a_nil (m_tindex hxk ?_))))))⟩))))
        refine e_bmP (e_var rfl ⟨⟨_, rfl⟩, a_cons (e_op (e_var rfl (e_int (o_ixQ isq_tup rfl (a_nil (m_tindex hyk (o_I0b ⟨_, rfl, ?_⟩)))))))⟩)
        refine d_both (fun c1 => ?_) (fun c1 => ?_)
        · refine x_par (a_cons (e_var rfl (a_cons (e_var rfl (a_nil ⟨_, _, rfl, v, u, rfl, rfl, hv, hu, y, x, by rw [partF_swap, hq]; rfl, by omega⟩)))))
        · refine x_next ⟨u, v, rfl, rfl, hu, hv, x, y, hq, ?_⟩
          have hne : (kids ks k).idxOf x ≠ (kids ks k).idxOf y := fun e => hxy (by
            have h1 := List.getElem_idxOf (List.idxOf_lt_length_iff.mpr hxk)
            have h2 := List.getElem_idxOf (List.idxOf_lt_length_iff.mpr hyk)
            rw [← h1, ← h2]
            simp only [e])
          omega
      · rintro ρ' l' ⟨a, b, rfl, rfl, ha, hb, x2, y2, hq2, hlt⟩
        refine x_if (t_test (e_op (e_tup (a_cons (e_var rfl (a_cons (e_var rfl (a_nil ⟨[.str a, .str b], rfl, Nat.le_of_ble_eq_true rfl, ?_⟩))))))))
        refine e_var rfl (o_inP asd_f (isq_own (n := 1) rfl) (shape_pair (hso a ha) (hso b hb)) (lay_pPy fun e he => ⟨hso _ (hT.pa e he).1, hso _ (hT.pa e he).2.1⟩) ⟨_, rfl, ?_⟩)
        rw [if_pos rfl, any_pPy]
        refine nd_both (fun c2 => ?_) (fun c2 => ?_)
        · refine x_drop (e_bmL (e_var rfl ⟨⟨_, isl_own (n := 1) rfl⟩, a_cons (e_tup (a_cons (e_var rfl (a_cons (e_var rfl (a_nil ⟨_, rfl, Nat.le_of_ble_eq_true rfl, a_nil (m_append (n := 1) rfl (by rw [pPy_len]; omega) ?_)⟩))))))⟩))
          walk_at "u"
          refine ⟨o2, ts ++ [(a, b)], rfl, by rw [pPy_app]; rfl, p2, ⟨fun e he => ?_, fun e he => ?_, ?_⟩, by rw [List.length_append]; simp; omega⟩
          · rcases List.mem_append.mp he with h | h
            · exact hT.pa e h
            · cases List.mem_singleton.mp h
              exact ⟨ha, hb, k, x2, y2, hq2⟩
          · rcases List.mem_append.mp he with h | h
            · exact hT.fw e h
            · cases List.mem_singleton.mp h
              intro k' x' y' h'
              rw [hq2] at h'
              cases h'
              exact hlt
          · rw [List.nodup_append]
            exact ⟨hT.nd, by simp, fun p hp q hq e => c2 (by cases List.mem_singleton.mp hq; exact e ▸ hp)⟩
        · refine x_next ?_
          walk_at "u"
          exact ⟨o2, ts, rfl, rfl, p2, hT, by omega⟩
  · rintro ρ' l' ⟨o', ts, rfl, rfl, hp', hT, hl⟩
    exact x_ret (e_var rfl (Res.own (n := 1) rfl trivial nofun (Nat.le_refl _) (fun x hx => by cases hx with | head => exact hp'.under | tail _ h => cases h) (z _ _ hp' hT (by omega))))
def S__law_waiting : Spec3 := fun ds g R => ∃ o ks us ts ws, ds = [.own 0, .f (houseD ks ts [] ws), .f (.list (sPy us))] ∧ g = [o] ∧ IsPen o ∧ TreeB ks us ∧ Parted ks us ts ∧ ts.length ≤ 200 ∧ ws.length ≤ 60 ∧ (∀ u ∈ us, PyData.strOk u = true) ∧ ∀ o' wt, IsPen o' → WaitsOk ks us ts ws wt → wt.length ≤ 5 → R (.own 1) [o', .lst (pPy wt)]
abbrev s__law_waiting : Stmt := top 55
theorem sc__law_waiting : FnScope ["_law_pen_here", "_law_house_here", "_law_units", "_law_found", "_law_k", "_law_pair", "_law_told"] ["_law_pen_here", "_law_house_here", "_law_units"] (defScope s__law_waiting) := ⟨rfl, rfl, rfl, by decide +kernel, rfl, by decide +kernel, by decide +kernel⟩
set_option maxHeartbeats 4000000 in
theorem ok__law_waiting (T : Bi K mg) (Df : DefAt K mg "_law_waiting" s__law_waiting ["_law_pen_here", "_law_house_here", "_law_units"]) (C__law_draw : Cal P w K mg base 1 "_law_draw" ["_law_pen_here", "_law_most"] S__law_draw) (C__law_reached : Cal P w K mg base 1 "_law_reached" ["_law_edges_here", "_law_one"] S__law_reached) (C__law_edges : Cal P w K mg base 3 "_law_edges" ["_law_house_here", "_law_knot"] S__law_edges) (C__law_parting : Cal P w K mg base 2 "_law_parting" ["_law_around_here", "_law_one", "_law_other"] S__law_parting) (C__law_around : Cal P w K mg base 1 "_law_around" ["_law_knots"] S__law_around) : Cal P w K mg base 4 "_law_waiting" ["_law_pen_here", "_law_house_here", "_law_units"] S__law_waiting := by
  refine ok4 Df sc__law_waiting (fun ds g R h0 => by obtain ⟨_, _, _, _, _, h, _⟩ := h0; rw [h]; rfl) (fun cdv A outer s H E f hr => ?_)
  have hu1 := hu_of hr.r
  have hu64 := hr.units
  have hu65 : (A.deeper (PyProof.Rows.envOfC "_law_waiting" (defScope s__law_waiting) s.heap.objs.size f cdv)).units + 65 < cLine := by have := hr.un; omega
  refine ⟨_, (pss_cons (ps_set (i := 3) sc__law_waiting.nd rfl (by first | exact Or.inl rfl | exact Or.inr rfl) (pe_lst pa_nil))
    (pss_cons (ps_for PassesOwn.never rfl (pi_range1 (by rfl) T.b_range (pa_cons (pe_callB (u_min2 rfl) (by rfl) T.b_min (by decide +kernel) (pa_cons (pe_callB (u_len (K := K) rfl) (by rfl) T.b_len (by decide +kernel) (pa_cons (pv 2) pa_nil)) (pa_cons (pe_cal (K := K) rfl C__law_draw (hr.mono (by decide)) (by rfl) (pa_cons (pv 0) (pa_cons pe_int pa_nil))) pa_nil))) pa_nil)) (pg_name (i := 4) sc__law_waiting.nd rfl (by first | exact Or.inl rfl | exact Or.inr rfl))
    (pss_cons (ps_set (i := 5) sc__law_waiting.nd rfl (by first | exact Or.inl rfl | exact Or.inr rfl) (pe_tup (pa_cons (pe_ix (u_ix (K := K) rfl hu1) (pv 2) (pe_cal (K := K) rfl C__law_draw (hr.mono (by decide)) (by rfl) (pa_cons (pv 0) (pa_cons (pe_callB (u_len (K := K) rfl) (by rfl) T.b_len (by decide +kernel) (pa_cons (pv 2) pa_nil)) pa_nil))) (fun _ _ => rfl)) (pa_cons (pe_ix (u_ix (K := K) rfl hu1) (pv 2) (pe_cal (K := K) rfl C__law_draw (hr.mono (by decide)) (by rfl) (pa_cons (pv 0) (pa_cons (pe_callB (u_len (K := K) rfl) (by rfl) T.b_len (by decide +kernel) (pa_cons (pv 2) pa_nil)) pa_nil))) (fun _ _ => rfl)) pa_nil))))
    (pss_cons (ps_if (PW.pt (pw_and (pt_cmpR op_gt (pe_callB (u_len (K := K) rfl) (by rfl) T.b_len (by decide +kernel) (pa_cons (pe_ix (u_ix (K := K) rfl hu1) (pv 1) pe_int (fun _ _ => rfl)) pa_nil)) pe_int (nomark _)) (pw_and1 (pt_cmpR (u_eq (K := K) rfl hu64) (pe_cal (K := K) rfl C__law_draw (hr.mono (by decide)) (by rfl) (pa_cons (pv 0) (pa_cons pe_int pa_nil))) pe_int (nomark _)))))
    (pss_one (ps_set (i := 5) sc__law_waiting.nd rfl (by first | exact Or.inl rfl | exact Or.inr rfl) (pe_revU (K := K) rfl (pe_ix (u_ix (K := K) rfl hu1) (pe_ix (u_ix (K := K) rfl hu1) (pv 1) pe_int (fun _ _ => rfl)) (pe_cal (K := K) rfl C__law_draw (hr.mono (by decide)) (by rfl) (pa_cons (pv 0) (pa_cons (pe_callB (u_len (K := K) rfl) (by rfl) T.b_len (by decide +kernel) (pa_cons (pe_ix (u_ix (K := K) rfl hu1) (pv 1) pe_int (fun _ _ => rfl)) pa_nil)) pa_nil))) (fun _ _ => rfl)))))
    pss_nil)
    (pss_cons (ps_set (i := 6) sc__law_waiting.nd rfl (by first | exact Or.inl rfl | exact Or.inr rfl) (pe_cal (K := K) rfl C__law_parting (hr.mono (by decide)) (by rfl) (pa_cons (pe_cal (K := K) rfl C__law_around (hr.mono (by decide)) (by rfl) (pa_cons (pe_ix (u_ix (K := K) rfl hu1) (pv 1) pe_int (fun _ _ => rfl)) pa_nil)) (pa_cons (pe_ix (u_ix (K := K) rfl hu1) (pv 5) pe_int (fun _ _ => rfl)) (pa_cons (pe_ix (u_ix (K := K) rfl hu1) (pv 5) pe_int (fun _ _ => rfl)) pa_nil)))))
    (pss_one (ps_if (PW.pt (pw_and (pt_cmpR op_notN1 (pv 6) pe_non (nomark _)) (pw_and1 (pt_cmpR (u_notIn (K := K) rfl hu65) (pv 5) (pv 3) (by rfl)))))
    (pss_one (ps_if (pt_cmpR (u_in (K := K) rfl hu65) (pe_ix (u_ix (K := K) rfl hu1) (pv 6) pe_int (fun _ _ => rfl)) (pe_cal (K := K) rfl C__law_reached (hr.mono (by decide)) (by rfl) (pa_cons (pe_cal (K := K) rfl C__law_edges (hr.mono (by decide)) (by rfl) (pa_cons (pv 1) (pa_cons (pe_ix (u_ix (K := K) rfl hu1) (pv 6) pe_int (fun _ _ => rfl)) pa_nil))) (pa_cons (pe_ix (u_ix (K := K) rfl hu1) (pv 6) pe_int (fun _ _ => rfl)) pa_nil))) (by rfl))
    (pss_one (ps_expr (u_bm (K := K) rfl PySem.F.plainAttrs_list PySem.F.slot_list_append PySem.F.type_list_append mt_append (pv 3) (pa_cons (pv 5) pa_nil))))
    pss_nil))
    pss_nil))))))
    (pss_one (ps_ret (pv 3))))), fun ds g R hS => ?_⟩
  obtain ⟨o, ks, us, ts, ws, rfl, rfl, hp, hB, hP, htl, hwl, hso, z⟩ := hS
  show ExS K _ [some _, some _, some _, none, none, none, none] _ _
  have hu60 : us.length ≤ 60 := by obtain ⟨_, _, _, _, h⟩ := hB; exact h
  refine xs_set (e_lst (a_nil ⟨[], rfl, by decide, ?_⟩))
  refine xs_forR (a_cons (e_cb (a_cons (e_cb (a_cons (e_var rfl (a_nil (c_lenQ isq_list (a_cons (e_draw 0 (a_cons (e_var rfl (a_cons (e_int (a_nil ⟨_, o, rfl, rfl, hp, by decide, by decide, fun r o1 r0 r1 p1 => a_nil (c_min2 (a_nil ⟨_, rfl, ?_⟩))⟩)))))))))))))))
  rw [sPy_len]
  generalize hN : (if r < (us.length : Int) then r else (us.length : Int)) = N
  have hN1 : N ≤ r ∧ N ≤ us.length ∧ 0 ≤ N := by subst hN; split <;> omega
  refine ⟨by omega, by omega, fun i ρ' l' => ∃ (o' : O) (wt : Ties), ρ' = [some (.own 0), some (.f (houseD ks ts [] ws)), some (.f (.list (sPy us))), some (.own 1), none, none, none] ∧ l' = [o', .lst (pPy wt)] ∧ IsPen o' ∧ WaitsOk ks us ts ws wt ∧ wt.length ≤ i, ⟨o1, [], rfl, rfl, p1, ⟨nofun, nofun, List.nodup_nil⟩, Nat.zero_le _⟩, ?_, ?_⟩
  · rintro i ρ' l' hi ⟨o', wt, rfl, rfl, hp', hW, hl⟩
    have hu1 : 1 ≤ us.length := by omega
    refine g_name (x_tidy 2 [4, 5, 6] (Nat.le_refl _) ?_)
    refine xs_set (e_tup (a_cons (e_op (e_var rfl (e_draw 0 (a_cons (e_var rfl (a_cons (e_cb (a_cons (e_var rfl (a_nil (c_lenQ isq_list (a_nil ⟨_, o', rfl, rfl, hp', (by rw [sPy_len]; omega), (by rw [sPy_len]; omega), fun r o2 r0 r1 p2 => ?_⟩))))))))))))))
    rw [sPy_len] at r1
    obtain ⟨u, hu, eu⟩ := sPy_at r0 r1
    refine o_ixQ isq_list eu ?_
    refine a_cons (e_op (e_var rfl (e_draw 0 (a_cons (e_var rfl (a_cons (e_cb (a_cons (e_var rfl (a_nil (c_lenQ isq_list (a_nil ⟨_, o2, rfl, rfl, p2, (by rw [sPy_len]; omega), (by rw [sPy_len]; omega), fun r' o3 r0' r1' p3 => ?_⟩))))))))))))
    rw [sPy_len] at r1'
    obtain ⟨v, hv, ev⟩ := sPy_at r0' r1'
    refine o_ixQ isq_list ev (a_nil ⟨[.str u, .str v], rfl, Nat.le_of_ble_eq_true rfl, ?_⟩)
    refine xs_mid (fun ρ' l' => ∃ (o' : O) (a b : Str), ρ' = [some (.own 0), some (.f (houseD ks ts [] ws)), some (.f (.list (sPy us))), some (.own 1), some (.f (.int i)), some (.f (.tuple [.str a, .str b])), none] ∧ l' = [o', .lst (pPy wt)] ∧ IsPen o' ∧ a ∈ us ∧ b ∈ us) ?_ ?_
    · refine x_if (t_and (t_test (e_op (e_cb (a_cons (e_op (e_var rfl (e_int (o_ixQ isq_tup rfl (a_nil (c_lenQ isq_tup (e_int (o_I0b ⟨_, rfl, ?_⟩)))))))))))))
      rw [pPy_len]
      refine d_both (fun c1 => ?_) (fun c1 => ?_)
      · refine t_test (e_op (e_draw 0 (a_cons (e_var rfl (a_cons (e_int (a_nil ⟨_, o3, rfl, rfl, p3, by decide, by decide, fun r o4 r0 r1 p4 => e_int (o_eqI ⟨_, rfl, ?_⟩)⟩)))))))
        refine d_both (fun c2 => ?_) (fun c2 => ?_)
        · refine x_set (e_revT (e_op (e_op (e_var rfl (e_int (o_ixQ isq_tup rfl (e_draw 0 (a_cons (e_var rfl (a_cons (e_cb (a_cons (e_op (e_var rfl (e_int (o_ixQ isq_tup rfl (a_nil (c_lenQ isq_tup (a_nil ⟨_, o4, rfl, rfl, p4, (by rw [pPy_len]; omega), (by rw [pPy_len]; omega), fun r5 o5 r50 r51 p5 => ?_⟩)))))))))))))))))))
          rw [pPy_len] at r51
          obtain ⟨n, hn⟩ := Int.eq_ofNat_of_zero_le r50
          subst hn
          have he : ts[n]? = some ts[n] := List.getElem?_eq_getElem (by omega)
          generalize ts[n] = e at he
          have hem := hP e (List.mem_of_getElem? he)
          have hx : (pPy ts)[n]? = some (.tuple [.str e.1, .str e.2]) := by unfold pPy; rw [List.getElem?_map, he]; rfl
          refine o_ixQ isq_tup (atI_nat hx) ⟨_, rfl, ?_⟩
          exact ⟨o5, e.2, e.1, rfl, rfl, p5, hem.2.1, hem.1⟩
        · exact x_next ⟨o4, u, v, rfl, rfl, p4, hu, hv⟩
      · exact iteF (x_next ⟨o3, u, v, rfl, rfl, p3, hu, hv⟩)
    rintro ρ' l' ⟨o6, a, b, rfl, rfl, p6, ha, hb⟩
    have hskip : ∀ {j : Nat}, wt.length ≤ j → wt.length ≤ j + 1 := fun h => Nat.le_succ_of_le h
    refine xs_set (e_call1 2 (a_cons (e_call0 (a_cons (e_op (e_var rfl (e_int (o_ixQ isq_tup rfl (a_nil ⟨trivial, ks, us, rfl, rfl, hB, fun A hA => ?_⟩)))))))))
    refine a_cons (e_op (e_var rfl (e_int (o_ixQ isq_tup rfl (a_cons (e_op (e_var rfl (e_int (o_ixQ isq_tup rfl (a_nil ⟨_, _, rfl, trivial, rfl, ks, us, A, a, b, rfl, rfl, hB, hA, ha, hb, _, _, rfl, ?_⟩))))))))))
    show ExS K _ [some (.own 0), some (.f (houseD ks ts [] ws)), some (.f (.list (sPy us))), some (.own 1), some (.f (.int i)), some (.f (.tuple [.str a, .str b])), some (.f (partD (partF ks a b)))] [o6, .lst (pPy wt), .dct A] _
    refine x_if (t_and (t_test (e_op (e_var rfl (e_non (o_notN ⟨_, rfl, ?_⟩))))))
    cases hq : partF ks a b with
    | none =>
      refine iteF (iteF (x_next ?_))
      walk_at "u"
      exact ⟨o6, wt, rfl, rfl, p6, hW, hskip hl⟩
    | some t =>
      obtain ⟨k, x, y⟩ := t
      obtain ⟨hx, hy, hxy⟩ := hB.part ha hb hq
      refine iteT (t_test (e_op (e_var rfl (e_var rfl (o_inP asd_f (isq_own (n := 1) rfl) (shape_pair (hso a ha) (hso b hb)) (lay_pPy fun e he => ⟨hso _ (hW.pa e he).1, hso _ (hW.pa e he).2.1⟩) ⟨_, rfl, ?_⟩)))))
      rw [if_pos rfl, any_pPy]
      refine nd_both (fun c2 => ?_) (fun c2 => ?_)
      · refine x_if (t_test (e_op (e_op (e_var rfl (e_int (o_ixQ isq_tup rfl (e_call0 (a_cons (e_frz (e_call0 (a_cons (e_var rfl (a_cons (e_op (e_var rfl (e_int (o_ixQ isq_tup rfl (a_nil ⟨trivial, ks, us, ts, [], ws, k, rfl, rfl, hB, hP, htl, hwl, hx.knot, hso, ?_⟩))))))))))))))))))
        refine ⟨3, _, rfl, rfl, a_cons (e_op (e_var rfl (e_int (o_ixQ isq_tup rfl (a_nil ⟨trivial, edgesF ks ts ws k, y, rfl, rfl, ?_, fun xs hxs => ?_⟩)))))⟩
        · have a1 := onceL_len (edges0 ks ts ws k)
          have a2 := edges0_len hB ts ws k
          unfold edgesF
          omega
        refine o_inQS (isq_own (n := 4) rfl) ⟨_, rfl, ?_⟩
        refine d_both (c := x ∈ xs) (fun c3 => ?_) (fun c3 => ?_)
        · refine x_drop (e_bmL (e_var rfl ⟨⟨_, isl_own (n := 1) rfl⟩, a_cons (e_var rfl (a_nil (m_append (n := 1) rfl (by rw [pPy_len]; omega) ?_)))⟩))
          walk_at "u"
          refine ⟨o6, wt ++ [(a, b)], rfl, by rw [pPy_app]; rfl, p6, ⟨fun e he => ?_, fun e he => ?_, ?_⟩, by rw [List.length_append]; simp; omega⟩
          · rcases List.mem_append.mp he with h | h
            · exact hW.pa e h
            · cases List.mem_singleton.mp h
              exact ⟨ha, hb, k, x, y, hq⟩
          · rcases List.mem_append.mp he with h | h
            · exact hW.cl e h
            · cases List.mem_singleton.mp h
              intro k' x' y' h'
              rw [hq] at h'
              cases h'
              exact (hxs.all x).mp c3
          · rw [List.nodup_append]
            exact ⟨hW.nd, by simp, fun p hp q hq e => c2 (by cases List.mem_singleton.mp hq; exact e ▸ hp)⟩
        · refine x_next ?_
          walk_at "u"
          exact ⟨o6, wt, rfl, rfl, p6, hW, hskip hl⟩
      · refine x_next ?_
        walk_at "u"
        exact ⟨o6, wt, rfl, rfl, p6, hW, hskip hl⟩
  · rintro ρ' l' ⟨o', wt, rfl, rfl, hp', hW, hl⟩
    exact x_ret (e_var rfl (Res.own (n := 1) rfl trivial nofun (Nat.le_refl _) (fun x hx => by cases hx with | head => exact hp'.under | tail _ h => cases h) (z _ _ hp' hW (by omega))))
def S__law_house : Spec3 := fun ds g R => ∃ o us deep, ds = [.own 0, .f (.list (sPy us)), .f (.int deep)] ∧ g = [o] ∧ IsPen o ∧ us.length ≤ 60 ∧ us.Nodup ∧ (∀ u ∈ us, 1 ≤ u.length ∧ PyData.strOk u = true) ∧ 0 ≤ deep ∧ deep ≤ 100 ∧ ∀ o' ks ts wt ws, IsPen o' → HouseOk ks us ts wt ws → (∃ r, Tree ks us deep r) → R (.f (houseD ks ts wt ws)) [o']
abbrev s__law_house : Stmt := top 56
theorem sc__law_house : FnScope ["_law_pen_here", "_law_units", "_law_deep", "_law_knots", "_law_wants_here", "_law_ties", "_law_house_here"] ["_law_pen_here", "_law_units", "_law_deep"] (defScope s__law_house) := ⟨rfl, rfl, rfl, by decide +kernel, rfl, by decide +kernel, by decide +kernel⟩
set_option maxHeartbeats 4000000 in
theorem ok__law_house (T : Bi K mg) (Df : DefAt K mg "_law_house" s__law_house ["_law_pen_here", "_law_units", "_law_deep"]) (C__law_waiting : Cal P w K mg base 4 "_law_waiting" ["_law_pen_here", "_law_house_here", "_law_units"] S__law_waiting) (C__law_kept : Cal P w K mg base 3 "_law_kept" ["_law_pen_here", "_law_knots", "_law_units", "_law_many"] S__law_kept) (C__law_draw : Cal P w K mg base 1 "_law_draw" ["_law_pen_here", "_law_most"] S__law_draw) (C__law_wants : Cal P w K mg base 2 "_law_wants" ["_law_pen_here", "_law_knots"] S__law_wants) (C__law_tree : Cal P w K mg base 2 "_law_tree" ["_law_pen_here", "_law_names_here", "_law_deep"] S__law_tree) : Cal P w K mg base 5 "_law_house" ["_law_pen_here", "_law_units", "_law_deep"] S__law_house := by
  refine ok4 Df sc__law_house (fun ds g R h0 => by obtain ⟨_, _, _, h, _⟩ := h0; rw [h]; rfl) (fun cdv A outer s H E f hr => ?_)
  have hu1 := hu_of hr.r
  have hu64 := hr.units
  have hu65 : (A.deeper (PyProof.Rows.envOfC "_law_house" (defScope s__law_house) s.heap.objs.size f cdv)).units + 65 < cLine := by have := hr.un; omega
  refine ⟨_, (pss_cons (ps_set (i := 3) sc__law_house.nd rfl (by first | exact Or.inl rfl | exact Or.inr rfl) (pe_cal (K := K) rfl C__law_tree (hr.mono (by decide)) (by rfl) (pa_cons (pv 0) (pa_cons (pv 1) (pa_cons (pv 2) pa_nil)))))
    (pss_cons (ps_set (i := 4) sc__law_house.nd rfl (by first | exact Or.inl rfl | exact Or.inr rfl) (pe_cal (K := K) rfl C__law_wants (hr.mono (by decide)) (by rfl) (pa_cons (pv 0) (pa_cons (pv 3) pa_nil))))
    (pss_cons (ps_set (i := 5) sc__law_house.nd rfl (by first | exact Or.inl rfl | exact Or.inr rfl) (pe_cal (K := K) rfl C__law_kept (hr.mono (by decide)) (by rfl) (pa_cons (pv 0) (pa_cons (pv 3) (pa_cons (pv 1) (pa_cons (pe_cal (K := K) rfl C__law_draw (hr.mono (by decide)) (by rfl) (pa_cons (pv 0) (pa_cons (pe_op (u_add (K := K) rfl) (pe_callB (u_min2 rfl) (by rfl) T.b_min (by decide +kernel) (pa_cons pe_int (pa_cons (pe_op u_mul pe_int (pe_callB (u_len (K := K) rfl) (by rfl) T.b_len (by decide +kernel) (pa_cons (pv 1) pa_nil))) pa_nil))) pe_int) pa_nil))) pa_nil))))))
    (pss_cons (ps_set (i := 6) sc__law_house.nd rfl (by first | exact Or.inl rfl | exact Or.inr rfl) (pe_tup (pa_cons (pv 3) (pa_cons (pe_callTy (u_tuple (K := K) rfl) (by rfl) T.b_tuple (by decide +kernel) (pa_cons (pv 5) pa_nil)) (pa_cons (pe_tup pa_nil) (pa_cons (pe_callTy (u_tuple (K := K) rfl) (by rfl) T.b_tuple (by decide +kernel) (pa_cons (pv 4) pa_nil)) pa_nil))))))
    (pss_one (ps_ret (pe_tup (pa_cons (pv 3) (pa_cons (pe_callTy (u_tuple (K := K) rfl) (by rfl) T.b_tuple (by decide +kernel) (pa_cons (pv 5) pa_nil)) (pa_cons (pe_callTy (u_tuple (K := K) rfl) (by rfl) T.b_tuple (by decide +kernel) (pa_cons (pe_cal (K := K) rfl C__law_waiting (hr.mono (by decide)) (by rfl) (pa_cons (pv 0) (pa_cons (pv 6) (pa_cons (pv 1) pa_nil)))) pa_nil)) (pa_cons (pe_callTy (u_tuple (K := K) rfl) (by rfl) T.b_tuple (by decide +kernel) (pa_cons (pv 4) pa_nil)) pa_nil))))))))))), fun ds g R hS => ?_⟩
  obtain ⟨o, us, deep, rfl, rfl, hp, hul, hun, hso, hd0, hd1, z⟩ := hS
  show ExS K _ [some _, some _, some _, none, none, none, none] _ _
  refine xs_set (e_call1 0 (a_cons (e_var rfl (a_cons (e_var rfl (a_cons (e_var rfl (a_nil ⟨_, _, rfl, hp.free, rfl, o, us, deep, rfl, rfl, hp, hul, hun, fun u hu => (hso u hu).1, hd0, fun o1 ks r p1 hT => ⟨_, _, rfl, ?_⟩⟩))))))))
  have hB : TreeB ks us := ⟨deep, r, hT, hd1, hul⟩
  rw [p1.shift1]
  refine xs_set (e_call1 0 (a_cons (e_var rfl (a_cons (e_var rfl (a_nil ⟨_, _, rfl, p1.free, rfl, o1, ks, us, rfl, rfl, p1, hB, fun o2 ws p2 hW => ⟨_, _, rfl, ?_⟩⟩))))))
  rw [p2.shift1]
  have hwl := hW.len hB
  refine xs_set (e_call1 0 (a_cons (e_var rfl (a_cons (e_var rfl (a_cons (e_var rfl (a_cons (e_draw 0 (a_cons (e_var rfl (a_cons (e_op (e_cb (a_cons (e_int (a_cons (e_op (e_int (e_cb (a_cons (e_var rfl (a_nil (c_lenQ isq_list (o_mulI ?_ (a_nil (c_min2 (e_int (o_addI ?_)))))))))))))))))))))))))))))
  · exact Or.inl ⟨by decide, by decide⟩
  rw [sPy_len]
  generalize hN : (if 2 * (us.length : Int) < 40 then 2 * (us.length : Int) else 40) = N
  have hN1 : N ≤ 40 ∧ N ≤ 2 * us.length ∧ 0 ≤ N := by subst hN; split <;> omega
  refine a_nil ⟨_, o2, rfl, rfl, p2, by omega, by omega, fun r3 o3 r30 r31 p3 => ?_⟩
  refine a_nil ⟨_, _, rfl, p3.free, rfl, o3, ks, us, r3, rfl, rfl, p3, hB, r30, by omega, fun e => by subst e; simp at hN1; omega, fun u hu => (hso u hu).2, fun o4 ts p4 hTs htl => ⟨_, _, rfl, ?_⟩⟩
  rw [p4.shift1]
  show ExS K _ [some (.own 0), some (.f (.list (sPy us))), some (.f (.int deep)), some (.f (plD (ksPy ks))), some (.own 1), some (.own 2), none] [o4, .lst (pPy ws), .lst (pPy ts)] _
  refine xs_set (e_tup (a_cons (e_var rfl (a_cons (e_cb (a_cons (e_var rfl (a_nil (c_tuple (isq_own (n := 2) rfl) (a_cons (e_tup (a_nil ⟨[], rfl, by decide, a_cons (e_cb (a_cons (e_var rfl (a_nil (c_tuple (isq_own (n := 1) rfl) (a_nil ⟨_, rfl, Nat.le_of_ble_eq_true rfl, ?_⟩))))))⟩))))))))))))
  refine x_ret (e_tup (a_cons (e_var rfl (a_cons (e_cb (a_cons (e_var rfl (a_nil (c_tuple (isq_own (n := 2) rfl) (a_cons (e_cb (a_cons (e_call1 0 (a_cons (e_var rfl (a_cons (e_var rfl (a_cons (e_var rfl (a_nil ⟨_, _, rfl, p4.free, rfl, o4, ks, us, ts, ws, rfl, rfl, p4, hB, hTs.pa, by omega, hwl, fun u hu => (hso u hu).2, fun o5 wt p5 hWt hwt => ⟨_, _, rfl, ?_⟩⟩))))))))))))))))))))
  rw [p5.shift1]
  refine a_nil (c_tuple (isq_own (n := 3) rfl) (a_cons (e_cb (a_cons (e_var rfl (a_nil (c_tuple (isq_own (n := 1) rfl) (a_nil ⟨_, rfl, Nat.le_of_ble_eq_true rfl, ?_⟩))))))))
  exact Res.dat (fun x hx => by cases hx with | head => exact p5.under | tail _ h => cases h) (z o5 ks ts wt ws p5 ⟨hB, hTs, by omega, hW, hWt, hwt⟩ ⟨r, hT⟩)
def S_is_name : Spec3 := fun ds g R => ∃ d, ds = [.f d] ∧ g = [] ∧ Usual d ∧ ShortS d ∧ R (.f (.bool (nameD d))) []
abbrev s_is_name : Stmt := top 6
theorem sc_is_name : FnScope ["thing", "sign"] ["thing"] (defScope s_is_name) := ⟨rfl, rfl, rfl, by decide +kernel, rfl, by decide +kernel, by decide +kernel⟩
set_option maxHeartbeats 4000000 in
theorem ok_is_name (T : Bi K mg) (Df : DefAt K mg "is_name" s_is_name ["thing"]) : Cal P w K mg base 1 "is_name" ["thing"] S_is_name := by
  refine ok4 Df sc_is_name (fun ds g R h0 => by obtain ⟨_, h, _⟩ := h0; rw [h]; rfl) (fun cdv A outer s H E f hr => ?_)
  have hu1 := hu_of hr.r
  have hu64 := hr.units
  have hu65 : (A.deeper (PyProof.Rows.envOfC "is_name" (defScope s_is_name) s.heap.objs.size f cdv)).units + 65 < cLine := by have := hr.un; omega
  refine ⟨_, (pss_cons (ps_if (PW.pt (pw_or (pt_not (pt_val (pe_callB (u_isi (K := K) rfl) (by rfl) T.b_isinstance (by decide +kernel) (pa_cons (pv 0) (pa_cons (pe_bltn (v := .ty "str") (u := .type "str") rfl T.b_str (by decide +kernel) rfl) pa_nil))))) (pw_or1 (pt_not (pt_chain op_le op_le pe_int (pe_callB (u_len (K := K) rfl) (by rfl) T.b_len (by decide +kernel) (pa_cons (pv 0) pa_nil)) (pe_gi rfl T.gc_MOST_LETTERS))))))
    (pss_one (ps_ret pe_bl))
    pss_nil)
    (pss_one (ps_ret (pe_callB (u_all (K := K) rfl rfl) (by rfl) T.b_all (by decide +kernel) (pa_cons (pe_lc (own := [("sign", 1)]) (by rfl) sc_is_name.nd (pi_str (pv 0)) (blkOk_by (own := [("sign", 1)]) (N := ["thing", "sign"]) (sc := defScope s_is_name) (by decide +kernel)) (fun _ _ _ _ _ => (pg_name (i := 1) sc_is_name.nd rfl (by first | exact Or.inl rfl | exact Or.inr rfl))) (fun _ _ _ _ _ => pts_nil) (fun _ _ _ _ _ => (pe_cmpR u_inSg (pv 1) (pe_gs rfl T.gc_LETTERS) (by rfl)))) pa_nil))))), fun ds g R hS => ?_⟩
  obtain ⟨d, rfl, rfl, hu, hv, z⟩ := hS
  have fin : Res 0 R (.f (.bool (nameD d))) [] := Res.dat (fun _ h => by cases h) z
  show ExS K _ [some _, none] _ _
  cases hs : isStrB d with
  | false =>
    have e : nameD d = false := by cases d <;> first | rfl | cases hs
    rw [e] at fin
    refine xs_gateC False ?_ fun h => h.elim
    exact t_or (t_not (t_B (e_isi (e_var rfl ⟨tyF d, false, hu.ty, by rw [kit_str, hs], false, rfl, iteNF (x_ret (e_bl fin))⟩))))
  | true =>
    obtain ⟨x, rfl⟩ : ∃ x, d = .str x := by cases d <;> first | exact ⟨_, rfl⟩ | cases hs
    have hx : x.length ≤ 100000 := hv x rfl
    have no : ¬ (1 ≤ x.length ∧ x.length ≤ 8) → nameD (.str x) = false := fun h => by
      show (decide _ && _) = false
      rw [decide_eq_false h]; rfl
    refine xs_gateC (1 ≤ x.length ∧ x.length ≤ 8) ?_ fun h18 => ?_
    · refine t_or (t_not (t_B (e_isi (e_var rfl ⟨"str", true, rfl, by decide +kernel, true, rfl, iteNT ?_⟩))))
      refine t_not (t_test (e_chain (e_int (e_cb (a_cons (e_var rfl (a_nil (c_lenS hx (o_I0b ⟨_, rfl, ?_⟩)))))))))
      refine d_both (fun c1 => ?_) (fun c1 => ?_)
      · refine e_int (o_I0b ⟨_, rfl, ?_⟩)
        refine nd_both (fun c2 => ?_) (fun c2 => ⟨rfl, by omega, by omega⟩)
        rw [no (by omega)] at fin
        exact x_ret (e_bl fin)
      · rw [no (by omega)] at fin
        exact ⟨_, rfl, x_ret (e_bl fin)⟩
    · refine x_ret (e_cb (a_cons (e_lcS letD (gg_name (by decide)) (e_var rfl ⟨x, rfl, by show x.length ≤ _; omega, fun c hc => ?_, ?_⟩))))
      · refine g_name (t_yes ?_)
        rw [if_pos rfl]
        exact e_op (e_var rfl (e_str (o_inSg ⟨_, rfl, rfl, rfl⟩)))
      · rw [letD_eq]
        refine a_nil (c_all (isl_own (n := 0) rfl) ?_)
        have e : ((x.cps.toList.map fun c => decide (c ∈ lets.cps.toList)).all id) = nameD (.str x) := by
          show _ = (decide (1 ≤ x.length ∧ x.length ≤ 8) && _)
          rw [decide_eq_true h18, Bool.true_and, List.all_map]
          rfl
        rw [e]
        exact Res.dat (fun _ h => by cases h) z
theorem usual_str (x : Str) : Usual (.str x) := fun _ _ h => by cases h
theorem kids_next {ks : Knots} {k : Str} {i : Nat} {p : Str × List Str} (hp : ks[i]? = some p) (h : ∀ q ∈ ks.take i, q.1 ≠ k) (hk : p.1 = k) : kids ks k = p.2 := by
  have e : ks = ks.take i ++ p :: ks.drop (i + 1) := by
    have hl := (List.getElem?_eq_some_iff.mp hp).1
    have := List.take_append_drop i ks
    rw [List.drop_eq_getElem_cons hl, (List.getElem?_eq_some_iff.mp hp).2] at this
    exact this.symm
  have h0 : (ks.take i).find? (fun p => decide (p.1 = k)) = none := List.find?_eq_none.mpr fun p hp => by simpa using h p hp
  unfold kids
  conv => lhs; rw [e]
  rw [List.find?_append, h0, Option.none_or, List.find?_cons, decide_eq_true hk]
  rfl
def S_children : Spec3 := fun ds g R => ∃ d ks ts wt ws k, ds = [.f d, .f (.str k)] ∧ g = [] ∧ HouseR d ks ts wt ws ∧ R (.own 0) [.lst (sPy (kids ks k))]
abbrev s_children : Stmt := top 18
theorem sc_children : FnScope ["house", "knot", "name", "some"] ["house", "knot"] (defScope s_children) := ⟨rfl, rfl, rfl, by decide +kernel, rfl, by decide +kernel, by decide +kernel⟩
set_option maxHeartbeats 4000000 in
theorem ok_children (T : Bi K mg) (Df : DefAt K mg "children" s_children ["house", "knot"]) : Cal P w K mg base 1 "children" ["house", "knot"] S_children := by
  refine ok4 Df sc_children (fun ds g R h0 => by obtain ⟨_, _, _, _, _, _, h, _⟩ := h0; rw [h]; rfl) (fun cdv A outer s H E f hr => ?_)
  have hu1 := hu_of hr.r
  have hu64 := hr.units
  have hu65 : (A.deeper (PyProof.Rows.envOfC "children" (defScope s_children) s.heap.objs.size f cdv)).units + 65 < cLine := by have := hr.un; omega
  refine ⟨_, (pss_cons (ps_for PassesOwn.never rfl (u_seq (K := K) rfl (pe_ix (u_ix (K := K) rfl hu1) (pv 0) pe_int (fun _ _ => rfl))) (u_tup (K := K) (n := 2) rfl (by rfl) (pgs_cons (pg_name (i := 2) sc_children.nd rfl (by first | exact Or.inl rfl | exact Or.inr rfl)) (pgs_cons (pg_name (i := 3) sc_children.nd rfl (by first | exact Or.inl rfl | exact Or.inr rfl)) pgs_nil)))
    (pss_one (ps_if (pt_cmpR (u_eq (K := K) rfl hu64) (pv 2) (pv 1) (nomark _))
    (pss_one (ps_ret (pe_callTy (u_list (K := K) rfl) (by rfl) T.b_list (by decide +kernel) (pa_cons (pv 3) pa_nil))))
    pss_nil)))
    (pss_one (ps_ret (pe_lst pa_nil)))), fun ds g R hS => ?_⟩
  obtain ⟨d, ks, ts, wt, ws, k, rfl, rfl, hH, z⟩ := hS
  obtain ⟨kd, xs, td, wd, sd, rfl, h1, h2, h3, h4, h5⟩ := hH.ex
  show ExS K _ [some _, some _, none, none] _ _
  refine xs_forTD (e_op (e_var rfl (e_int (o_ixQ isq_tup (atI_zero _ _) ⟨kd, xs, rfl, h1, fun i ρ' l' => ∃ a b, ρ' = [some (.f (.tuple [kd, td, wd, sd])), some (.f (.str k)), a, b] ∧ l' = [] ∧ ∀ p ∈ ks.take i, p.1 ≠ k, ⟨none, none, rfl, rfl, fun p hp => by simp at hp⟩, ?_, ?_⟩))))
  · rintro i d ρ' l' hd ⟨a, b, rfl, rfl, hA⟩
    obtain ⟨p, hp, y, rfl, hy⟩ := knotsD_get h2 hd
    refine g_tup rfl (g_cons (g_name (g_cons (g_name (g_nil ?_)))))
    refine x_if (t_test (e_op (e_var rfl (e_var rfl (o_eqS ⟨_, rfl, ?_⟩)))))
    refine d_both (fun c1 => ?_) (fun c1 => ?_)
    · rw [kids_next hp hA c1] at z
      refine x_ret (e_cb (a_cons (e_var rfl (a_nil (c_listTD hy ?_)))))
      exact Res.own (n := 0) rfl trivial nofun (Nat.zero_le _) (fun _ h => by cases h) z
    · refine x_next ⟨_, _, rfl, rfl, fun q hq => ?_⟩
      rw [L3.take_next hp] at hq
      rcases List.mem_append.mp hq with h | h
      · exact hA q h
      · cases List.mem_singleton.mp h; exact c1
  · rintro ρ' l' ⟨a, b, rfl, rfl, hA⟩
    rw [h2.length, List.take_length] at hA
    have e : kids ks k = [] := by
      unfold kids
      rw [List.find?_eq_none.mpr fun p hp => by simpa using hA p hp]
      rfl
    rw [e] at z
    refine x_ret (e_lst (a_nil ⟨[], rfl, by decide, ?_⟩))
    exact Res.own (n := 0) rfl trivial nofun (Nat.zero_le _) (fun _ h => by cases h) z
/-- not too great -/
def HouseS (ks : Knots) (ts wt ws : Ties) : Prop := ks.length ≤ 100 ∧ (unitsF ks).length ≤ 100 ∧ ts.length ≤ 400 ∧ wt.length ≤ 400 ∧ ws.length ≤ 400
def S_units_of : Spec3 := fun ds g R => ∃ d ks ts wt ws, ds = [.f d] ∧ g = [] ∧ HouseR d ks ts wt ws ∧ HouseS ks ts wt ws ∧ R (.own 0) [.lst (sPy (unitsF ks))]
theorem unitsF_take {ks : Knots} {i : Nat} {p : Str × List Str} (hp : ks[i]? = some p) : unitsF (ks.take (i + 1)) = unitsF (ks.take i) ++ p.2 := by
  unfold unitsF
  rw [L3.take_next hp, List.flatMap_append]
  simp
theorem unitsF_le (ks : Knots) (i : Nat) : (unitsF (ks.take i)).length ≤ (unitsF ks).length := by
  have e : unitsF ks = unitsF (ks.take i) ++ unitsF (ks.drop i) := by
    unfold unitsF
    rw [← List.flatMap_append, List.take_append_drop]
  rw [e, List.length_append]
  omega
abbrev s_units_of : Stmt := top 19
theorem sc_units_of : FnScope ["house", "found", "name", "some"] ["house"] (defScope s_units_of) := ⟨rfl, rfl, rfl, by decide +kernel, rfl, by decide +kernel, by decide +kernel⟩
set_option maxHeartbeats 4000000 in
theorem ok_units_of (T : Bi K mg) (Df : DefAt K mg "units_of" s_units_of ["house"]) : Cal P w K mg base 1 "units_of" ["house"] S_units_of := by
  refine ok4 Df sc_units_of (fun ds g R h0 => by obtain ⟨_, _, _, _, _, h, _⟩ := h0; rw [h]; rfl) (fun cdv A outer s H E f hr => ?_)
  have hu1 := hu_of hr.r
  have hu64 := hr.units
  have hu65 : (A.deeper (PyProof.Rows.envOfC "units_of" (defScope s_units_of) s.heap.objs.size f cdv)).units + 65 < cLine := by have := hr.un; omega
  refine ⟨_, (pss_cons (ps_set (i := 1) sc_units_of.nd rfl (by first | exact Or.inl rfl | exact Or.inr rfl) (pe_lst pa_nil))
    (pss_cons (ps_for PassesOwn.never rfl (u_seq (K := K) rfl (pe_ix (u_ix (K := K) rfl hu1) (pv 0) pe_int (fun _ _ => rfl))) (u_tup (K := K) (n := 2) rfl (by rfl) (pgs_cons (pg_name (i := 2) sc_units_of.nd rfl (by first | exact Or.inl rfl | exact Or.inr rfl)) (pgs_cons (pg_name (i := 3) sc_units_of.nd rfl (by first | exact Or.inl rfl | exact Or.inr rfl)) pgs_nil)))
    (pss_one (ps_expr (u_bm (K := K) rfl PySem.F.plainAttrs_list PySem.F.slot_list_extend PySem.F.type_list_extend (u_extendT (K := K) rfl) (pv 1) (pa_cons (pv 3) pa_nil)))))
    (pss_one (ps_ret (pv 1))))), fun ds g R hS => ?_⟩
  obtain ⟨d, ks, ts, wt, ws, rfl, rfl, hH, hs, z⟩ := hS
  obtain ⟨kd, xs, td, wd, sd, rfl, h1, h2, h3, h4, h5⟩ := hH.ex
  show ExS K _ [some _, none, none, none] _ _
  refine xs_set (e_lst (a_nil ⟨[], rfl, by decide, ?_⟩))
  refine xs_forTD (e_op (e_var rfl (e_int (o_ixQ isq_tup (atI_zero _ _) ⟨kd, xs, rfl, h1, fun i ρ' l' => ∃ a b, ρ' = [some (.f (.tuple [kd, td, wd, sd])), some (.own 0), a, b] ∧ l' = [.lst (sPy (unitsF (ks.take i)))], ⟨none, none, rfl, rfl⟩, ?_, ?_⟩))))
  · rintro i d ρ' l' hd ⟨a, b, rfl, rfl⟩
    obtain ⟨p, hp, y, rfl, hy⟩ := knotsD_get h2 hd
    have hu := unitsF_le ks (i + 1)
    rw [unitsF_take hp, List.length_append] at hu
    refine g_tup rfl (g_cons (g_name (g_cons (g_name (g_nil ?_)))))
    refine x_drop (e_bmL (e_var rfl ⟨⟨_, isl_own (n := 0) rfl⟩, a_cons (e_var rfl (a_nil (m_extendTD hy (n := 0) rfl (by rw [sPy_len, sPy_len]; have := hs.2.1; omega) ?_)))⟩))
    refine ⟨_, _, rfl, ?_⟩
    rw [unitsF_take hp, sPy_app]
    rfl
  · rintro ρ' l' ⟨a, b, rfl, rfl⟩
    rw [h2.length, List.take_length]
    exact x_ret (e_var rfl (Res.own (n := 0) rfl trivial nofun (Nat.zero_le _) (fun _ h => by cases h) z))
def S_groups_of : Spec3 := fun ds g R => ∃ d ks ts wt ws, ds = [.f d] ∧ g = [] ∧ HouseR d ks ts wt ws ∧ HouseS ks ts wt ws ∧ R (.own 0) [.lst (sPy (groupsF ks))]
def nameF : PyData → Option PyData
  | .tuple [.str k, _] => some (.str k)
  | _ => none
theorem nameF_eq {xs : List PyData} {ks : Knots} (h : Paired KnotD xs ks) : xs.filterMap nameF = sPy (ks.map (·.1)) := by
  induction h with
  | nil => rfl
  | @cons x k xs ks h t ih =>
    obtain ⟨y, rfl, hy⟩ := h
    rw [List.filterMap_cons, ih]
    rfl
theorem knotsD_tail {xs : List PyData} {ks : Knots} (h : Paired KnotD xs ks) : Paired KnotD xs.tail ks.tail := by
  cases h with
  | nil => exact .nil
  | cons h t => exact t
abbrev s_groups_of : Stmt := top 20
theorem sc_groups_of : FnScope ["house", "name", "some"] ["house"] (defScope s_groups_of) := ⟨rfl, rfl, rfl, by decide +kernel, rfl, by decide +kernel, by decide +kernel⟩
set_option maxHeartbeats 4000000 in
theorem ok_groups_of (T : Bi K mg) (Df : DefAt K mg "groups_of" s_groups_of ["house"]) : Cal P w K mg base 1 "groups_of" ["house"] S_groups_of := by
  refine ok4 Df sc_groups_of (fun ds g R h0 => by obtain ⟨_, _, _, _, _, h, _⟩ := h0; rw [h]; rfl) (fun cdv A outer s H E f hr => ?_)
  have hu1 := hu_of hr.r
  have hu64 := hr.units
  have hu65 : (A.deeper (PyProof.Rows.envOfC "groups_of" (defScope s_groups_of) s.heap.objs.size f cdv)).units + 65 < cLine := by have := hr.un; omega
  refine ⟨_, (pss_one (ps_ret (pe_lc (own := [("name", 1), ("some", 2)]) (by rfl) sc_groups_of.nd (u_seq (K := K) rfl (pe_slice (u_slA (K := K) rfl) (pe_ix (u_ix (K := K) rfl hu1) (pv 0) pe_int (fun _ _ => rfl)) (po_some pe_int) po_none)) (blkOk_by (own := [("name", 1), ("some", 2)]) (N := ["house", "name", "some"]) (sc := defScope s_groups_of) (by decide +kernel)) (fun _ _ _ _ _ => (u_tup (K := K) (n := 2) rfl (by rfl) (pgs_cons (pg_name (i := 1) sc_groups_of.nd rfl (by first | exact Or.inl rfl | exact Or.inr rfl)) (pgs_cons (pg_name (i := 2) sc_groups_of.nd rfl (by first | exact Or.inl rfl | exact Or.inr rfl)) pgs_nil)))) (fun _ _ _ _ _ => pts_nil) (fun _ _ _ _ _ => (pv 1))))), fun ds g R hS => ?_⟩
  obtain ⟨d, ks, ts, wt, ws, rfl, rfl, hH, hs, z⟩ := hS
  obtain ⟨kd, xs, td, wd, sd, rfl, h1, h2, h3, h4, h5⟩ := hH.ex
  show ExS K _ [some _, none, none] _ _
  have hxl := h2.length
  have hkl := hs.1
  refine x_ret (e_lcTF nameF (gg_tup (gg_cons (gg_name (by decide)) (gg_cons (gg_name (by decide)) gg_nil mono_name) mono_name)) (e_sl (e_op (e_var rfl (e_int (o_ixQ isq_tup (atI_zero _ _) (o_some (e_int ⟨1, rfl, o_none (s_TD h1 fun y hy => ?_)⟩))))))))
  rw [cut_tail] at hy
  refine ⟨y, xs.tail, rfl, hy, by rw [List.length_tail]; omega, fun d hd => ?_, ?_⟩
  · obtain ⟨i, hi⟩ := List.getElem?_of_mem hd
    obtain ⟨k, hk, w, rfl, hw⟩ := knotsD_get (knotsD_tail h2) hi
    refine g_tup rfl (g_cons (g_name (g_cons (g_name (g_nil (t_yes ?_))))))
    rw [if_pos rfl]
    exact e_var rfl ⟨_, rfl, rfl, rfl⟩
  · rw [nameF_eq (knotsD_tail h2)]
    exact Res.own (n := 0) rfl trivial nofun (Nat.zero_le _) (fun _ h => by cases h) z
theorem knotOf_next {ks : Knots} {u : Str} {i : Nat} {k : Str × List Str} (hk : ks[i]? = some k) (h : ∀ p ∈ ks.take i, ¬ u ∈ p.2) (hu : u ∈ k.2) : L3.knotOf ks u = some k.1 := by
  have e : ks = ks.take i ++ k :: ks.drop (i + 1) := by
    have hl := (List.getElem?_eq_some_iff.mp hk).1
    have := List.take_append_drop i ks
    rw [List.drop_eq_getElem_cons hl, (List.getElem?_eq_some_iff.mp hk).2] at this
    exact this.symm
  have h0 : (ks.take i).find? (fun p => decide (u ∈ p.2)) = none := List.find?_eq_none.mpr fun p hp => by simpa using h p hp
  unfold L3.knotOf
  conv => lhs; rw [e]
  rw [List.find?_append, h0, Option.none_or, List.find?_cons, decide_eq_true hu]
  rfl
def S_knot_of : Spec3 := fun ds g R => ∃ d ks ts wt ws u, ds = [.f d, .f (.str u)] ∧ g = [] ∧ HouseR d ks ts wt ws ∧ R (.f (fromD (L3.knotOf ks u))) []
abbrev s_knot_of : Stmt := top 21
theorem sc_knot_of : FnScope ["house", "one", "name", "some"] ["house", "one"] (defScope s_knot_of) := ⟨rfl, rfl, rfl, by decide +kernel, rfl, by decide +kernel, by decide +kernel⟩
set_option maxHeartbeats 4000000 in
theorem ok_knot_of (T : Bi K mg) (Df : DefAt K mg "knot_of" s_knot_of ["house", "one"]) : Cal P w K mg base 1 "knot_of" ["house", "one"] S_knot_of := by
  refine ok4 Df sc_knot_of (fun ds g R h0 => by obtain ⟨_, _, _, _, _, _, h, _⟩ := h0; rw [h]; rfl) (fun cdv A outer s H E f hr => ?_)
  have hu1 := hu_of hr.r
  have hu64 := hr.units
  have hu65 : (A.deeper (PyProof.Rows.envOfC "knot_of" (defScope s_knot_of) s.heap.objs.size f cdv)).units + 65 < cLine := by have := hr.un; omega
  refine ⟨_, (pss_cons (ps_for PassesOwn.never rfl (u_seq (K := K) rfl (pe_ix (u_ix (K := K) rfl hu1) (pv 0) pe_int (fun _ _ => rfl))) (u_tup (K := K) (n := 2) rfl (by rfl) (pgs_cons (pg_name (i := 2) sc_knot_of.nd rfl (by first | exact Or.inl rfl | exact Or.inr rfl)) (pgs_cons (pg_name (i := 3) sc_knot_of.nd rfl (by first | exact Or.inl rfl | exact Or.inr rfl)) pgs_nil)))
    (pss_one (ps_if (pt_cmpR (u_in (K := K) rfl hu65) (pv 1) (pv 3) (by rfl))
    (pss_one (ps_ret (pv 2)))
    pss_nil)))
    (pss_one (ps_ret pe_non))), fun ds g R hS => ?_⟩
  obtain ⟨d, ks, ts, wt, ws, u, rfl, rfl, hH, z⟩ := hS
  obtain ⟨kd, xs, td, wd, sd, rfl, h1, h2, h3, h4, h5⟩ := hH.ex
  show ExS K _ [some _, some _, none, none] _ _
  refine xs_forTD (e_op (e_var rfl (e_int (o_ixQ isq_tup (atI_zero _ _) ⟨kd, xs, rfl, h1, fun i ρ' l' => ∃ a b, ρ' = [some (.f (.tuple [kd, td, wd, sd])), some (.f (.str u)), a, b] ∧ l' = [] ∧ ∀ p ∈ ks.take i, ¬ u ∈ p.2, ⟨none, none, rfl, rfl, fun p hp => by simp at hp⟩, ?_, ?_⟩))))
  · rintro i d ρ' l' hd ⟨a, b, rfl, rfl, hA⟩
    obtain ⟨k, hk, y, rfl, hy⟩ := knotsD_get h2 hd
    refine g_tup rfl (g_cons (g_name (g_cons (g_name (g_nil ?_)))))
    refine x_if (t_test (e_op (e_var rfl (e_var rfl (o_inTS hy ⟨_, rfl, ?_⟩)))))
    refine d_both (c := u ∈ k.2) (fun c1 => ?_) (fun c1 => ?_)
    · rw [knotOf_next hk hA c1] at z
      exact x_ret (e_var rfl (Res.dat (fun _ h => by cases h) z))
    · refine x_next ⟨_, _, rfl, rfl, fun p hp => ?_⟩
      rw [L3.take_next hk] at hp
      rcases List.mem_append.mp hp with h | h
      · exact hA p h
      · cases List.mem_singleton.mp h; exact c1
  · rintro ρ' l' ⟨a, b, rfl, rfl, hA⟩
    rw [h2.length, List.take_length] at hA
    have e : L3.knotOf ks u = none := by
      unfold L3.knotOf
      rw [List.find?_eq_none.mpr fun p hp => by simpa using hA p hp]
      rfl
    rw [e] at z
    exact x_ret (e_non (Res.dat (fun _ h => by cases h) z))
def S_chain : Spec3 := fun ds g R => ∃ d ks ts wt ws us u, ds = [.f d, .f (.str u)] ∧ g = [] ∧ HouseR d ks ts wt ws ∧ TreeB ks us ∧ u ∈ us ∧ R (.own 0) [.lst (sPy (pathOf ks u).tail)]
abbrev s_chain : Stmt := top 22
theorem sc_chain : FnScope ["house", "one", "found", "knot"] ["house", "one"] (defScope s_chain) := ⟨rfl, rfl, rfl, by decide +kernel, rfl, by decide +kernel, by decide +kernel⟩
set_option maxHeartbeats 4000000 in
theorem ok_chain (T : Bi K mg) (Df : DefAt K mg "chain" s_chain ["house", "one"]) (C_knot_of : Cal P w K mg base 1 "knot_of" ["house", "one"] S_knot_of) : Cal P w K mg base 2 "chain" ["house", "one"] S_chain := by
  refine ok4 Df sc_chain (fun ds g R h0 => by obtain ⟨_, _, _, _, _, _, _, h, _⟩ := h0; rw [h]; rfl) (fun cdv A outer s H E f hr => ?_)
  have hu1 := hu_of hr.r
  have hu64 := hr.units
  have hu65 : (A.deeper (PyProof.Rows.envOfC "chain" (defScope s_chain) s.heap.objs.size f cdv)).units + 65 < cLine := by have := hr.un; omega
  refine ⟨_, (pss_cons (ps_set (i := 2) sc_chain.nd rfl (by first | exact Or.inl rfl | exact Or.inr rfl) (pe_lst (pa_cons (pv 1) pa_nil)))
    (pss_cons (ps_set (i := 3) sc_chain.nd rfl (by first | exact Or.inl rfl | exact Or.inr rfl) (pe_cal (K := K) rfl C_knot_of (hr.mono (by decide)) (by rfl) (pa_cons (pv 0) (pa_cons (pv 1) pa_nil))))
    (pss_cons (ps_while PassesOwn.never (pt_cmpR (u_ne (K := K) rfl hu64) (pv 3) (pe_gs rfl T.gc_TOP) (nomark _))
    (pss_cons (ps_expr (u_bm (K := K) rfl PySem.F.plainAttrs_list PySem.F.slot_list_insert PySem.F.type_list_insert u_insert (pv 2) (pa_cons pe_int (pa_cons (pv 3) pa_nil))))
    (pss_one (ps_set (i := 3) sc_chain.nd rfl (by first | exact Or.inl rfl | exact Or.inr rfl) (pe_cal (K := K) rfl C_knot_of (hr.mono (by decide)) (by rfl) (pa_cons (pv 0) (pa_cons (pv 3) pa_nil)))))))
    (pss_one (ps_ret (pv 2)))))), fun ds g R hS => ?_⟩
  obtain ⟨d, ks, ts, wt, ws, us, u, rfl, rfl, hH, hB, hu, z⟩ := hS
  show ExS K _ [some _, some _, none, none] _ _
  obtain ⟨hup, hpl⟩ := hB.up hu
  refine xs_set (e_lst (a_cons (e_var rfl (a_nil ⟨[.str u], rfl, Nat.le_of_ble_eq_true rfl, ?_⟩))))
  refine xs_set (e_call0 (a_cons (e_var rfl (a_cons (e_var rfl (a_nil ⟨trivial, d, ks, ts, wt, ws, u, rfl, rfl, hH, ?_⟩))))))
  obtain ⟨p0, k0, ep, hk0⟩ : ∃ p0 k0, pathOf ks u = p0 ++ [u] ∧ L3.knotOf ks u = some k0 ∧ Up ks k0 p0 := by
    have hB' := hB
    obtain ⟨_, _, T, _⟩ := hB'
    generalize pathOf ks u = pp at hup
    cases hup with
    | top => exact absurd rfl (T.nt _ hu)
    | @step _ k q h1 h2 h3 => exact ⟨q, k, rfl, T.knotOf.mpr h2, h3⟩
  rw [hk0.1]
  refine xs_while (fun ρ' l' => ∃ k q s, ρ' = [some (.f d), some (.f (.str u)), some (.own 0), some (.f (.str k))] ∧ l' = [.lst (sPy s)] ∧ Up ks k q ∧ pathOf ks u = q ++ s) (fun _ l' => (pathOf ks u).length - lenI l' 0) ⟨k0, p0, [u], rfl, rfl, hk0.2, ep⟩ ?_
  rintro ρ' l' ⟨k, q, s, rfl, rfl, hq, hps⟩
  refine t_test (e_op (e_var rfl (e_str (o_neS ⟨_, rfl, ?_⟩))))
  refine nd_both (fun c1 => ?_) (fun c1 => ?_)
  · cases hq with
    | top => exact absurd rfl c1
    | @step _ k2 q' h1 h2 h3 =>
      obtain ⟨q2, eq2⟩ := h3.ne
      have hlen : (pathOf ks u).length = q'.length + 1 + s.length := by rw [hps]; simp; omega
      have hq2 : 1 ≤ q'.length := by rw [eq2]; simp
      have hkk : L3.knotOf ks k = some k2 := by obtain ⟨_, _, T, _⟩ := hB; exact T.knotOf.mpr h2
      refine xs_drop (e_bmL (e_var rfl ⟨⟨_, isl_own (n := 0) rfl⟩, a_cons (e_int (a_cons (e_var rfl (a_nil (m_insert (n := 0) rfl (by rw [sPy_len]; omega) (by decide) (by decide) ?_)))))⟩))
      refine x_set (e_call0 (a_cons (e_var rfl (a_cons (e_var rfl (a_nil ⟨trivial, d, ks, ts, wt, ws, k, rfl, rfl, hH, ?_⟩))))))
      rw [hkk]
      refine ⟨⟨k2, q', k :: s, rfl, rfl, h3, by rw [hps]; simp⟩, ?_⟩
      show (pathOf ks u).length - (sPy (k :: s)).length < (pathOf ks u).length - (sPy s).length
      rw [sPy_len, sPy_len]
      simp only [List.length_cons]
      omega
  · have c1 : k = nil0 := c1
    subst c1
    cases hq with
    | step h1 _ _ => exact absurd rfl h1
    | top =>
      rw [hps] at z
      exact x_ret (e_var rfl (Res.own (n := 0) rfl trivial nofun (Nat.zero_le _) (fun _ h => by cases h) z))
def S_parting : Spec3 := fun ds g R => ∃ d ks ts wt ws us u v, ds = [.f d, .f (.str u), .f (.str v)] ∧ g = [] ∧ HouseR d ks ts wt ws ∧ TreeB ks us ∧ u ∈ us ∧ v ∈ us ∧ R (.f (partD (partF ks u v))) []
abbrev s_parting : Stmt := top 23
theorem sc_parting : FnScope ["house", "one", "other", "here", "there", "knot", "at"] ["house", "one", "other"] (defScope s_parting) := ⟨rfl, rfl, rfl, by decide +kernel, rfl, by decide +kernel, by decide +kernel⟩
set_option maxHeartbeats 4000000 in
theorem ok_parting (T : Bi K mg) (Df : DefAt K mg "parting" s_parting ["house", "one", "other"]) (C_chain : Cal P w K mg base 2 "chain" ["house", "one"] S_chain) : Cal P w K mg base 3 "parting" ["house", "one", "other"] S_parting := by
  refine ok4 Df sc_parting (fun ds g R h0 => by obtain ⟨_, _, _, _, _, _, _, _, h, _⟩ := h0; rw [h]; rfl) (fun cdv A outer s H E f hr => ?_)
  have hu1 := hu_of hr.r
  have hu64 := hr.units
  have hu65 : (A.deeper (PyProof.Rows.envOfC "parting" (defScope s_parting) s.heap.objs.size f cdv)).units + 65 < cLine := by have := hr.un; omega
  refine ⟨_, (pss_cons (ps_set (i := 3) sc_parting.nd rfl (by first | exact Or.inl rfl | exact Or.inr rfl) (pe_cal (K := K) rfl C_chain (hr.mono (by decide)) (by rfl) (pa_cons (pv 0) (pa_cons (pv 1) pa_nil))))
    (pss_cons (ps_set (i := 4) sc_parting.nd rfl (by first | exact Or.inl rfl | exact Or.inr rfl) (pe_cal (K := K) rfl C_chain (hr.mono (by decide)) (by rfl) (pa_cons (pv 0) (pa_cons (pv 2) pa_nil))))
    (pss_cons (ps_set (i := 5) sc_parting.nd rfl (by first | exact Or.inl rfl | exact Or.inr rfl) (pe_gs rfl T.gc_TOP))
    (pss_cons (ps_set (i := 6) sc_parting.nd rfl (by first | exact Or.inl rfl | exact Or.inr rfl) pe_int)
    (pss_cons (ps_while PassesOwn.never (PW.pt (pw_and (pt_cmpR op_lt (pv 6) (pe_callB (u_min2 rfl) (by rfl) T.b_min (by decide +kernel) (pa_cons (pe_callB (u_len (K := K) rfl) (by rfl) T.b_len (by decide +kernel) (pa_cons (pv 3) pa_nil)) (pa_cons (pe_callB (u_len (K := K) rfl) (by rfl) T.b_len (by decide +kernel) (pa_cons (pv 4) pa_nil)) pa_nil))) (nomark _)) (pw_and1 (pt_cmpR (u_eq (K := K) rfl hu64) (pe_ix (u_ix (K := K) rfl hu1) (pv 3) (pv 6) (fun _ _ => rfl)) (pe_ix (u_ix (K := K) rfl hu1) (pv 4) (pv 6) (fun _ _ => rfl)) (nomark _)))))
    (pss_cons (ps_set (i := 5) sc_parting.nd rfl (by first | exact Or.inl rfl | exact Or.inr rfl) (pe_ix (u_ix (K := K) rfl hu1) (pv 3) (pv 6) (fun _ _ => rfl)))
    (pss_one (ps_set (i := 6) sc_parting.nd rfl (by first | exact Or.inl rfl | exact Or.inr rfl) (pe_op (u_add (K := K) rfl) (pv 6) pe_int)))))
    (pss_cons (ps_if (pt_cmpR (u_eq (K := K) rfl hu64) (pv 6) (pe_callB (u_min2 rfl) (by rfl) T.b_min (by decide +kernel) (pa_cons (pe_callB (u_len (K := K) rfl) (by rfl) T.b_len (by decide +kernel) (pa_cons (pv 3) pa_nil)) (pa_cons (pe_callB (u_len (K := K) rfl) (by rfl) T.b_len (by decide +kernel) (pa_cons (pv 4) pa_nil)) pa_nil))) (nomark _))
    (pss_one (ps_ret pe_non))
    pss_nil)
    (pss_one (ps_ret (pe_tup (pa_cons (pv 5) (pa_cons (pe_ix (u_ix (K := K) rfl hu1) (pv 3) (pv 6) (fun _ _ => rfl)) (pa_cons (pe_ix (u_ix (K := K) rfl hu1) (pv 4) (pv 6) (fun _ _ => rfl)) pa_nil)))))))))))), fun ds g R hS => ?_⟩
  obtain ⟨d, ks, ts, wt, ws, us, u, v, rfl, rfl, hH, hB, hu, hv, z⟩ := hS
  show ExS K _ [some _, some _, some _, none, none, none, none] _ _
  obtain ⟨hup, hpl⟩ := hB.up hu
  obtain ⟨hvp, hql⟩ := hB.up hv
  refine xs_set (e_call0 (a_cons (e_var rfl (a_cons (e_var rfl (a_nil ⟨trivial, d, ks, ts, wt, ws, us, u, rfl, rfl, hH, hB, hu, ?_⟩))))))
  refine xs_set (e_call0 (a_cons (e_var rfl (a_cons (e_var rfl (a_nil ⟨trivial, d, ks, ts, wt, ws, us, v, rfl, rfl, hH, hB, hv, ?_⟩))))))
  refine xs_set (e_str ?_)
  refine xs_set (e_int ?_)
  unfold partF at z
  obtain ⟨p, ep⟩ := hup.ne
  obtain ⟨q, eq⟩ := hvp.ne
  rw [ep] at hpl ⊢ z
  rw [eq] at hql ⊢ z
  show ExS K _ [some (.f d), some (.f (.str u)), some (.f (.str v)), some (.own 0), some (.own 1), some (.f (.str nil0)), some (.f (.int 0))] [.lst (sPy p), .lst (sPy q)] _
  have hpar : partP (nil0 :: p) (nil0 :: q) = if common p q = min p.length q.length then none else some ((nil0 :: p).getD (common p q) nil0, p.getD (common p q) nil0, q.getD (common p q) nil0) := by
    unfold partP
    simp only [common, if_pos, List.length_cons]
    by_cases e : common p q = min p.length q.length
    · rw [if_pos e, if_pos (by omega)]
    · rw [if_neg e, if_neg (by omega)]
      rfl
  rw [hpar] at z
  have hle := common_le p q
  refine xs_while (fun ρ' l' => ∃ n : Nat, ρ' = [some (.f d), some (.f (.str u)), some (.f (.str v)), some (.own 0), some (.own 1), some (.f (.str ((nil0 :: p).getD n nil0))), some (.f (.int n))] ∧ l' = [.lst (sPy p), .lst (sPy q)] ∧ n ≤ common p q) (fun ρ' _ => p.length - slotI ρ' 6) ⟨0, rfl, rfl, Nat.zero_le _⟩ ?_
  rintro ρ' l' ⟨n, rfl, rfl, hn⟩
  have hmin : ∀ {R : D → List O → Prop} {ρ : List (Option D)}, ρ[3]? = some (some (.own 0)) → ρ[4]? = some (some (.own 1)) → R (.f (.int ((min p.length q.length : Nat) : Int))) [.lst (sPy p), .lst (sPy q)] →
      EvS K (tCB rMin2 (tCons (tCB (rLenU K) (tCons (tVar 3) tNil)) (tCons (tCB (rLenU K) (tCons (tVar 4) tNil)) tNil))) ρ [.lst (sPy p), .lst (sPy q)] R := by
    intro R ρ h1 h2 z
    refine e_cb (a_cons (e_cb (a_cons (e_var h1 (a_nil (c_lenQ (isq_own (n := 0) rfl) ?_))))))
    refine a_cons (e_cb (a_cons (e_var h2 (a_nil (c_lenQ (isq_own (n := 1) rfl) (a_nil (c_min2 ?_)))))))
    rw [sPy_len, sPy_len]
    have e : (if ((q.length : Nat) : Int) < ((p.length : Nat) : Int) then ((q.length : Nat) : Int) else ((p.length : Nat) : Int)) = ((min p.length q.length : Nat) : Int) := by split <;> omega
    rw [e]
    exact z
  have hat : ∀ {xs : List Str} {n : Nat}, n < xs.length → atI (sPy xs) (n : Int) = some (.str (xs.getD n nil0)) := fun {xs n} h => atI_nat (sPy_get_of (by rw [List.getD_eq_getElem?_getD, List.getElem?_eq_getElem h]; rfl))
  have same : ∀ {n : Nat}, n < p.length → n < q.length → (p.getD n nil0 = q.getD n nil0 ↔ p[n]? = q[n]?) := fun {n} h1 h2 => by
    rw [List.getD_eq_getElem?_getD, List.getD_eq_getElem?_getD, List.getElem?_eq_getElem h1, List.getElem?_eq_getElem h2]
    simp
  refine EvT.imp (R := fun b l1 => l1 = [.lst (sPy p), .lst (sPy q)] ∧ if b = true then n < common p q else n = common p q) ?_ ?_
  · refine t_and (t_test (e_op (e_var rfl (hmin rfl rfl (o_I0b ⟨_, rfl, ?_⟩)))))
    refine d_both (fun c1 => ?_) (fun c1 => ⟨rfl, ?_⟩)
    · have h1 : n < p.length := by omega
      have h2 : n < q.length := by omega
      refine t_test (e_op (e_op (e_var rfl (e_var rfl (o_ixQ (isq_own (n := 0) rfl) (hat h1) ?_)))))
      refine e_op (e_var rfl (e_var rfl (o_ixQ (isq_own (n := 1) rfl) (hat h2) (o_eqS ⟨_, rfl, ?_⟩))))
      have hs := same h1 h2
      by_cases c2 : p.getD n nil0 = q.getD n nil0
      · rw [decide_eq_true c2]
        refine ⟨rfl, ?_⟩
        show n < common p q
        rcases Nat.lt_or_ge n (common p q) with h | h
        · exact h
        · have e : n = common p q := Nat.le_antisymm hn h
          have := common_end (xs := p) (ys := q) (by omega)
          rw [← e] at this
          exact absurd (hs.mp c2) this
      · rw [decide_eq_false c2]
        refine ⟨rfl, ?_⟩
        show n = common p q
        rcases Nat.lt_or_ge n (common p q) with h | h
        · exact absurd (hs.mpr (common_at h)) c2
        · exact Nat.le_antisymm hn h
    · show n = common p q
      omega
  rintro b l1 ⟨rfl, hb⟩
  cases b with
  | true =>
    have hb : n < common p q := hb
    refine xs_set (e_op (e_var rfl (e_var rfl (o_ixQ (isq_own (n := 0) rfl) (hat (by omega)) ?_))))
    refine x_set (e_op (e_var rfl (e_int (o_addI ?_))))
    refine ⟨⟨n + 1, rfl, rfl, hb⟩, ?_⟩
    show p.length - ((n : Int) + 1).toNat < p.length - ((n : Int)).toNat
    omega
  | false =>
    have hb : n = common p q := hb
    show ExS K _ _ _ _
    refine xs_gateC (¬ common p q = min p.length q.length) ?_ ?_
    · refine t_test (e_op (e_var rfl (hmin rfl rfl (o_eqI ⟨_, rfl, ?_⟩))))
      refine d_both (fun c1 => ?_) (fun c1 => ⟨rfl, fun e => c1 (by rw [hb, e])⟩)
      rw [if_pos (by omega)] at z
      exact x_ret (e_non (Res.dat (fun x hx => by cases hx) z))
    intro hne
    rw [if_neg hne, ← hb] at z
    refine x_ret (e_tup (a_cons (e_var rfl (a_cons (e_op (e_var rfl (e_var rfl (o_ixQ (isq_own (n := 0) rfl) (hat (by omega)) ?_))))))))
    refine a_cons (e_op (e_var rfl (e_var rfl (o_ixQ (isq_own (n := 1) rfl) (hat (by omega)) (a_nil ⟨_, rfl, Nat.le_of_ble_eq_true rfl, Res.dat (fun x hx => by cases hx) z⟩)))))
def S_tie_pairs : Spec3 := fun ds g R => ∃ d ks ts wt ws us k, ds = [.f d, .f (.str k)] ∧ g = [] ∧ HouseR d ks ts wt ws ∧ TreeB ks us ∧ Parted ks us ts ∧ ts.length ≤ 400 ∧ R (.own 0) [.lst (pPy (tieE ks k ts))]
theorem atI_one {α : Type} (x y : α) (r : List α) : atI (x :: y :: r) 1 = some y := by
  unfold atI ixN
  rw [if_pos (by decide), if_pos (by simp only [List.length_cons]; omega)]
  rfl
abbrev s_tie_pairs : Stmt := top 25
theorem sc_tie_pairs : FnScope ["house", "knot", "found", "one", "other", "told"] ["house", "knot"] (defScope s_tie_pairs) := ⟨rfl, rfl, rfl, by decide +kernel, rfl, by decide +kernel, by decide +kernel⟩
set_option maxHeartbeats 4000000 in
theorem ok_tie_pairs (T : Bi K mg) (Df : DefAt K mg "tie_pairs" s_tie_pairs ["house", "knot"]) (C_parting : Cal P w K mg base 3 "parting" ["house", "one", "other"] S_parting) : Cal P w K mg base 4 "tie_pairs" ["house", "knot"] S_tie_pairs := by
  refine ok4 Df sc_tie_pairs (fun ds g R h0 => by obtain ⟨_, _, _, _, _, _, _, h, _⟩ := h0; rw [h]; rfl) (fun cdv A outer s H E f hr => ?_)
  have hu1 := hu_of hr.r
  have hu64 := hr.units
  have hu65 : (A.deeper (PyProof.Rows.envOfC "tie_pairs" (defScope s_tie_pairs) s.heap.objs.size f cdv)).units + 65 < cLine := by have := hr.un; omega
  refine ⟨_, (pss_cons (ps_set (i := 2) sc_tie_pairs.nd rfl (by first | exact Or.inl rfl | exact Or.inr rfl) (pe_lst pa_nil))
    (pss_cons (ps_for PassesOwn.never rfl (u_seq (K := K) rfl (pe_ix (u_ix (K := K) rfl hu1) (pv 0) pe_int (fun _ _ => rfl))) (u_tup (K := K) (n := 2) rfl (by rfl) (pgs_cons (pg_name (i := 3) sc_tie_pairs.nd rfl (by first | exact Or.inl rfl | exact Or.inr rfl)) (pgs_cons (pg_name (i := 4) sc_tie_pairs.nd rfl (by first | exact Or.inl rfl | exact Or.inr rfl)) pgs_nil)))
    (pss_cons (ps_set (i := 5) sc_tie_pairs.nd rfl (by first | exact Or.inl rfl | exact Or.inr rfl) (pe_cal (K := K) rfl C_parting (hr.mono (by decide)) (by rfl) (pa_cons (pv 0) (pa_cons (pv 3) (pa_cons (pv 4) pa_nil)))))
    (pss_one (ps_if (pt_cmpR (u_eq (K := K) rfl hu64) (pe_ix (u_ix (K := K) rfl hu1) (pv 5) pe_int (fun _ _ => rfl)) (pv 1) (nomark _))
    (pss_one (ps_expr (u_bm (K := K) rfl PySem.F.plainAttrs_list PySem.F.slot_list_append PySem.F.type_list_append mt_append (pv 2) (pa_cons (pe_tup (pa_cons (pe_ix (u_ix (K := K) rfl hu1) (pv 5) pe_int (fun _ _ => rfl)) (pa_cons (pe_ix (u_ix (K := K) rfl hu1) (pv 5) pe_int (fun _ _ => rfl)) pa_nil))) pa_nil))))
    pss_nil))))
    (pss_one (ps_ret (pv 2))))), fun ds g R hS => ?_⟩
  obtain ⟨d, ks, ts, wt, ws, us, k, rfl, rfl, hH, hB, hP, htl, z⟩ := hS
  obtain ⟨kd, xs, td, wd, sd, rfl, h1, h2, h3, h4, h5⟩ := hH.ex
  show ExS K _ [some _, some _, none, none, none, none] _ _
  refine xs_set (e_lst (a_nil ⟨[], rfl, by decide, ?_⟩))
  refine xs_forTD (e_op (e_var rfl (e_int (o_ixQ isq_tup (atI_one _ _ _) ⟨td, pPy ts, rfl, h3, fun i ρ' l' => ∃ a b c, ρ' = [some (.f (.tuple [kd, td, wd, sd])), some (.f (.str k)), some (.own 0), a, b, c] ∧ l' = [.lst (pPy (tieE ks k (ts.take i)))], ⟨none, none, none, rfl, rfl⟩, ?_, ?_⟩))))
  · rintro i d ρ' l' hd ⟨a, b, c, rfl, rfl⟩
    obtain ⟨e, he, rfl⟩ := pPy_get hd
    have him := (List.getElem?_eq_some_iff.mp he).1
    obtain ⟨h1, h2, kk, x, y, hq⟩ := hP e (List.mem_of_getElem? he)
    have hT := tieE_next (ks := ks) (k := k) he
    have hT1 : tieE1 ks k e = if kk = k then some (x, y) else none := by unfold tieE1; rw [hq]
    have hln : (tieE ks k (ts.take i)).length ≤ 400 := by
      have a2 : (tieE ks k (ts.take i)).length ≤ (ts.take i).length := List.length_filterMap_le ..
      rw [List.length_take] at a2
      omega
    refine g_tup rfl (g_cons (g_name (g_cons (g_name (g_nil ?_)))))
    refine xs_set (e_call0 (a_cons (e_var rfl (a_cons (e_var rfl (a_cons (e_var rfl (a_nil ⟨trivial, _, ks, ts, wt, ws, us, e.1, e.2, rfl, rfl, hH, hB, h1, h2, ?_⟩))))))))
    rw [hq]
    show ExS K _ [some (.f (.tuple [kd, td, wd, sd])), some (.f (.str k)), some (.own 0), some (.f (.str e.1)), some (.f (.str e.2)), some (.f (.tuple [.str kk, .str x, .str y]))] [.lst (pPy (tieE ks k (ts.take i)))] _
    refine x_if (t_test (e_op (e_op (e_var rfl (e_int (o_ixQ isq_tup rfl (e_var rfl (o_eqS ⟨_, rfl, ?_⟩))))))))
    refine d_both (fun c1 => ?_) (fun c1 => ?_)
    · rw [if_pos c1] at hT1
      refine x_drop (e_bmL (e_var rfl ⟨⟨_, isl_own (n := 0) rfl⟩, a_cons (e_tup (a_cons (e_op (e_var rfl (e_int (o_ixQ isq_tup rfl (a_cons (e_op (e_var rfl (e_int (o_ixQ isq_tup rfl (a_nil ⟨_, rfl, Nat.le_of_ble_eq_true rfl, a_nil (m_append (n := 0) rfl (by rw [pPy_len]; omega) ?_)⟩))))))))))))⟩))
      refine ⟨_, _, _, rfl, ?_⟩
      rw [hT, hT1, Option.toList_some, pPy_app]
      rfl
    · rw [if_neg c1] at hT1
      refine x_next ⟨_, _, _, rfl, ?_⟩
      rw [hT, hT1, Option.toList_none, List.append_nil]
  · rintro ρ' l' ⟨a, b, c, rfl, rfl⟩
    rw [pPy_len, List.take_length]
    exact x_ret (e_var rfl (Res.own (n := 0) rfl trivial nofun (Nat.zero_le _) (fun _ h => by cases h) z))
def wordsV : List Str := ["first", "last"]
def wantV (w u o : Str) : Str × Str := if w = ("last" : Str) then (o, u) else (u, o)
def S_want_pairs : Spec3 := fun ds g R => ∃ w u xs, ds = [.f (.str w), .f (.str u), .f (.list (sPy xs))] ∧ g = [] ∧ xs.length ≤ 60 ∧ (w = "first" ∨ w = "last") ∧ R (.own 0) [.lst (pPy (wantRow w u xs))]
def rowW (w u : Str) : PyData → Option PyData
  | .str x => if (!decide (x = u)) = true then some (.tuple [.str (wantV w u x).1, .str (wantV w u x).2]) else none
  | _ => none
theorem rowW_eq (w u : Str) (xs : List Str) : (sPy xs).filterMap (rowW w u) = pPy (wantRow w u xs) := by
  induction xs with
  | nil => rfl
  | cons x xs ih =>
    show (PyData.str x :: sPy xs).filterMap _ = _
    have e : rowW w u (.str x) = if (!decide (x = u)) = true then some (.tuple [.str (wantV w u x).1, .str (wantV w u x).2]) else none := rfl
    rw [List.filterMap_cons, ih, e]
    unfold wantRow
    rw [List.filter_cons]
    by_cases h : x = u
    · rw [decide_eq_true h, decide_eq_false (show ¬ x ≠ u from fun q => q h)]
      rfl
    · rw [decide_eq_false h, decide_eq_true (show x ≠ u from h)]
      rfl
abbrev s_want_pairs : Stmt := top 26
theorem sc_want_pairs : FnScope ["word", "unit", "some", "other"] ["word", "unit", "some"] (defScope s_want_pairs) := ⟨rfl, rfl, rfl, by decide +kernel, rfl, by decide +kernel, by decide +kernel⟩
set_option maxHeartbeats 4000000 in
theorem ok_want_pairs (T : Bi K mg) (Df : DefAt K mg "want_pairs" s_want_pairs ["word", "unit", "some"]) : Cal P w K mg base 1 "want_pairs" ["word", "unit", "some"] S_want_pairs := by
  refine ok4 Df sc_want_pairs (fun ds g R h0 => by obtain ⟨_, _, _, h, _⟩ := h0; rw [h]; rfl) (fun cdv A outer s H E f hr => ?_)
  have hu1 := hu_of hr.r
  have hu64 := hr.units
  have hu65 : (A.deeper (PyProof.Rows.envOfC "want_pairs" (defScope s_want_pairs) s.heap.objs.size f cdv)).units + 65 < cLine := by have := hr.un; omega
  refine ⟨_, (pss_cons (ps_if (pt_cmpR (u_eq (K := K) rfl hu64) (pv 0) pe_str (nomark _))
    (pss_one (ps_ret (pe_lc (own := [("other", 3)]) (by rfl) sc_want_pairs.nd (u_seq (K := K) rfl (pv 2)) (blkOk_by (own := [("other", 3)]) (N := ["word", "unit", "some", "other"]) (sc := defScope s_want_pairs) (by decide +kernel)) (fun _ _ _ _ _ => (pg_name (i := 3) sc_want_pairs.nd rfl (by first | exact Or.inl rfl | exact Or.inr rfl))) (fun _ _ _ _ _ => (pts_one (pt_cmpR (u_ne (K := K) rfl hu64) (pv 3) (pv 1) (nomark _)))) (fun _ _ _ _ _ => (pe_tup (pa_cons (pv 1) (pa_cons (pv 3) pa_nil)))))))
    pss_nil)
    (pss_one (ps_ret (pe_lc (own := [("other", 3)]) (by rfl) sc_want_pairs.nd (u_seq (K := K) rfl (pv 2)) (blkOk_by (own := [("other", 3)]) (N := ["word", "unit", "some", "other"]) (sc := defScope s_want_pairs) (by decide +kernel)) (fun _ _ _ _ _ => (pg_name (i := 3) sc_want_pairs.nd rfl (by first | exact Or.inl rfl | exact Or.inr rfl))) (fun _ _ _ _ _ => (pts_one (pt_cmpR (u_ne (K := K) rfl hu64) (pv 3) (pv 1) (nomark _)))) (fun _ _ _ _ _ => (pe_tup (pa_cons (pv 3) (pa_cons (pv 1) pa_nil)))))))), fun ds g R hS => ?_⟩
  obtain ⟨w, u, xs, rfl, rfl, hxl, hw, z⟩ := hS
  show ExS K _ [some _, some _, some _, none] _ _
  have fin : ∀ {l : List O} {d : D}, d = .own 0 → l = [.lst ((sPy xs).filterMap (rowW w u))] → Res 0 R d l := fun e1 e2 => by
    subst e1 e2
    rw [rowW_eq]
    exact Res.own (n := 0) rfl trivial nofun (Nat.zero_le _) (fun _ h => by cases h) z
  refine xs_gateC (¬ w = "first") ?_ fun hwn => ?_
  · refine t_test (e_op (e_var rfl (e_str (o_eqS ⟨_, rfl, ?_⟩))))
    refine d_both (fun c1 => ?_) (fun c1 => ⟨rfl, c1⟩)
    refine x_ret (e_lcF (rowW w u) (gg_name (by decide)) (e_var rfl ⟨sPy xs, isq_list, by rw [sPy_len]; omega, fun d hd => ?_, fin rfl rfl⟩))
    obtain ⟨x, hx, rfl⟩ := sPy_mem hd
    have e : rowW w u (.str x) = if (!decide (x = u)) = true then some (.tuple [.str (wantV w u x).1, .str (wantV w u x).2]) else none := rfl
    refine g_name (t_test (e_op (e_var rfl (e_var rfl (o_neS ⟨_, rfl, ?_⟩)))))
    refine nd_both (fun c2 => ?_) (fun c2 => ?_)
    · refine e_tup (a_cons (e_var rfl (a_cons (e_var rfl (a_nil ⟨_, rfl, Nat.le_of_ble_eq_true rfl, _, rfl, ?_, rfl⟩)))))
      rw [e, decide_eq_false c2, c1]
      rfl
    · exact ⟨by rw [e, decide_eq_true c2]; rfl, rfl⟩
  · have hw : w = "last" := hw.elim (fun h => absurd h hwn) id
    refine x_ret (e_lcF (rowW w u) (gg_name (by decide)) (e_var rfl ⟨sPy xs, isq_list, by rw [sPy_len]; omega, fun d hd => ?_, fin rfl rfl⟩))
    obtain ⟨x, hx, rfl⟩ := sPy_mem hd
    have e : rowW w u (.str x) = if (!decide (x = u)) = true then some (.tuple [.str (wantV w u x).1, .str (wantV w u x).2]) else none := rfl
    refine g_name (t_test (e_op (e_var rfl (e_var rfl (o_neS ⟨_, rfl, ?_⟩)))))
    refine nd_both (fun c2 => ?_) (fun c2 => ?_)
    · refine e_tup (a_cons (e_var rfl (a_cons (e_var rfl (a_nil ⟨_, rfl, Nat.le_of_ble_eq_true rfl, _, rfl, ?_, rfl⟩)))))
      rw [e, decide_eq_false c2, hw]
      rfl
    · exact ⟨by rw [e, decide_eq_true c2]; rfl, rfl⟩
def S_view : Spec3 := fun ds g R => ∃ d ks us ts wt ws k, ds = [.f d, .f (.str k)] ∧ g = [] ∧ HouseR d ks ts wt ws ∧ TreeB ks us ∧ Parted ks us ts ∧ ts.length ≤ 400 ∧ ws.length ≤ 120 ∧ R (.f (webD (kids ks k) (edgesF ks ts ws k))) []
/-- the wants of one sort, one by one -/
theorem wantE_next {ks : Knots} {k w : Str} {ws : Ties} {j : Nat} {q : Str × Str} (hq : ws[j]? = some q) : wantE ks k w (ws.take (j + 1)) = wantE ks k w (ws.take j) ++ if (decide (q.1 = w) && decide (q.2 ∈ kids ks k)) = true then wantRow w q.2 (kids ks k) else [] := by
  rw [L3.take_next hq]
  unfold wantE wantUs
  rw [List.filter_append, List.map_append, List.flatMap_append]
  congr 1
  rw [List.filter_cons]
  cases (decide (q.1 = w) && decide (q.2 ∈ kids ks k)) <;> simp
abbrev s_view : Stmt := top 27
theorem sc_view : FnScope ["house", "knot", "some", "pairs", "sort", "word", "unit", "once", "pair"] ["house", "knot"] (defScope s_view) := ⟨rfl, rfl, rfl, by decide +kernel, rfl, by decide +kernel, by decide +kernel⟩
set_option maxHeartbeats 4000000 in
theorem ok_view (T : Bi K mg) (Df : DefAt K mg "view" s_view ["house", "knot"]) (C_want_pairs : Cal P w K mg base 1 "want_pairs" ["word", "unit", "some"] S_want_pairs) (C_tie_pairs : Cal P w K mg base 4 "tie_pairs" ["house", "knot"] S_tie_pairs) (C_children : Cal P w K mg base 1 "children" ["house", "knot"] S_children) : Cal P w K mg base 5 "view" ["house", "knot"] S_view := by
  refine ok4 Df sc_view (fun ds g R h0 => by obtain ⟨_, _, _, _, _, _, _, h, _⟩ := h0; rw [h]; rfl) (fun cdv A outer s H E f hr => ?_)
  have hu1 := hu_of hr.r
  have hu64 := hr.units
  have hu65 : (A.deeper (PyProof.Rows.envOfC "view" (defScope s_view) s.heap.objs.size f cdv)).units + 65 < cLine := by have := hr.un; omega
  refine ⟨_, (pss_cons (ps_set (i := 2) sc_view.nd rfl (by first | exact Or.inl rfl | exact Or.inr rfl) (pe_cal (K := K) rfl C_children (hr.mono (by decide)) (by rfl) (pa_cons (pv 0) (pa_cons (pv 1) pa_nil))))
    (pss_cons (ps_set (i := 3) sc_view.nd rfl (by first | exact Or.inl rfl | exact Or.inr rfl) (pe_cal (K := K) rfl C_tie_pairs (hr.mono (by decide)) (by rfl) (pa_cons (pv 0) (pa_cons (pv 1) pa_nil))))
    (pss_cons (ps_for PassesOwn.never rfl (u_seq (K := K) rfl (pe_tup (pa_cons pe_str (pa_cons pe_str pa_nil)))) (pg_name (i := 4) sc_view.nd rfl (by first | exact Or.inl rfl | exact Or.inr rfl))
    (pss_one (ps_for PassesOwn.never rfl (u_seq (K := K) rfl (pe_ix (u_ix (K := K) rfl hu1) (pv 0) pe_int (fun _ _ => rfl))) (u_tup (K := K) (n := 2) rfl (by rfl) (pgs_cons (pg_name (i := 5) sc_view.nd rfl (by first | exact Or.inl rfl | exact Or.inr rfl)) (pgs_cons (pg_name (i := 6) sc_view.nd rfl (by first | exact Or.inl rfl | exact Or.inr rfl)) pgs_nil)))
    (pss_one (ps_if (PW.pt (pw_and (pt_cmpR (u_eq (K := K) rfl hu64) (pv 5) (pv 4) (nomark _)) (pw_and1 (pt_cmpR (u_in (K := K) rfl hu65) (pv 6) (pv 2) (by rfl)))))
    (pss_one (ps_expr (u_bm (K := K) rfl PySem.F.plainAttrs_list PySem.F.slot_list_extend PySem.F.type_list_extend mt_extend (pv 3) (pa_cons (pe_cal (K := K) rfl C_want_pairs (hr.mono (by decide)) (by rfl) (pa_cons (pv 5) (pa_cons (pv 6) (pa_cons (pv 2) pa_nil)))) pa_nil))))
    pss_nil)))))
    (pss_cons (ps_set (i := 7) sc_view.nd rfl (by first | exact Or.inl rfl | exact Or.inr rfl) pe_dnewT)
    (pss_cons (ps_for PassesOwn.never rfl (u_seq (K := K) rfl (pv 3)) (pg_name (i := 8) sc_view.nd rfl (by first | exact Or.inl rfl | exact Or.inr rfl))
    (pss_one (ps_dput hu1 (pv 7) (pv 8) pe_bl rfl)))
    (pss_one (ps_ret (pe_tup (pa_cons (pe_callTy (u_tuple (K := K) rfl) (by rfl) T.b_tuple (by decide +kernel) (pa_cons (pv 2) pa_nil)) (pa_cons (pe_callTy (u_tupleDT rfl) (by rfl) T.b_tuple (by decide +kernel) (pa_cons (pv 7) pa_nil)) pa_nil)))))))))), fun ds g R hS => ?_⟩
  obtain ⟨d, ks, us, ts, wt, ws, k, rfl, rfl, hH, hB, hP, htl, hwl, z⟩ := hS
  obtain ⟨kd, xs, td, wd, sd, rfl, h1, h2, h3, h4, h5⟩ := hH.ex
  show ExS K _ [some _, some _, none, none, none, none, none, none, none] _ _
  have hkl := hB.kidsLen k
  have hwlen : ∀ n w, (wantE ks k w (ws.take n)).length ≤ 7200 := fun n w => by
    have a1 := flatMap_len (f := fun u => wantRow w u (kids ks k)) (n := 60) (xs := wantUs ks k w (ws.take n)) fun u _ => Nat.le_trans (wantRow_len ..) hkl
    have a2 := wantUs_len ks k w (ws.take n)
    have a3 : (ws.take n).length ≤ ws.length := by rw [List.length_take]; exact Nat.min_le_right _ _
    unfold wantE
    omega
  refine xs_set (e_frz (e_call0 (a_cons (e_var rfl (a_cons (e_var rfl (a_nil ⟨trivial, _, ks, ts, wt, ws, k, rfl, rfl, hH, ?_⟩)))))))
  refine ⟨0, _, rfl, rfl, ?_⟩
  refine xs_set (e_call0 (a_cons (e_var rfl (a_cons (e_var rfl (a_nil ⟨trivial, _, ks, ts, wt, ws, us, k, rfl, rfl, hH, hB, hP, htl, ?_⟩))))))
  show ExS K _ [some (.f (.tuple [kd, td, wd, sd])), some (.f (.str k)), some (.f (.list (sPy (kids ks k)))), some (.own 1), none, none, none, none, none] [.gone, .lst (pPy (tieE ks k ts))] _
  refine xs_forQ (e_tup (a_cons (e_str (a_cons (e_str (a_nil ⟨sPy wordsV, rfl, by decide, sPy wordsV, isq_tup, fun i ρ' l' => ρ' = [some (.f (.tuple [kd, td, wd, sd])), some (.f (.str k)), some (.f (.list (sPy (kids ks k)))), some (.own 1), none, none, none, none, none] ∧ l' = [.gone, .lst (pPy (tieE ks k ts ++ (wordsV.take i).flatMap fun w => wantE ks k w ws))], ⟨rfl, by simp⟩, fun _ _ _ _ _ => isq_tup, ?_, ?_⟩))))))
  · rintro i d ρ' l' hd ⟨rfl, rfl⟩
    obtain ⟨w, hw, rfl⟩ := sPy_get hd
    have hww : w = "first" ∨ w = "last" := by
      match i, hw with
      | 0, h => exact .inl (Option.some.inj h).symm
      | 1, h => exact .inr (Option.some.inj h).symm
    have hti : ((wordsV.take (i + 1)).flatMap fun w => wantE ks k w ws) = ((wordsV.take i).flatMap fun w => wantE ks k w ws) ++ wantE ks k w ws := by rw [L3.take_next hw, List.flatMap_append]; simp
    dsimp only
    rw [hti, ← List.append_assoc]
    have hBl : (tieE ks k ts ++ (wordsV.take i).flatMap fun w => wantE ks k w ws).length ≤ 20000 := by
      rw [List.length_append]
      have a1 := flatMap_len (f := fun w => wantE ks k w ws) (n := 7200) (xs := wordsV.take i) fun w _ => by have := hwlen ws.length w; rw [List.take_length] at this; exact this
      have a2 : (wordsV.take i).length ≤ 2 := by rw [List.length_take]; exact Nat.min_le_right _ _
      have a3 : (tieE ks k ts).length ≤ ts.length := List.length_filterMap_le ..
      omega
    generalize (tieE ks k ts ++ (wordsV.take i).flatMap fun w => wantE ks k w ws) = Bz at hBl ⊢
    refine g_name (x_tidy 2 [4] (Nat.le_refl _) ?_)
    refine x_forTD (e_op (e_var rfl (e_int (o_ixQ isq_tup rfl ⟨sd, pPy ws, rfl, h5, fun j ρ' l' => ρ' = [some (.f (.tuple [kd, td, wd, sd])), some (.f (.str k)), some (.f (.list (sPy (kids ks k)))), some (.own 1), some (.f (.str w)), none, none, none, none] ∧ l' = [.gone, .lst (pPy (Bz ++ wantE ks k w (ws.take j)))], ⟨rfl, by simp [wantE, wantUs]⟩, ?_, ?_⟩))))
    · rintro j d ρ' l' hd ⟨rfl, rfl⟩
      obtain ⟨q, hq, rfl⟩ := pPy_get hd
      have hN := wantE_next (ks := ks) (k := k) (w := w) hq
      have hl1 := hwlen j w
      refine g_tup rfl (g_cons (g_name (g_cons (g_name (g_nil (x_tidy 2 [5, 6] (Nat.le_refl _) ?_))))))
      refine x_if (t_and (t_test (e_op (e_var rfl (e_var rfl (o_eqS ⟨_, rfl, ?_⟩))))))
      refine d_both (fun c1 => ?_) (fun c1 => ?_)
      · refine t_test (e_op (e_var rfl (e_var rfl (o_inQS isq_list ⟨_, rfl, ?_⟩))))
        refine d_both (c := q.2 ∈ kids ks k) (fun c2 => ?_) (fun c2 => ?_)
        · rw [decide_eq_true c1, decide_eq_true c2, if_pos (by decide)] at hN
          have hrl := wantRow_len w q.2 (kids ks k)
          refine x_drop (e_bmL (e_var rfl ⟨⟨_, isl_own (n := 1) rfl⟩, a_cons (e_call0 (a_cons (e_var rfl (a_cons (e_var rfl (a_cons (e_var rfl (a_nil ⟨trivial, q.1, q.2, kids ks k, rfl, rfl, hkl, c1 ▸ hww, ?_⟩))))))))⟩))
          refine a_nil (m_extend (n := 1) rfl (isl_own (n := 2) rfl) (by rw [pPy_len, pPy_len, List.length_append, c1]; omega) ?_)
          walk_at "u"
          refine ⟨rfl, ?_⟩
          rw [hN, ← List.append_assoc, pPy_app (Bz ++ wantE ks k w (ws.take j)), c1]
          rfl
        · rw [decide_eq_false c2, Bool.and_false, if_neg (by decide), List.append_nil] at hN
          refine x_next ?_
          walk_at "u"
          refine ⟨rfl, ?_⟩
          rw [hN]
          rfl
      · rw [decide_eq_false c1, Bool.false_and, if_neg (by decide), List.append_nil] at hN
        refine iteF (x_next ?_)
        walk_at "u"
        refine ⟨rfl, ?_⟩
        rw [hN]
        rfl
    · rintro ρ' l' ⟨rfl, rfl⟩
      rw [pPy_len, List.take_length]
      walk_at "u"
      exact ⟨rfl, rfl⟩
  rintro ρ' l' ⟨rfl, rfl⟩
  have e1 : (tieE ks k ts ++ (wordsV.take (sPy wordsV).length).flatMap fun w => wantE ks k w ws) = edges0 ks ts ws k := by
    unfold edges0
    show _ ++ (wantE ks k "first" ws ++ (wantE ks k "last" ws ++ [])) = _
    rw [List.append_nil, List.append_assoc]
  rw [e1]
  have hE := edges0_len hB ts ws k
  refine xs_set (e_dT ?_)
  refine xs_forQ (e_var rfl ⟨pPy (edges0 ks ts ws k), isq_own (n := 1) rfl, fun i ρ' l' => ∃ a, ρ' = [some (.f (.tuple [kd, td, wd, sd])), some (.f (.str k)), some (.f (.list (sPy (kids ks k)))), some (.own 1), none, none, none, some (.own 2), a] ∧ l' = [.gone, .lst (pPy (edges0 ks ts ws k)), .dctT (onced (onceL ((edges0 ks ts ws k).take i)))], ⟨none, rfl, rfl⟩, fun i ρ' l' _ ⟨_, _, h⟩ => by rw [h]; exact isq_own (n := 1) rfl, ?_, ?_⟩)
  · rintro i d ρ' l' hd ⟨a, rfl, rfl⟩
    obtain ⟨e, he, rfl⟩ := pPy_get hd
    have hol := onceL_len ((edges0 ks ts ws k).take i)
    rw [List.length_take] at hol
    refine g_name (x_dputT (e_bl (e_var rfl (e_var rfl ⟨2, _, kT e, .bool true, rfl, rfl, rfl, rfl, rfl, by rw [onced_len]; omega, ?_⟩))))
    refine ⟨_, rfl, ?_⟩
    rw [onced_put, L3.take_next he, onceL_snoc]
    rfl
  · rintro ρ' l' ⟨a, rfl, rfl⟩
    rw [pPy_len, List.take_length]
    refine x_ret (e_tup (a_cons (e_cb (a_cons (e_var rfl (a_nil (c_tuple isq_list (a_cons (e_cb (a_cons (e_var rfl (a_nil (c_tupleDT (n := 2) rfl (a_nil ⟨_, rfl, Nat.le_of_ble_eq_true rfl, ?_⟩))))))))))))))
    rw [onced_keys]
    exact Res.dat (fun _ h => by cases h) z
def S_nexts : Spec3 := fun ds g R => ∃ ts es one, ds = [.f (webD ts es), .f (.str one)] ∧ g = [] ∧ ts.length ≤ 1000 ∧ es.length ≤ 1000 ∧ R (.own 0) [.lst (sPy (nextsM ts es one))]
abbrev s_nexts : Stmt := top 8
theorem sc_nexts : FnScope ["web", "one", "told", "here", "there", "name"] ["web", "one"] (defScope s_nexts) := ⟨rfl, rfl, rfl, by decide +kernel, rfl, by decide +kernel, by decide +kernel⟩
set_option maxHeartbeats 4000000 in
theorem ok_nexts (T : Bi K mg) (Df : DefAt K mg "nexts" s_nexts ["web", "one"]) : Cal P w K mg base 1 "nexts" ["web", "one"] S_nexts := by
  refine ok4 Df sc_nexts (fun ds g R h0 => by obtain ⟨_, _, _, h, _⟩ := h0; rw [h]; rfl) (fun cdv A outer s H E f hr => ?_)
  have hu1 := hu_of hr.r
  have hu64 := hr.units
  have hu65 : (A.deeper (PyProof.Rows.envOfC "nexts" (defScope s_nexts) s.heap.objs.size f cdv)).units + 65 < cLine := by have := hr.un; omega
  refine ⟨_, (pss_cons (ps_set (i := 2) sc_nexts.nd rfl (by first | exact Or.inl rfl | exact Or.inr rfl) pe_dnewK)
    (pss_cons (ps_for PassesOwn.never rfl (u_seq (K := K) rfl (pe_ix (u_ix (K := K) rfl hu1) (pv 0) pe_int (fun _ _ => rfl))) (u_tup (K := K) (n := 2) rfl (by rfl) (pgs_cons (pg_name (i := 3) sc_nexts.nd rfl (by first | exact Or.inl rfl | exact Or.inr rfl)) (pgs_cons (pg_name (i := 4) sc_nexts.nd rfl (by first | exact Or.inl rfl | exact Or.inr rfl)) pgs_nil)))
    (pss_one (ps_if (pt_cmpR (u_eq (K := K) rfl hu64) (pv 3) (pv 1) (nomark _))
    (pss_one (ps_dput hu1 (pv 2) (pv 4) pe_bl rfl))
    pss_nil)))
    (pss_one (ps_ret (pe_lc (own := [("name", 5)]) (by rfl) sc_nexts.nd (u_seq (K := K) rfl (pe_ix (u_ix (K := K) rfl hu1) (pv 0) pe_int (fun _ _ => rfl))) (blkOk_by (own := [("name", 5)]) (N := ["web", "one", "told", "here", "there", "name"]) (sc := defScope s_nexts) (by decide +kernel)) (fun _ _ _ _ _ => (pg_name (i := 5) sc_nexts.nd rfl (by first | exact Or.inl rfl | exact Or.inr rfl))) (fun _ _ _ _ _ => (pts_one (pt_cmpR (u_in (K := K) rfl hu65) (pv 5) (pv 2) (by rfl)))) (fun _ _ _ _ _ => (pv 5))))))), fun ds g R hS => ?_⟩
  obtain ⟨ts, es, one, rfl, rfl, h1, h2, z⟩ := hS
  show ExS K _ [some _, some _, none, none, none, none] _ _
  refine xs_set (e_dK ?_)
  refine xs_forQ (e_op (e_var rfl (e_int (o_ixQ (.inr rfl) rfl ?_))))
  refine ⟨pPy es, .inr rfl, fun i ρ' l' => ∃ kvs a b, ρ' = [some (.f (webD ts es)), some (.f (.str one)), some (.own 0), a, b, none] ∧ l' = [.dct kvs] ∧ kvs.length ≤ i ∧ ∀ n, (lookD kvs (Sum.inr n)).isSome = (es.take i).any fun e => decide (e.1 = one) && decide (e.2 = n),
    ⟨[], none, none, rfl, rfl, Nat.le_refl _, fun n => rfl⟩, fun i ρ' l' _ _ => .inr rfl, ?_, ?_⟩
  · rintro i d ρ' l' hd ⟨kvs, a, b, rfl, rfl, hk, hl⟩
    obtain ⟨e, he, rfl⟩ := pPy_get hd
    have hi := (List.getElem?_eq_some_iff.mp he).1
    refine g_tup rfl (g_cons (g_name (g_cons (g_name (g_nil ?_)))))
    refine x_if (t_test (e_op (e_var rfl (e_var rfl (o_eqS ⟨_, rfl, d_both (fun h => ?_) (fun h => ?_)⟩)))))
    · refine x_dput (e_bl (e_var rfl (e_var rfl ⟨0, kvs, .inr e.2, .bool true, rfl, rfl, rfl, rfl, by omega, ?_⟩)))
      refine ⟨_, _, _, rfl, rfl, Nat.le_trans (putD_len _ _ _) (by omega), fun n => ?_⟩
      rw [lookD_put, take_next he, List.any_append]
      by_cases hn : e.2 = n
      · subst hn; simp [h]
      · have hn' : ¬ (Sum.inr e.2 : Key) = Sum.inr n := fun z => hn (Sum.inr.inj z)
        rw [if_neg hn', hl n]; simp [hn]
    · refine x_next ⟨kvs, _, _, rfl, rfl, by omega, fun n => ?_⟩
      rw [take_next he, List.any_append, hl n]
      simp [h]
  · rintro ρ' l' ⟨kvs, a, b, rfl, rfl, hk, hl⟩
    rw [pPy_len, List.take_length] at hl
    refine x_ret (e_lcF (strF fun x => es.any fun e => decide (e.1 = one) && decide (e.2 = x)) (gg_name (by decide))
      (e_op (e_var rfl (e_int (o_ixQ (.inr rfl) rfl ⟨sPy ts, .inr rfl, by rw [sPy_len]; omega, fun d hd => ?_, ?_⟩)))))
    · obtain ⟨x, hx, rfl⟩ := sPy_mem hd
      refine g_name (t_test (e_op (e_var rfl (e_var rfl (o_inDk (k := Sum.inr x) rfl ⟨_, rfl, ?_⟩)))))
      show if (lookD kvs (Sum.inr x)).isSome = true then _ else _
      rw [hl x]
      refine b_both (fun hb => e_var rfl ⟨_, rfl, ?_, rfl⟩) (fun hb => ⟨?_, rfl⟩)
      · exact if_pos hb
      · exact if_neg fun z => Bool.noConfusion (hb.symm.trans z)
    · refine Res.own (n := 1) rfl trivial nofun (Nat.zero_le _) (fun _ h => by cases h) ?_
      rw [sPy_filter]
      exact z
def S_priors : Spec3 := fun ds g R => ∃ ts es one, ds = [.f (webD ts es), .f (.str one)] ∧ g = [] ∧ ts.length ≤ 1000 ∧ es.length ≤ 1000 ∧ R (.own 0) [.lst (sPy (priorsM ts es one))]
abbrev s_priors : Stmt := top 9
theorem sc_priors : FnScope ["web", "one", "told", "here", "there", "name"] ["web", "one"] (defScope s_priors) := ⟨rfl, rfl, rfl, by decide +kernel, rfl, by decide +kernel, by decide +kernel⟩
set_option maxHeartbeats 4000000 in
theorem ok_priors (T : Bi K mg) (Df : DefAt K mg "priors" s_priors ["web", "one"]) : Cal P w K mg base 1 "priors" ["web", "one"] S_priors := by
  refine ok4 Df sc_priors (fun ds g R h0 => by obtain ⟨_, _, _, h, _⟩ := h0; rw [h]; rfl) (fun cdv A outer s H E f hr => ?_)
  have hu1 := hu_of hr.r
  have hu64 := hr.units
  have hu65 : (A.deeper (PyProof.Rows.envOfC "priors" (defScope s_priors) s.heap.objs.size f cdv)).units + 65 < cLine := by have := hr.un; omega
  refine ⟨_, (pss_cons (ps_set (i := 2) sc_priors.nd rfl (by first | exact Or.inl rfl | exact Or.inr rfl) pe_dnewK)
    (pss_cons (ps_for PassesOwn.never rfl (u_seq (K := K) rfl (pe_ix (u_ix (K := K) rfl hu1) (pv 0) pe_int (fun _ _ => rfl))) (u_tup (K := K) (n := 2) rfl (by rfl) (pgs_cons (pg_name (i := 3) sc_priors.nd rfl (by first | exact Or.inl rfl | exact Or.inr rfl)) (pgs_cons (pg_name (i := 4) sc_priors.nd rfl (by first | exact Or.inl rfl | exact Or.inr rfl)) pgs_nil)))
    (pss_one (ps_if (pt_cmpR (u_eq (K := K) rfl hu64) (pv 4) (pv 1) (nomark _))
    (pss_one (ps_dput hu1 (pv 2) (pv 3) pe_bl rfl))
    pss_nil)))
    (pss_one (ps_ret (pe_lc (own := [("name", 5)]) (by rfl) sc_priors.nd (u_seq (K := K) rfl (pe_ix (u_ix (K := K) rfl hu1) (pv 0) pe_int (fun _ _ => rfl))) (blkOk_by (own := [("name", 5)]) (N := ["web", "one", "told", "here", "there", "name"]) (sc := defScope s_priors) (by decide +kernel)) (fun _ _ _ _ _ => (pg_name (i := 5) sc_priors.nd rfl (by first | exact Or.inl rfl | exact Or.inr rfl))) (fun _ _ _ _ _ => (pts_one (pt_cmpR (u_in (K := K) rfl hu65) (pv 5) (pv 2) (by rfl)))) (fun _ _ _ _ _ => (pv 5))))))), fun ds g R hS => ?_⟩
  obtain ⟨ts, es, one, rfl, rfl, h1, h2, z⟩ := hS
  show ExS K _ [some _, some _, none, none, none, none] _ _
  refine xs_set (e_dK ?_)
  refine xs_forQ (e_op (e_var rfl (e_int (o_ixQ (.inr rfl) rfl ?_))))
  refine ⟨pPy es, .inr rfl, fun i ρ' l' => ∃ kvs a b, ρ' = [some (.f (webD ts es)), some (.f (.str one)), some (.own 0), a, b, none] ∧ l' = [.dct kvs] ∧ kvs.length ≤ i ∧ ∀ n, (lookD kvs (Sum.inr n)).isSome = (es.take i).any fun e => decide (e.2 = one) && decide (e.1 = n),
    ⟨[], none, none, rfl, rfl, Nat.le_refl _, fun n => rfl⟩, fun i ρ' l' _ _ => .inr rfl, ?_, ?_⟩
  · rintro i d ρ' l' hd ⟨kvs, a, b, rfl, rfl, hk, hl⟩
    obtain ⟨e, he, rfl⟩ := pPy_get hd
    have hi := (List.getElem?_eq_some_iff.mp he).1
    refine g_tup rfl (g_cons (g_name (g_cons (g_name (g_nil ?_)))))
    refine x_if (t_test (e_op (e_var rfl (e_var rfl (o_eqS ⟨_, rfl, d_both (fun h => ?_) (fun h => ?_)⟩)))))
    · refine x_dput (e_bl (e_var rfl (e_var rfl ⟨0, kvs, .inr e.1, .bool true, rfl, rfl, rfl, rfl, by omega, ?_⟩)))
      refine ⟨_, _, _, rfl, rfl, Nat.le_trans (putD_len _ _ _) (by omega), fun n => ?_⟩
      rw [lookD_put, take_next he, List.any_append]
      by_cases hn : e.1 = n
      · subst hn; simp [h]
      · have hn' : ¬ (Sum.inr e.1 : Key) = Sum.inr n := fun z => hn (Sum.inr.inj z)
        rw [if_neg hn', hl n]; simp [hn]
    · refine x_next ⟨kvs, _, _, rfl, rfl, by omega, fun n => ?_⟩
      rw [take_next he, List.any_append, hl n]
      simp [h]
  · rintro ρ' l' ⟨kvs, a, b, rfl, rfl, hk, hl⟩
    rw [pPy_len, List.take_length] at hl
    refine x_ret (e_lcF (strF fun x => es.any fun e => decide (e.2 = one) && decide (e.1 = x)) (gg_name (by decide))
      (e_op (e_var rfl (e_int (o_ixQ (.inr rfl) rfl ⟨sPy ts, .inr rfl, by rw [sPy_len]; omega, fun d hd => ?_, ?_⟩)))))
    · obtain ⟨x, hx, rfl⟩ := sPy_mem hd
      refine g_name (t_test (e_op (e_var rfl (e_var rfl (o_inDk (k := Sum.inr x) rfl ⟨_, rfl, ?_⟩)))))
      show if (lookD kvs (Sum.inr x)).isSome = true then _ else _
      rw [hl x]
      refine b_both (fun hb => e_var rfl ⟨_, rfl, ?_, rfl⟩) (fun hb => ⟨?_, rfl⟩)
      · exact if_pos hb
      · exact if_neg fun z => Bool.noConfusion (hb.symm.trans z)
    · refine Res.own (n := 1) rfl trivial nofun (Nat.zero_le _) (fun _ h => by cases h) ?_
      rw [sPy_filter]
      exact z
def S_met_by : Spec3 := fun ds g R => ∃ ts es one back, ds = [.f (webD ts es), .f (.str one), .f (.bool back)] ∧ g = [] ∧ ts.length ≤ 1000 ∧ es.length ≤ 1000 ∧ R (.own 0) [.dct (camePy (metM ts es one back))]
abbrev s_met_by : Stmt := top 11
theorem sc_met_by : FnScope ["web", "one", "is_back", "came", "line", "at", "some", "other"] ["web", "one", "is_back"] (defScope s_met_by) := ⟨rfl, rfl, rfl, by decide +kernel, rfl, by decide +kernel, by decide +kernel⟩
set_option maxHeartbeats 4000000 in
theorem ok_met_by (T : Bi K mg) (Df : DefAt K mg "met_by" s_met_by ["web", "one", "is_back"]) (C_priors : Cal P w K mg base 1 "priors" ["web", "one"] S_priors) (C_nexts : Cal P w K mg base 1 "nexts" ["web", "one"] S_nexts) : Cal P w K mg base 2 "met_by" ["web", "one", "is_back"] S_met_by := by
  refine ok4 Df sc_met_by (fun ds g R h0 => by obtain ⟨_, _, _, _, h, _⟩ := h0; rw [h]; rfl) (fun cdv A outer s H E f hr => ?_)
  have hu1 := hu_of hr.r
  have hu64 := hr.units
  have hu65 : (A.deeper (PyProof.Rows.envOfC "met_by" (defScope s_met_by) s.heap.objs.size f cdv)).units + 65 < cLine := by have := hr.un; omega
  refine ⟨_, (pss_cons (ps_set (i := 3) sc_met_by.nd rfl (by first | exact Or.inl rfl | exact Or.inr rfl) (pe_disp (pps_cons (pv 1) pe_non pps_nil) (by rfl) (by rfl) (List.cons_ne_nil _ _) (Nat.le_of_ble_eq_true rfl)))
    (pss_cons (ps_set (i := 4) sc_met_by.nd rfl (by first | exact Or.inl rfl | exact Or.inr rfl) (pe_lst (pa_cons (pv 1) pa_nil)))
    (pss_cons (ps_set (i := 5) sc_met_by.nd rfl (by first | exact Or.inl rfl | exact Or.inr rfl) pe_int)
    (pss_cons (ps_while PassesOwn.never (pt_cmpR op_lt (pv 5) (pe_callB (u_len (K := K) rfl) (by rfl) T.b_len (by decide +kernel) (pa_cons (pv 4) pa_nil)) (nomark _))
    (pss_cons (ps_set (i := 6) sc_met_by.nd rfl (by first | exact Or.inl rfl | exact Or.inr rfl) (pe_cal (K := K) rfl C_nexts (hr.mono (by decide)) (by rfl) (pa_cons (pv 0) (pa_cons (pe_ix (u_ix (K := K) rfl hu1) (pv 4) (pv 5) (fun _ _ => rfl)) pa_nil))))
    (pss_cons (ps_if (pt_val (pv 2))
    (pss_one (ps_set (i := 6) sc_met_by.nd rfl (by first | exact Or.inl rfl | exact Or.inr rfl) (pe_cal (K := K) rfl C_priors (hr.mono (by decide)) (by rfl) (pa_cons (pv 0) (pa_cons (pe_ix (u_ix (K := K) rfl hu1) (pv 4) (pv 5) (fun _ _ => rfl)) pa_nil)))))
    pss_nil)
    (pss_cons (ps_for PassesOwn.never rfl (u_seq (K := K) rfl (pv 6)) (pg_name (i := 7) sc_met_by.nd rfl (by first | exact Or.inl rfl | exact Or.inr rfl))
    (pss_one (ps_if (pt_cmpR (u_notIn (K := K) rfl hu65) (pv 7) (pv 3) (by rfl))
    (pss_cons (ps_dput hu1 (pv 3) (pv 7) (pe_ix (u_ix (K := K) rfl hu1) (pv 4) (pv 5) (fun _ _ => rfl)) rfl)
    (pss_one (ps_expr (u_bm (K := K) rfl PySem.F.plainAttrs_list PySem.F.slot_list_append PySem.F.type_list_append mt_append (pv 4) (pa_cons (pv 7) pa_nil)))))
    pss_nil)))
    (pss_one (ps_aug (i := 5) sc_met_by.nd rfl (by first | exact Or.inl rfl | exact Or.inr rfl) pe_int ip_add))))))
    (pss_one (ps_ret (pv 3))))))), fun ds g R hS => ?_⟩
  obtain ⟨ts, es, one, back, rfl, rfl, h1, h2, z⟩ := hS
  show ExS K _ [some _, some _, some _, none, none, none, none, none] _ _
  refine xs_set (e_disp (by decide) ?_)
  refine e_var rfl (e_non ⟨.inr one, .none, rfl, rfl, Nat.le_of_ble_eq_true rfl, rfl, ?_⟩)
  refine xs_set (e_lst (a_cons (e_var rfl (a_nil ⟨[.str one], rfl, Nat.le_of_ble_eq_true rfl, ?_⟩))))
  refine xs_set (e_int ?_)
  show ExS K _ [some (.f (webD ts es)), some (.f (.str one)), some (.f (.bool back)), some (.own 0), some (.own 1), some (.f (.int 0)), none, none] [.dct (camePy [(one, none)]), .lst (sPy [one])] _
  refine xs_while (fun ρ' l' => ∃ (c : Came) (a n : Nat) (x y : Option D), ρ' = [some (.f (webD ts es)), some (.f (.str one)), some (.f (.bool back)), some (.own 0), some (.own 1), some (.f (.int a)), x, y] ∧ l' = [.dct (camePy c), .lst (sPy (c.map (·.1)))] ∧ UndS 2 [x, y] ∧
    CameOk one ts c ∧ metGo (stepM ts es back) n c a = metM ts es one back ∧ n + a = ts.length + 2)
    (fun ρ' _ => ts.length + 2 - slotI ρ' 5) ⟨[(one, none)], 0, _, none, none, rfl, rfl, trivial, ⟨by simp, fun p hp => by simp at hp; subst hp; exact .inl rfl⟩, rfl, rfl⟩ ?_
  rintro ρ' l' ⟨c, a, n, x, y, rfl, rfl, hu, hc, hm, hn⟩
  have hcl := hc.len
  walk_at "w"
  rw [sPy_len, List.length_map]
  walk_at "w"
  refine d_both (fun hac => ?_) (fun hac => ?_)
  · have hac' : a < c.length := by omega
    obtain ⟨p, hp⟩ : ∃ p, c[a]? = some p := ⟨c[a], by simp [hac']⟩
    have hline : atI (sPy (c.map (·.1))) (a : Int) = some (.str p.1) := atI_nat (sPy_get_of (by rw [List.getElem?_map, hp]; rfl))
    refine x_tidy 2 [] (Nat.le_refl _) ?_
    refine xs_set (e_frz (e_call0 ?_))
    walk_at "w"
    refine o_ixQ (isq_own ?hq) hline ?_
    case hq => exact rfl
    walk_at "w"
    refine ⟨trivial, ts, es, p.1, rfl, rfl, h1, h2, 2, sPy (nextsM ts es p.1), rfl, rfl, ?_⟩
    refine xs_mid (fun ρ' l' => ∃ l2, ρ' = [some (.f (webD ts es)), some (.f (.str one)), some (.f (.bool back)), some (.own 0), some (.own 1), some (.f (.int a)), some (.f (.list (sPy (stepM ts es back p.1)))), y] ∧ l' = [.dct (camePy c), .lst (sPy (c.map (·.1)))] ++ l2) ?_ ?_
    · walk_at "w"
      refine b_both (fun hb => ?_) (fun hb => ?_)
      · refine x_set (e_frz (e_call0 ?_))
        walk_at "w"
        refine o_ixQ (isq_own ?hq) hline ?_
        case hq => exact rfl
        walk_at "w"
        refine ⟨trivial, ts, es, p.1, rfl, rfl, h1, h2, 3, sPy (priorsM ts es p.1), rfl, rfl, ?_⟩
        refine ⟨[.gone, .gone], ?_, rfl⟩
        unfold stepM
        rw [if_pos hb]
        rfl
      · refine x_next ⟨[.gone], ?_, rfl⟩
        unfold stepM
        rw [if_neg (by rw [hb]; decide)]
        rfl
    rintro ρ' l' ⟨l2, rfl, rfl⟩
    have hsl : (stepM ts es back p.1).length ≤ 1000 := by
      unfold stepM priorsM nextsM
      split
      · exact Nat.le_trans (List.length_filter_le _ _) h1
      · exact Nat.le_trans (List.length_filter_le _ _) h1
    refine xs_forQ (e_var rfl ?_)
    refine ⟨sPy (stepM ts es back p.1), isq_list, fun i ρ' l' => ∃ (z : Option D) (c' : Came), ρ' = [some (.f (webD ts es)), some (.f (.str one)), some (.f (.bool back)), some (.own 0), some (.own 1), some (.f (.int a)), some (.f (.list (sPy (stepM ts es back p.1)))), z] ∧ l' = [.dct (camePy c'), .lst (sPy (c'.map (·.1)))] ++ l2 ∧ UndS 2 [z] ∧
      c' = ((stepM ts es back p.1).take i).foldl (metAdd p.1) c, ⟨y, c, rfl, rfl, hu.elim2, rfl⟩, fun _ _ _ _ _ => isq_list, ?_, ?_⟩
    · rintro i d ρ' l' hd ⟨z, c', rfl, rfl, hz, ec⟩
      obtain ⟨o, ho, rfl⟩ := sPy_get hd
      have hc' : CameOk one ts c' := by
        rw [ec]
        exact hc.fold fun o ho => stepM_sub _ _ (List.mem_of_mem_take ho)
      have hcl' := hc'.len
      obtain ⟨t, et, _, _⟩ := metFold (x := p.1) (os := (stepM ts es back p.1).take i) (c := c)
      rw [← ec] at et
      have hline' : atI (sPy (c'.map (·.1))) (a : Int) = some (.str p.1) := atI_nat (sPy_get_of (by rw [List.getElem?_map, et, List.getElem?_append_left hac', hp]; rfl))
      have hnext : ((stepM ts es back p.1).take (i + 1)).foldl (metAdd p.1) c = metAdd p.1 c' o := by
        rw [take_next ho, List.foldl_append, ← ec]; rfl
      refine g_name (x_if (t_test (e_op (e_var rfl (e_var rfl (o_inDk (n := 0) (k := .inr o) rfl ?_))))))
      rw [came_look]
      walk_at "w"
      refine b_both (fun hb => ?_) (fun hb => ?_)
      · have hno : hasK c' o = false := by simpa using hb
        refine xs_dput ?_
        walk_at "w"
        refine o_ixQ (isq_own ?hq) hline' ?_
        case hq => exact rfl
        walk_at "w"
        refine ⟨0, camePy c', .inr o, .str p.1, rfl, rfl, rfl, rfl, by rw [camePy_len]; omega, ?_⟩
        rw [came_put c' o p.1 hno]
        walk_at "w"
        refine m_append rfl (by rw [sPy_len, List.length_map]; omega) ?_
        refine ⟨_, c' ++ [(o, some p.1)], rfl, by rw [List.map_append, sPy_app]; rfl, ⟨trivial, trivial⟩, ?_⟩
        rw [hnext]
        unfold metAdd
        rw [hno]
        rfl
      · have hyes : hasK c' o = true := by simpa using hb
        refine x_next ⟨_, c', rfl, rfl, ⟨trivial, trivial⟩, ?_⟩
        rw [hnext]
        unfold metAdd
        rw [hyes]
        rfl
    · rintro ρ' l' ⟨z, c', rfl, rfl, hz, ec⟩
      rw [sPy_len, List.take_length] at ec
      refine x_aug rfl (e_int (o_ipI ?_))
      obtain ⟨n', rfl⟩ : ∃ n', n = n' + 1 := ⟨n - 1, by omega⟩
      rw [metGo_next hp, ← ec] at hm
      refine ⟨⟨trivial, trivial, trivial, (by decide : 0 < 2), (by decide : 1 < 2), trivial, trivial, ?_⟩, ⟨trivial, trivial, trivial⟩, ⟨c', a + 1, n', _, _, rfl, rfl, ⟨trivial, hz⟩, ?_, hm, by omega⟩, ?_⟩
      · cases z with
        | none => exact trivial
        | some d => exact hz
      · rw [ec]; exact hc.fold fun o ho => stepM_sub _ _ ho
      · show ts.length + 2 - ((a : Int) + 1).toNat < ts.length + 2 - (a : Int).toNat
        omega
  · walk_at "w"
    rw [metGo_end (by omega)] at hm
    exact Res.own (n := 0) rfl trivial nofun (Nat.zero_le _) (fun _ h => by cases h) (by rw [hm]; exact z)
def S_behinds : Spec3 := fun ds g R => ∃ ts es one, ds = [.f (webD ts es), .f (.str one)] ∧ g = [] ∧ ts.length ≤ 1000 ∧ es.length ≤ 1000 ∧ R (.own 0) [.lst (sPy (metL ts es one false))]
abbrev s_behinds : Stmt := top 12
theorem sc_behinds : FnScope ["web", "one", "came", "thing"] ["web", "one"] (defScope s_behinds) := ⟨rfl, rfl, rfl, by decide +kernel, rfl, by decide +kernel, by decide +kernel⟩
set_option maxHeartbeats 4000000 in
theorem ok_behinds (T : Bi K mg) (Df : DefAt K mg "behinds" s_behinds ["web", "one"]) (C_met_by : Cal P w K mg base 2 "met_by" ["web", "one", "is_back"] S_met_by) : Cal P w K mg base 3 "behinds" ["web", "one"] S_behinds := by
  refine ok4 Df sc_behinds (fun ds g R h0 => by obtain ⟨_, _, _, h, _⟩ := h0; rw [h]; rfl) (fun cdv A outer s H E f hr => ?_)
  have hu1 := hu_of hr.r
  have hu64 := hr.units
  have hu65 : (A.deeper (PyProof.Rows.envOfC "behinds" (defScope s_behinds) s.heap.objs.size f cdv)).units + 65 < cLine := by have := hr.un; omega
  refine ⟨_, (pss_cons (ps_set (i := 2) sc_behinds.nd rfl (by first | exact Or.inl rfl | exact Or.inr rfl) (pe_cal (K := K) rfl C_met_by (hr.mono (by decide)) (by rfl) (pa_cons (pv 0) (pa_cons (pv 1) (pa_cons pe_bl pa_nil)))))
    (pss_one (ps_ret (pe_lc (own := [("thing", 3)]) (by rfl) sc_behinds.nd (u_seq (K := K) rfl (pe_ix (u_ix (K := K) rfl hu1) (pv 0) pe_int (fun _ _ => rfl))) (blkOk_by (own := [("thing", 3)]) (N := ["web", "one", "came", "thing"]) (sc := defScope s_behinds) (by decide +kernel)) (fun _ _ _ _ _ => (pg_name (i := 3) sc_behinds.nd rfl (by first | exact Or.inl rfl | exact Or.inr rfl))) (fun _ _ _ _ _ => (pts_one (pt_cmpR (u_in (K := K) rfl hu65) (pv 3) (pv 2) (by rfl)))) (fun _ _ _ _ _ => (pv 3)))))), fun ds g R hS => ?_⟩
  obtain ⟨ts, es, one, rfl, rfl, h1, h2, z⟩ := hS
  show ExS K _ [some _, some _, none, none] _ _
  refine xs_set (e_call0 (a_cons (e_var rfl (a_cons (e_var rfl (a_cons (e_bl (a_nil ⟨trivial, ts, es, one, false, rfl, rfl, h1, h2, ?_⟩))))))))
  refine x_ret (e_lcF (strF fun x => hasK (metM ts es one false) x) (gg_name (by decide)) (e_op (e_var rfl (e_int (o_ixQ isq_tup rfl ⟨sPy ts, isq_tup, by rw [sPy_len]; omega, fun d hd => ?_, ?_⟩)))))
  · obtain ⟨x, hx, rfl⟩ := sPy_mem hd
    refine g_name (t_test (e_op (e_var rfl (e_var rfl (o_inDk (n := 0) (k := Sum.inr x) rfl ⟨_, rfl, ?_⟩)))))
    show if (lookD (camePy _) (Sum.inr x)).isSome = true then _ else _
    rw [came_look]
    refine b_both (fun hb => e_var rfl ⟨_, rfl, ?_, rfl⟩) (fun hb => ⟨?_, rfl⟩)
    · exact if_pos hb
    · exact if_neg fun z => Bool.noConfusion (hb.symm.trans z)
  · refine Res.own (n := 1) rfl trivial nofun (Nat.zero_le _) (fun _ h => by cases h) ?_
    rw [sPy_filter]
    exact z
/-- the places of a row in which a thing may stand twice -/
structure Plc (xs : List Str) (kvs : List (Key × PyData)) : Prop where
  len : kvs.length ≤ xs.length
  nd : kvs.length = xs.length → xs.Nodup
  eq : xs.Nodup → kvs = fD xs fun x => .int (xs.idxOf x : Nat)
  has : ∀ y, (lookD kvs (Sum.inr y)).isSome = true ↔ y ∈ xs
def S_places_of : Spec3 := fun ds g R => ∃ xs, ds = [.f (.list (sPy xs))] ∧ g = [] ∧ xs.length ≤ 1000 ∧ ∀ kvs, Plc xs kvs → R (.own 0) [.dct kvs]
theorem plc_next {xs : List Str} {i : Nat} {x : Str} {kvs : List (Key × PyData)} (hx : xs[i]? = some x) (h : Plc (xs.take i) kvs) : Plc (xs.take (i + 1)) (putD kvs (.inr x) (.int (i : Int))) := by
  have hi := (List.getElem?_eq_some_iff.mp hx).1
  have hlt : (xs.take i).length = i := by rw [List.length_take]; omega
  have hl1 : (xs.take (i + 1)).length = i + 1 := by rw [List.length_take]; omega
  have e := take_next hx
  have hk : (putD kvs (Sum.inr x) (PyData.int (i : Int))).length = if (lookD kvs (Sum.inr x)).isSome = true then kvs.length else kvs.length + 1 := by
    have := congrArg List.length (putD_keys kvs (Sum.inr x) (PyData.int (i : Int)))
    rw [List.length_map] at this
    rw [this]
    split <;> simp
  have h1 := h.len
  rw [hlt] at h1
  refine ⟨?_, fun q => ?_, fun q => ?_, fun y => ?_⟩
  · rw [hk, hl1]
    split <;> omega
  · rw [hk, hl1] at q
    split at q
    · omega
    · rename_i hn
      have nd := h.nd (by rw [hlt]; omega)
      have hnm : ¬ x ∈ xs.take i := fun m => hn ((h.has x).mpr m)
      rw [e, List.nodup_append]
      exact ⟨nd, by simp, fun a ha b hb q2 => hnm (by have : b = x := by simpa using hb
                                                      rw [← this, ← q2]; exact ha)⟩
  · rw [e] at q
    obtain ⟨n1, _, n3⟩ := List.nodup_append.mp q
    have hnm : ¬ x ∈ xs.take i := fun m => n3 x m x (by simp) rfl
    rw [h.eq n1, fD_new hnm, ← e]
    refine fD_congr fun y hy => ?_
    rw [e] at hy ⊢
    rw [List.idxOf_append]
    by_cases c : y = x
    · subst c
      rw [if_pos rfl, if_neg hnm, List.idxOf_cons_self, hlt, Nat.zero_add]
    · rw [if_neg c]
      rcases List.mem_append.mp hy with m | m
      · rw [if_pos m]
      · exact absurd (by simpa using m) c
  · rw [lookD_put]
    by_cases c : y = x
    · subst c
      rw [if_pos rfl, e]
      simp
    · rw [if_neg (fun z => c (Sum.inr.inj z).symm), e, h.has y]
      simp [c]
abbrev s_places_of : Stmt := top 14
theorem sc_places_of : FnScope ["order", "found", "at", "thing"] ["order"] (defScope s_places_of) := ⟨rfl, rfl, rfl, by decide +kernel, rfl, by decide +kernel, by decide +kernel⟩
set_option maxHeartbeats 4000000 in
theorem ok_places_of (T : Bi K mg) (Df : DefAt K mg "places_of" s_places_of ["order"]) : Cal P w K mg base 1 "places_of" ["order"] S_places_of := by
  refine ok4 Df sc_places_of (fun ds g R h0 => by obtain ⟨_, h, _⟩ := h0; rw [h]; rfl) (fun cdv A outer s H E f hr => ?_)
  have hu1 := hu_of hr.r
  have hu64 := hr.units
  have hu65 : (A.deeper (PyProof.Rows.envOfC "places_of" (defScope s_places_of) s.heap.objs.size f cdv)).units + 65 < cLine := by have := hr.un; omega
  refine ⟨_, (pss_cons (ps_set (i := 1) sc_places_of.nd rfl (by first | exact Or.inl rfl | exact Or.inr rfl) pe_dnewK)
    (pss_cons (ps_for PassesOwn.never rfl (u_enum (K := K) rfl (by rfl) T.b_enumerate (pa_cons (pv 0) pa_nil)) (u_tup (K := K) (n := 2) rfl (by rfl) (pgs_cons (pg_name (i := 2) sc_places_of.nd rfl (by first | exact Or.inl rfl | exact Or.inr rfl)) (pgs_cons (pg_name (i := 3) sc_places_of.nd rfl (by first | exact Or.inl rfl | exact Or.inr rfl)) pgs_nil)))
    (pss_one (ps_dput hu1 (pv 1) (pv 3) (pv 2) rfl)))
    (pss_one (ps_ret (pv 1))))), fun ds g R hS => ?_⟩
  obtain ⟨xs, rfl, rfl, h1, z⟩ := hS
  show ExS K _ [some _, none, none, none] _ _
  refine xs_set (e_dK ?_)
  refine xs_forE (a_cons (e_var rfl (a_nil ⟨_, sPy xs, rfl, isl_list, fun i ρ' l' => ∃ a b kvs, ρ' = [some (.f (.list (sPy xs))), some (.own 0), a, b] ∧ l' = [.dct kvs] ∧ Plc (xs.take i) kvs, ⟨none, none, [], rfl, rfl, ⟨Nat.le_refl _, fun _ => List.nodup_nil, fun _ => rfl, fun y => by simp [lookD]⟩⟩, fun _ _ _ _ _ => isl_list, ?_, ?_⟩)))
  · rintro i d ρ' l' hd ⟨a, b, kvs, rfl, rfl, hP⟩
    obtain ⟨x, hx, rfl⟩ := sPy_get hd
    have hl := hP.len
    rw [List.length_take] at hl
    refine g_tup rfl (g_cons (g_name (g_cons (g_name (g_nil ?_)))))
    exact x_dput (e_var rfl (e_var rfl (e_var rfl ⟨0, _, .inr x, .int i, rfl, rfl, rfl, rfl, by omega, ⟨_, _, _, rfl, rfl, plc_next hx hP⟩⟩)))
  · rintro ρ' l' ⟨a, b, kvs, rfl, rfl, hP⟩
    rw [sPy_len, List.take_length] at hP
    exact x_ret (e_var rfl (Res.own (n := 0) rfl trivial nofun (Nat.zero_le _) (fun _ h => by cases h) (z kvs hP)))
structure IsOrd (ts : List Str) (es : List (Str × Str)) (ys : List Str) : Prop where
  nd : ys.Nodup
  len : ys.length = ts.length
  in_ : ∀ y ∈ ys, y ∈ ts
  fw : ∀ e ∈ es, e.1 ∈ ys ∧ e.2 ∈ ys ∧ ys.idxOf e.1 < ys.idxOf e.2
/-- whatever is an order -/
def IsOrdD (ts : List Str) (es : List (Str × Str)) (d : PyData) : Prop := ∃ ys, d = .list (sPy ys) ∧ IsOrd ts es ys
/-- a thing of the web -/
def inT (ts : List Str) : PyData → Bool
  | .str x => decide (x ∈ ts)
  | _ => false
theorem inT_all {ts : List Str} : ∀ {ds : List PyData}, ds.all (inT ts) = true → ∃ ys, ds = sPy ys ∧ ∀ y ∈ ys, y ∈ ts
  | [], _ => ⟨[], rfl, nofun⟩
  | d :: ds, h => by
    have h2 : inT ts d = true ∧ ds.all (inT ts) = true := by simpa using h
    obtain ⟨ys, e, hy⟩ := inT_all h2.2
    cases d with
    | str x => exact ⟨x :: ys, by rw [e]; rfl, fun y m => (List.mem_cons.mp m).elim (fun q => by rw [q]; simpa [inT] using h2.1) (hy y)⟩
    | none => simp [inT] at h2
    | bool _ => simp [inT] at h2
    | int _ => simp [inT] at h2
    | list _ => simp [inT] at h2
    | tuple _ => simp [inT] at h2
    | dict _ => simp [inT] at h2
theorem inT_str {ts ys : List Str} (h : ∀ y ∈ ys, y ∈ ts) : (sPy ys).all (inT ts) = true := by
  rw [List.all_eq_true]
  intro d hd
  obtain ⟨y, hy, rfl⟩ := sPy_mem hd
  exact decide_eq_true (h y hy)
theorem mapB (p : PyData → Bool) (ds : List PyData) : ds.filterMap (fun d => some (PyData.bool (p d))) = bPy (ds.map p) := by
  induction ds with
  | nil => rfl
  | cons w ws ih =>
    rw [List.filterMap_cons_some (f := fun d => some (PyData.bool (p d))) (a := w) (b := PyData.bool (p w)) rfl, ih]
    rfl
def S_is_order : Spec3 := fun ds g R => ∃ ts es d, ds = [.f (webD ts es), .f d] ∧ g = [] ∧ ts.length ≤ 1000 ∧ es.length ≤ 1000 ∧ ts.Nodup ∧ (∀ e ∈ es, e.1 ∈ ts ∧ e.2 ∈ ts) ∧ briefQ (unpl d) = true ∧ ∀ b, (b = true ↔ IsOrdD ts es d) → R (.f (.bool b)) []
abbrev s_is_order : Stmt := top 15
theorem sc_is_order : FnScope ["web", "thing", "places", "one", "other"] ["web", "thing"] (defScope s_is_order) := ⟨rfl, rfl, rfl, by decide +kernel, rfl, by decide +kernel, by decide +kernel⟩
set_option maxHeartbeats 4000000 in
theorem ok_is_order (T : Bi K mg) (Df : DefAt K mg "is_order" s_is_order ["web", "thing"]) (C_places_of : Cal P w K mg base 1 "places_of" ["order"] S_places_of) : Cal P w K mg base 2 "is_order" ["web", "thing"] S_is_order := by
  refine ok4 Df sc_is_order (fun ds g R h0 => by obtain ⟨_, _, _, h, _⟩ := h0; rw [h]; rfl) (fun cdv A outer s H E f hr => ?_)
  have hu1 := hu_of hr.r
  have hu64 := hr.units
  have hu65 : (A.deeper (PyProof.Rows.envOfC "is_order" (defScope s_is_order) s.heap.objs.size f cdv)).units + 65 < cLine := by have := hr.un; omega
  refine ⟨_, (pss_cons (ps_if (PW.pt (pw_or (pt_not (pt_val (pe_callB (u_isi (K := K) rfl) (by rfl) T.b_isinstance (by decide +kernel) (pa_cons (pv 1) (pa_cons (pe_bltn (v := .ty "list") (u := .type "list") rfl T.b_list (by decide +kernel) rfl) pa_nil))))) (pw_or1 (pt_cmpR (u_ne (K := K) rfl hu64) (pe_callB (u_len (K := K) rfl) (by rfl) T.b_len (by decide +kernel) (pa_cons (pv 1) pa_nil)) (pe_callB (u_len (K := K) rfl) (by rfl) T.b_len (by decide +kernel) (pa_cons (pe_ix (u_ix (K := K) rfl hu1) (pv 0) pe_int (fun _ _ => rfl)) pa_nil)) (nomark _)))))
    (pss_one (ps_ret pe_bl))
    pss_nil)
    (pss_cons (ps_if (pt_not (pt_val (pe_callB (u_all (K := K) rfl rfl) (by rfl) T.b_all (by decide +kernel) (pa_cons (pe_lc (own := [("one", 3)]) (by rfl) sc_is_order.nd (u_seq (K := K) rfl (pv 1)) (blkOk_by (own := [("one", 3)]) (N := ["web", "thing", "places", "one", "other"]) (sc := defScope s_is_order) (by decide +kernel)) (fun _ _ _ _ _ => (pg_name (i := 3) sc_is_order.nd rfl (by first | exact Or.inl rfl | exact Or.inr rfl))) (fun _ _ _ _ _ => pts_nil) (fun _ _ _ _ _ => (pe_and (pe_callB (u_isi (K := K) rfl) (by rfl) T.b_isinstance (by decide +kernel) (pa_cons (pv 3) (pa_cons (pe_bltn (v := .ty "str") (u := .type "str") rfl T.b_str (by decide +kernel) rfl) pa_nil))) (pe_one (pe_cmpR (u_in (K := K) rfl hu65) (pv 3) (pe_ix (u_ix (K := K) rfl hu1) (pv 0) pe_int (fun _ _ => rfl)) (by rfl)))))) pa_nil))))
    (pss_one (ps_ret pe_bl))
    pss_nil)
    (pss_cons (ps_set (i := 2) sc_is_order.nd rfl (by first | exact Or.inl rfl | exact Or.inr rfl) (pe_cal (K := K) rfl C_places_of (hr.mono (by decide)) (by rfl) (pa_cons (pv 1) pa_nil)))
    (pss_one (ps_ret (pe_and (pe_cmpR (u_eq (K := K) rfl hu64) (pe_callB (u_len (K := K) rfl) (by rfl) T.b_len (by decide +kernel) (pa_cons (pv 2) pa_nil)) (pe_callB (u_len (K := K) rfl) (by rfl) T.b_len (by decide +kernel) (pa_cons (pv 1) pa_nil)) (nomark _)) (pe_one (pe_callB (u_all (K := K) rfl rfl) (by rfl) T.b_all (by decide +kernel) (pa_cons (pe_lc (own := [("one", 3), ("other", 4)]) (by rfl) sc_is_order.nd (u_seq (K := K) rfl (pe_ix (u_ix (K := K) rfl hu1) (pv 0) pe_int (fun _ _ => rfl))) (blkOk_by (own := [("one", 3), ("other", 4)]) (N := ["web", "thing", "places", "one", "other"]) (sc := defScope s_is_order) (by decide +kernel)) (fun _ _ _ _ _ => (u_tup (K := K) (n := 2) rfl (by rfl) (pgs_cons (pg_name (i := 3) sc_is_order.nd rfl (by first | exact Or.inl rfl | exact Or.inr rfl)) (pgs_cons (pg_name (i := 4) sc_is_order.nd rfl (by first | exact Or.inl rfl | exact Or.inr rfl)) pgs_nil)))) (fun _ _ _ _ _ => pts_nil) (fun _ _ _ _ _ => (pe_cmpR op_lt (pe_ix (u_ix (K := K) rfl hu1) (pv 2) (pv 3) (fun _ _ => rfl)) (pe_ix (u_ix (K := K) rfl hu1) (pv 2) (pv 4) (fun _ _ => rfl)) (nomark _)))) pa_nil))))))))), fun ds g R hS => ?_⟩
  obtain ⟨ts, es, d, rfl, rfl, h1, h2, hn, hts, hq, z⟩ := hS
  show ExS K _ [some _, some _, none, none, none] _ _
  have no : ¬ IsOrdD ts es d → Res ([] : List O).length R (.f (.bool false)) [] := fun h => Res.dat (fun _ h => by cases h) (z false ⟨fun q => (by cases q), fun q => absurd q h⟩)
  refine xs_gateC (∃ ds, d = .list ds ∧ ds.length = ts.length) ?_ ?_
  · refine t_or (t_not (t_B (e_isi (e_var rfl ⟨tyF d, _, ty_odd hq _, kit_ty "list" (.inl rfl), _, rfl, ?_⟩))))
    by_cases hl : tyF d = "list"
    case neg =>
      rw [decide_eq_false hl]
      refine iteNF (iteT (x_ret (e_bl (no fun q => ?_))))
      obtain ⟨ys, rfl, _⟩ := q
      exact hl rfl
    obtain ⟨ds, rfl⟩ := ty_list hl
    rw [decide_eq_true hl]
    refine iteNT (t_test (e_op (e_cb (a_cons (e_var rfl (a_nil (c_lenQ isq_list (e_cb (a_cons (e_op (e_var rfl (e_int (o_ixQ isq_tup rfl (a_nil (c_lenQ isq_tup ?_)))))))))))))))
    rw [sPy_len]
    refine o_neI ⟨_, rfl, ?_⟩
    refine nd_both (fun c => ?_) (fun c => ⟨rfl, ds, rfl, by omega⟩)
    refine x_ret (e_bl (no fun q => ?_))
    obtain ⟨ys, e, hO⟩ := q
    injection e with e
    subst e
    rw [sPy_len, hO.len] at c
    exact c rfl
  rintro ⟨ds, rfl, hdl⟩
  have hb : briefQs (unplAll ds) = true := by simpa [unpl, briefQ] using hq
  refine xs_gateC (ds.all (inT ts) = true) ?_ ?_
  · refine t_cut 0 (Nat.le_refl _) (t_not (t_B (e_cb (a_cons (e_lcF (fun d => some (.bool (inT ts d))) (gg_name (by decide)) (e_var rfl ⟨ds, isq_list, by omega, fun d hd => ?_, ?_⟩))))))
    · have hbd := briefs_mem hb d hd
      refine g_name (t_yes (e_andV (e_isi (e_var rfl ⟨tyF d, _, ty_odd hbd _, kit_ty "str" (.inr (.inl rfl)), _, rfl, ?_⟩))))
      by_cases hs : tyF d = "str"
      · obtain ⟨x, rfl⟩ := ty_str hs
        rw [decide_eq_true hs]
        refine iteT (e_op (e_var rfl (e_op (e_var rfl (e_int (o_ixQ isq_tup rfl (o_inQS isq_tup ⟨_, rfl, rfl, rfl⟩))))))) 
      · rw [decide_eq_false hs]
        refine iteF ⟨_, rfl, ?_, rfl⟩
        cases d <;> first | rfl | exact absurd rfl hs
    rw [mapB]
    refine a_nil (c_all (isl_own (n := 0) rfl) ⟨_, rfl, ⟨UndO.all trivial, ?_⟩⟩)
    have e : (ds.map (inT ts)).all id = ds.all (inT ts) := by rw [List.all_map]; rfl
    rw [e]
    cases q : ds.all (inT ts) with
    | true => exact iteNT ⟨rfl, rfl⟩
    | false =>
      refine iteNF (x_ret (e_bl (no fun w => ?_)))
      obtain ⟨ys, e2, hO⟩ := w
      injection e2 with e2
      subst e2
      rw [inT_str hO.in_] at q
      cases q
  intro hall
  obtain ⟨ys, rfl, hys⟩ := inT_all hall
  rw [sPy_len] at hdl
  refine xs_set (e_call0 (a_cons (e_var rfl (a_nil ⟨trivial, ys, rfl, rfl, by omega, fun kvs hP => ?_⟩))))
  refine x_ret (e_andV (e_op (e_cb (a_cons (e_var rfl (a_nil (c_lenD (n := 0) rfl (e_cb (a_cons (e_var rfl (a_nil (c_lenQ isq_list ?_))))))))))))
  rw [sPy_len]
  refine o_eqI ⟨_, rfl, ?_⟩
  refine d_both (fun c => ?_) (fun c => ?_)
  case refine_2 =>
    refine Res.dat (fun _ h => by cases h) (z false ⟨fun q => (by cases q), fun q => ?_⟩)
    obtain ⟨zs, e, hO⟩ := q
    injection e with e
    have e := sPy_inj e
    subst e
    rw [hP.eq hO.nd, fD_len] at c
    exact absurd rfl c
  have nd := hP.nd (by have : (kvs.length : Int) = (ys.length : Int) := c
                       omega)
  have hkv := hP.eq nd
  subst hkv
  have hpm : ∀ x, x ∈ ts → x ∈ ys := fun x hx => Classical.byContradiction fun hc => by
    have := nodup_le (List.nodup_cons.mpr ⟨hc, nd⟩) fun y hy => (List.mem_cons.mp hy).elim (fun q => by rw [q]; exact hx) (hys y)
    rw [List.length_cons] at this
    omega
  refine e_cb (a_cons (e_lcF (fun d => some (.bool (match d with | .tuple [.str a, .str b] => decide (ys.idxOf a < ys.idxOf b) | _ => false))) (gg_tup (gg_cons (gg_name (by decide)) (gg_cons (gg_name (by decide)) gg_nil mono_name) mono_name)) (e_op (e_var rfl (e_int (o_ixQ isq_tup rfl ⟨pPy es, isq_tup, by rw [pPy_len]; omega, fun d hd => ?_, ?_⟩))))))
  · obtain ⟨e, he, rfl⟩ := List.mem_map.mp hd
    have m0 := hpm _ (hts e he).1
    have m1 := hpm _ (hts e he).2
    refine g_tup rfl (g_cons (g_name (g_cons (g_name (g_nil ?_)))))
    refine t_yes (e_op (e_op (e_var rfl (e_var rfl (o_ixDk (n := 0) (k := .inr e.1) rfl (fD_look _ _ _ m0) ?_)))))
    refine e_op (e_var rfl (e_var rfl (o_ixDk (n := 0) (k := .inr e.2) rfl (fD_look _ _ _ m1) (o_I0b ⟨_, rfl, ?_, rfl⟩))))
    have : decide (ys.idxOf e.1 < ys.idxOf e.2) = decide (((ys.idxOf e.1 : Nat) : Int) < ((ys.idxOf e.2 : Nat) : Int)) := decide_eq_decide.mpr (by omega)
    exact congrArg (fun b => some (PyData.bool b)) this
  rw [mapB]
  refine a_nil (c_all (isl_own (n := 1) rfl) ?_)
  refine Res.dat (fun _ h => by cases h) (z _ ?_)
  rw [List.all_map, List.all_eq_true]
  constructor
  · intro q
    refine ⟨ys, rfl, nd, hdl, hys, fun e he => ⟨hpm _ (hts e he).1, hpm _ (hts e he).2, ?_⟩⟩
    have := q (.tuple [.str e.1, .str e.2]) (List.mem_map.mpr ⟨e, he, rfl⟩)
    simpa using this
  · rintro ⟨zs, e, hO⟩ d hd
    injection e with e
    have e := sPy_inj e
    subst e
    obtain ⟨e, he, rfl⟩ := List.mem_map.mp hd
    have := (hO.fw e he).2.2
    simpa using this
theorem tyTD {l : List O} {x : PyData} {ds : List PyData} (h : TupD x ds) : TyD l (.f x) "tuple" := by rcases h with rfl | rfl <;> rfl
theorem kitTT : kitB "tuple" "tuple" = some true := by decide +kernel
theorem kitSS : kitB "str" "str" = some true := by decide +kernel
def S_is_knot : Spec3 := fun ds g R => ∃ x k, ds = [.f x] ∧ g = [] ∧ KnotD x k ∧ k.2.length ≤ 1000 ∧ (∀ c ∈ k.2, c.length ≤ 20000) ∧ R (.f (.bool (k.2.all nmB))) []
theorem names_all (ks : List Str) : (sPy ks).filterMap (fun d => some (PyData.bool (nameD d))) = bPy (ks.map nmB) := by
  induction ks with
  | nil => rfl
  | cons x xs ih =>
    show (PyData.str x :: sPy xs).filterMap _ = _
    rw [List.filterMap_cons_some (f := fun d => some (PyData.bool (nameD d))) (a := PyData.str x) (b := PyData.bool (nmB x)) rfl, ih]
    rfl
abbrev s_is_knot : Stmt := top 34
theorem sc_is_knot : FnScope ["thing", "child"] ["thing"] (defScope s_is_knot) := ⟨rfl, rfl, rfl, by decide +kernel, rfl, by decide +kernel, by decide +kernel⟩
set_option maxHeartbeats 4000000 in
theorem ok_is_knot (T : Bi K mg) (Df : DefAt K mg "is_knot" s_is_knot ["thing"]) (C_is_name : Cal P w K mg base 1 "is_name" ["thing"] S_is_name) : Cal P w K mg base 2 "is_knot" ["thing"] S_is_knot := by
  refine ok4 Df sc_is_knot (fun ds g R h0 => by obtain ⟨_, _, h, _⟩ := h0; rw [h]; rfl) (fun cdv A outer s H E f hr => ?_)
  have hu1 := hu_of hr.r
  have hu64 := hr.units
  have hu65 : (A.deeper (PyProof.Rows.envOfC "is_knot" (defScope s_is_knot) s.heap.objs.size f cdv)).units + 65 < cLine := by have := hr.un; omega
  refine ⟨_, (pss_cons (ps_if (PW.pt (pw_or (pt_not (pt_val (pe_callB (u_isi (K := K) rfl) (by rfl) T.b_isinstance (by decide +kernel) (pa_cons (pv 0) (pa_cons (pe_bltn (v := .ty "tuple") (u := .type "tuple") rfl T.b_tuple (by decide +kernel) rfl) pa_nil))))) (pw_or1 (pt_cmpR (u_ne (K := K) rfl hu64) (pe_callB (u_len (K := K) rfl) (by rfl) T.b_len (by decide +kernel) (pa_cons (pv 0) pa_nil)) pe_int (nomark _)))))
    (pss_one (ps_ret pe_bl))
    pss_nil)
    (pss_cons (ps_if (PW.pt (pw_or (pt_not (pt_val (pe_callB (u_isi (K := K) rfl) (by rfl) T.b_isinstance (by decide +kernel) (pa_cons (pe_ix (u_ix (K := K) rfl hu1) (pv 0) pe_int (fun _ _ => rfl)) (pa_cons (pe_bltn (v := .ty "str") (u := .type "str") rfl T.b_str (by decide +kernel) rfl) pa_nil))))) (pw_or1 (pt_not (pt_val (pe_callB (u_isi (K := K) rfl) (by rfl) T.b_isinstance (by decide +kernel) (pa_cons (pe_ix (u_ix (K := K) rfl hu1) (pv 0) pe_int (fun _ _ => rfl)) (pa_cons (pe_bltn (v := .ty "tuple") (u := .type "tuple") rfl T.b_tuple (by decide +kernel) rfl) pa_nil))))))))
    (pss_one (ps_ret pe_bl))
    pss_nil)
    (pss_one (ps_ret (pe_callB (u_all (K := K) rfl rfl) (by rfl) T.b_all (by decide +kernel) (pa_cons (pe_lc (own := [("child", 1)]) (by rfl) sc_is_knot.nd (u_seq (K := K) rfl (pe_ix (u_ix (K := K) rfl hu1) (pv 0) pe_int (fun _ _ => rfl))) (blkOk_by (own := [("child", 1)]) (N := ["thing", "child"]) (sc := defScope s_is_knot) (by decide +kernel)) (fun _ _ _ _ _ => (pg_name (i := 1) sc_is_knot.nd rfl (by first | exact Or.inl rfl | exact Or.inr rfl))) (fun _ _ _ _ _ => pts_nil) (fun _ _ _ _ _ => (pe_cal (K := K) rfl C_is_name (hr.mono (by decide)) (by rfl) (pa_cons (pv 1) pa_nil)))) pa_nil)))))), fun ds g R hS => ?_⟩
  obtain ⟨x, k, rfl, rfl, ⟨y, rfl, hy⟩, hl, hc, z⟩ := hS
  show ExS K _ [some _, none] _ _
  refine xs_gate (t_or (t_not (t_B (e_isi (e_var rfl ⟨"tuple", true, rfl, kitTT, true, rfl, ?_⟩))))) ?_
  · refine iteNT (t_test (e_op (e_cb (a_cons (e_var rfl (a_nil (c_lenQ isq_tup (e_int (o_neI ⟨_, rfl, ?_⟩)))))))))
    exact iteF rfl
  refine xs_gate (t_or (t_not (t_B (e_isi (e_op (e_var rfl (e_int (o_ixQ isq_tup (atI_zero _ _) ⟨"str", true, rfl, kitSS, true, rfl, ?_⟩)))))))) ?_
  · refine iteNT (t_not (t_B (e_isi (e_op (e_var rfl (e_int (o_ixQ isq_tup (show atI [PyData.str k.1, y] 1 = some y from rfl) ⟨"tuple", true, tyTD hy, kitTT, true, rfl, ?_⟩)))))))
    exact iteNT rfl
  refine x_ret (e_cb (a_cons (e_lcTF (fun d => some (.bool (nameD d))) (gg_name (by decide)) (e_op (e_var rfl (e_int (o_ixQ isq_tup (show atI [PyData.str k.1, y] 1 = some y from rfl) ⟨y, sPy k.2, rfl, hy, by rw [sPy_len]; omega, fun d hd => ?_, ?_⟩)))))))
  · obtain ⟨c, hcm, rfl⟩ := sPy_mem hd
    refine g_name (t_yes (e_call0 (a_cons (e_var rfl (a_nil ⟨trivial, .str c, rfl, rfl, usual_str c, fun y e => ?_, ?_⟩)))))
    · cases e; have := hc c hcm; omega
    · exact ⟨_, rfl, rfl, rfl⟩
  rw [names_all]
  refine a_nil (c_all (isl_own (n := 0) rfl) ?_)
  have e : (k.2.map nmB).all id = k.2.all nmB := by rw [List.all_map]; rfl
  rw [e]
  exact Res.dat (fun _ h => by cases h) z
/-- the top is come to in so many steps -/
def rootF (ks : Knots) : Nat → Str → Bool
  | 0, x => decide (x = nil0)
  | n + 1, x => decide (x = nil0) || match L3.knotOf ks x with
    | some k => rootF ks n k
    | none => false
theorem rootF_top (ks : Knots) (n : Nat) : rootF ks n nil0 = true := by
  cases n with
  | zero => exact decide_eq_true rfl
  | succ n => unfold rootF; rw [decide_eq_true rfl]; rfl
theorem knotOf_mem {ks : Knots} {u : Str} (h : u ∈ unitsF ks) : ∃ k, L3.knotOf ks u = some k ∧ k ∈ ks.map (·.1) := by
  obtain ⟨p, hp, hu⟩ := List.mem_flatMap.mp h
  unfold L3.knotOf
  cases e : ks.find? fun k => decide (u ∈ k.2) with
  | none => exact absurd (List.find?_eq_none.mp e p hp) (by simpa using hu)
  | some q => exact ⟨q.1, rfl, List.mem_map.mpr ⟨q, List.mem_of_find?_eq_some e, rfl⟩⟩
def S_is_rooted : Spec3 := fun ds g R => ∃ d ks ts wt ws u, ds = [.f d, .f (.str u)] ∧ g = [] ∧ HouseR d ks ts wt ws ∧ (∀ k ∈ ks.map (·.1), k = nil0 ∨ k ∈ unitsF ks) ∧ (u = nil0 ∨ u ∈ unitsF ks) ∧ R (.f (.bool (rootF ks 6 u))) []
abbrev s_is_rooted : Stmt := top 35
theorem sc_is_rooted : FnScope ["house", "name", "many"] ["house", "name"] (defScope s_is_rooted) := ⟨rfl, rfl, rfl, by decide +kernel, rfl, by decide +kernel, by decide +kernel⟩
set_option maxHeartbeats 4000000 in
theorem ok_is_rooted (T : Bi K mg) (Df : DefAt K mg "is_rooted" s_is_rooted ["house", "name"]) (C_knot_of : Cal P w K mg base 1 "knot_of" ["house", "one"] S_knot_of) : Cal P w K mg base 2 "is_rooted" ["house", "name"] S_is_rooted := by
  refine ok4 Df sc_is_rooted (fun ds g R h0 => by obtain ⟨_, _, _, _, _, _, h, _⟩ := h0; rw [h]; rfl) (fun cdv A outer s H E f hr => ?_)
  have hu1 := hu_of hr.r
  have hu64 := hr.units
  have hu65 : (A.deeper (PyProof.Rows.envOfC "is_rooted" (defScope s_is_rooted) s.heap.objs.size f cdv)).units + 65 < cLine := by have := hr.un; omega
  refine ⟨_, (pss_cons (ps_set (i := 2) sc_is_rooted.nd rfl (by first | exact Or.inl rfl | exact Or.inr rfl) pe_int)
    (pss_cons (ps_while PassesOwn.never (pt_cmpR (u_ne (K := K) rfl hu64) (pv 1) (pe_gs rfl T.gc_TOP) (nomark _))
    (pss_cons (ps_set (i := 2) sc_is_rooted.nd rfl (by first | exact Or.inl rfl | exact Or.inr rfl) (pe_op (u_add (K := K) rfl) (pv 2) pe_int))
    (pss_cons (ps_if (pt_cmpR op_gt (pv 2) (pe_gi rfl T.gc_MOST_WITHIN) (nomark _))
    (pss_one (ps_ret pe_bl))
    pss_nil)
    (pss_one (ps_set (i := 1) sc_is_rooted.nd rfl (by first | exact Or.inl rfl | exact Or.inr rfl) (pe_cal (K := K) rfl C_knot_of (hr.mono (by decide)) (by rfl) (pa_cons (pv 0) (pa_cons (pv 1) pa_nil))))))))
    (pss_one (ps_ret pe_bl)))), fun ds g R hS => ?_⟩
  obtain ⟨d, ks, ts, wt, ws, u, rfl, rfl, hH, hk, hu, z⟩ := hS
  show ExS K _ [some _, some _, none] _ _
  refine xs_set (e_int ?_)
  show ExS K _ [some (.f d), some (.f (.str u)), some (.f (.int 0))] [] _
  refine xs_while (fun ρ' l' => ∃ (m : Nat) (v : Str), ρ' = [some (.f d), some (.f (.str v)), some (.f (.int m))] ∧ l' = [] ∧ m ≤ 6 ∧ (v = nil0 ∨ v ∈ unitsF ks) ∧ rootF ks 6 u = rootF ks (6 - m) v) (fun ρ' _ => 7 - slotI ρ' 2) ⟨0, u, rfl, rfl, by omega, hu, rfl⟩ ?_
  rintro ρ' l' ⟨m, v, rfl, rfl, hm, hv, he⟩
  refine t_test (e_op (e_var rfl (e_str (o_neS ⟨_, rfl, ?_⟩))))
  refine nd_both (fun c1 => ?_) (fun c1 => ?_)
  · have hv : v ∈ unitsF ks := hv.resolve_left c1
    obtain ⟨k, hkn, hkm⟩ := knotOf_mem hv
    refine xs_set (e_op (e_var rfl (e_int (o_addI ?_))))
    refine xs_gateC (m < 6) ?_ fun hlt => ?_
    · refine t_test (e_op (e_var rfl (e_int (o_I0b ⟨_, rfl, ?_⟩))))
      refine d_both (fun c2 => ?_) (fun c2 => ⟨rfl, by omega⟩)
      have e6 : m = 6 := by omega
      subst e6
      have : rootF ks 6 u = false := by rw [he]; exact decide_eq_false c1
      rw [this] at z
      exact x_ret (e_bl (Res.dat (fun _ h => by cases h) z))
    refine x_set (e_call0 (a_cons (e_var rfl (a_cons (e_var rfl (a_nil ⟨trivial, d, ks, ts, wt, ws, v, rfl, rfl, hH, ?_⟩))))))
    rw [hkn]
    refine ⟨⟨m + 1, k, rfl, rfl, by omega, hk k hkm, ?_⟩, ?_⟩
    · have c1 : ¬ v = nil0 := c1
      rw [he, show 6 - m = (6 - (m + 1)) + 1 from by omega]
      show (decide (v = nil0) || _) = _
      rw [decide_eq_false c1, Bool.false_or, hkn]
    · show 7 - ((m : Int) + 1).toNat < 7 - (m : Int).toNat
      omega
  · have c1 : v = nil0 := c1
    subst c1
    rw [he, rootF_top] at z
    exact x_ret (e_bl (Res.dat (fun _ h => by cases h) z))
structure KnotsOk (ks : Knots) : Prop where
  ne : ks ≠ []
  nm : ∀ k ∈ ks, ∀ x ∈ k.2, nmB x = true
  top : (ks.map (·.1)).head? = some nil0
  gnd : (groupsF ks).Nodup
  len : (unitsF ks).length ≤ 60
  und : (unitsF ks).Nodup
  grp : ∀ g ∈ groupsF ks, g ∈ unitsF ks
  root : ∀ g ∈ groupsF ks, rootF ks 6 g = true
/-- names of real signs, not too long -/
def NmsS (ks : Knots) : Prop := ∀ k ∈ ks, ∀ c ∈ k.2, c.length ≤ 20000
theorem knots_eq {ks : Knots} (hne : ks ≠ []) (ht : (ks.map (·.1)).head? = some nil0) : ks.map (·.1) = nil0 :: groupsF ks := by
  cases ks with
  | nil => exact absurd rfl hne
  | cons k ks =>
    have : k.1 = nil0 := Option.some.inj ht
    show k.1 :: ks.map (·.1) = nil0 :: ks.map (·.1)
    rw [this]
theorem paired_all {xs : List PyData} {ks : Knots} (h : Paired KnotD xs ks) {F : PyData → Option PyData} (hF : ∀ x k, x ∈ xs → KnotD x k → F x = some (.bool (k.2.all nmB))) : xs.filterMap F = bPy (ks.map fun k => k.2.all nmB) := by
  induction h with
  | nil => rfl
  | @cons x k xs ks h1 h2 ih =>
    rw [List.filterMap_cons_some (hF x k List.mem_cons_self h1), ih fun y q hy => hF y q (List.mem_cons_of_mem _ hy)]
    rfl
theorem knotD_one {x : PyData} {k k' : Str × List Str} (h : KnotD x k) (h' : KnotD x k') : k = k' := by
  obtain ⟨y, rfl, hy⟩ := h
  obtain ⟨y', e, hy'⟩ := h'
  injection e with e
  injection e with e1 e
  injection e with e2 _
  injection e1 with e1
  subst e2
  have : sPy k.2 = sPy k'.2 := by
    rcases hy with rfl | rfl
    · rcases hy' with e | e
      · injection e
      · cases e
    · rcases hy' with e | e
      · cases e
      · injection e with e
        injection e with e _
        injection e with _ e
        injection e
  exact Prod.ext e1 (sPy_inj this)
open Classical in
noncomputable def knF (ks : Knots) (x : PyData) : Option PyData := if h : ∃ k ∈ ks, KnotD x k then some (.bool (h.choose.2.all nmB)) else none
theorem knF_eq {ks : Knots} {x : PyData} {k : Str × List Str} (hk : k ∈ ks) (h : KnotD x k) : knF ks x = some (.bool (k.2.all nmB)) := by
  unfold knF
  have hx : ∃ k ∈ ks, KnotD x k := ⟨k, hk, h⟩
  rw [dif_pos hx, knotD_one hx.choose_spec.2 h]
theorem knotsD_mem {xs : List PyData} {ks : Knots} (h : Paired KnotD xs ks) {x : PyData} (hx : x ∈ xs) : ∃ k ∈ ks, KnotD x k := by
  obtain ⟨i, hi⟩ := List.getElem?_of_mem hx
  obtain ⟨k, hk, hd⟩ := knotsD_get h hi
  exact ⟨k, List.mem_of_getElem? hk, hd⟩
theorem mapS (p : Str → Bool) (xs : List Str) : (sPy xs).filterMap (fun d => match d with | .str x => some (PyData.bool (p x)) | _ => none) = bPy (xs.map p) := by
  induction xs with
  | nil => rfl
  | cons w ws ih =>
    show (PyData.str w :: sPy ws).filterMap _ = _
    rw [List.filterMap_cons_some (f := fun d => match d with | .str x => some (PyData.bool (p x)) | _ => none) (a := PyData.str w) (b := PyData.bool (p w)) rfl, ih]
    rfl
def S_are_knots : Spec3 := fun ds g R => ∃ x xs ks, ds = [.f x] ∧ g = [] ∧ TupD x xs ∧ Paired KnotD xs ks ∧ ks.length ≤ 100 ∧ (unitsF ks).length ≤ 100 ∧ NmsS ks ∧ ∀ b, (b = true ↔ KnotsOk ks) → R (.f (.bool b)) []
abbrev s_are_knots : Stmt := top 36
theorem sc_are_knots : FnScope ["thing", "house", "groups", "units", "name", "one"] ["thing"] (defScope s_are_knots) := ⟨rfl, rfl, rfl, by decide +kernel, rfl, by decide +kernel, by decide +kernel⟩
set_option maxHeartbeats 4000000 in
theorem ok_are_knots (T : Bi K mg) (Df : DefAt K mg "are_knots" s_are_knots ["thing"]) (C_is_rooted : Cal P w K mg base 2 "is_rooted" ["house", "name"] S_is_rooted) (C_units_of : Cal P w K mg base 1 "units_of" ["house"] S_units_of) (C_groups_of : Cal P w K mg base 1 "groups_of" ["house"] S_groups_of) (C_is_knot : Cal P w K mg base 2 "is_knot" ["thing"] S_is_knot) : Cal P w K mg base 3 "are_knots" ["thing"] S_are_knots := by
  refine ok4 Df sc_are_knots (fun ds g R h0 => by obtain ⟨_, _, _, h, _⟩ := h0; rw [h]; rfl) (fun cdv A outer s H E f hr => ?_)
  have hu1 := hu_of hr.r
  have hu64 := hr.units
  have hu65 : (A.deeper (PyProof.Rows.envOfC "are_knots" (defScope s_are_knots) s.heap.objs.size f cdv)).units + 65 < cLine := by have := hr.un; omega
  refine ⟨_, (pss_cons (ps_if (PW.pt (pw_or (pt_not (pt_val (pe_callB (u_isi (K := K) rfl) (by rfl) T.b_isinstance (by decide +kernel) (pa_cons (pv 0) (pa_cons (pe_bltn (v := .ty "tuple") (u := .type "tuple") rfl T.b_tuple (by decide +kernel) rfl) pa_nil))))) (pw_or (pt_cmpR (u_eq (K := K) rfl hu64) (pe_callB (u_len (K := K) rfl) (by rfl) T.b_len (by decide +kernel) (pa_cons (pv 0) pa_nil)) pe_int (nomark _)) (pw_or1 (pt_not (pt_val (pe_callB (u_all (K := K) rfl rfl) (by rfl) T.b_all (by decide +kernel) (pa_cons (pe_lc (own := [("one", 5)]) (by rfl) sc_are_knots.nd (u_seq (K := K) rfl (pv 0)) (blkOk_by (own := [("one", 5)]) (N := ["thing", "house", "groups", "units", "name", "one"]) (sc := defScope s_are_knots) (by decide +kernel)) (fun _ _ _ _ _ => (pg_name (i := 5) sc_are_knots.nd rfl (by first | exact Or.inl rfl | exact Or.inr rfl))) (fun _ _ _ _ _ => pts_nil) (fun _ _ _ _ _ => (pe_cal (K := K) rfl C_is_knot (hr.mono (by decide)) (by rfl) (pa_cons (pv 5) pa_nil)))) pa_nil))))))))
    (pss_one (ps_ret pe_bl))
    pss_nil)
    (pss_cons (ps_set (i := 1) sc_are_knots.nd rfl (by first | exact Or.inl rfl | exact Or.inr rfl) (pe_tup (pa_cons (pv 0) (pa_cons (pe_tup pa_nil) (pa_cons (pe_tup pa_nil) (pa_cons (pe_tup pa_nil) pa_nil))))))
    (pss_cons (ps_set (i := 2) sc_are_knots.nd rfl (by first | exact Or.inl rfl | exact Or.inr rfl) (pe_cal (K := K) rfl C_groups_of (hr.mono (by decide)) (by rfl) (pa_cons (pv 1) pa_nil)))
    (pss_cons (ps_set (i := 3) sc_are_knots.nd rfl (by first | exact Or.inl rfl | exact Or.inr rfl) (pe_cal (K := K) rfl C_units_of (hr.mono (by decide)) (by rfl) (pa_cons (pv 1) pa_nil)))
    (pss_cons (ps_if (PW.pt (pw_or (pt_cmpR (u_ne (K := K) rfl hu64) (pe_ix (u_ix (K := K) rfl hu1) (pe_ix (u_ix (K := K) rfl hu1) (pv 0) pe_int (fun _ _ => rfl)) pe_int (fun _ _ => rfl)) (pe_gs rfl T.gc_TOP) (nomark _)) (pw_or1 (pt_cmpR op_lt (pe_lenSetT (K := K) rfl rfl (by rfl) T.b_len (by rfl) T.b_set (pv 2)) (pe_callB (u_len (K := K) rfl) (by rfl) T.b_len (by decide +kernel) (pa_cons (pv 2) pa_nil)) (nomark _)))))
    (pss_one (ps_ret pe_bl))
    pss_nil)
    (pss_cons (ps_if (PW.pt (pw_or (pt_cmpR op_gt (pe_callB (u_len (K := K) rfl) (by rfl) T.b_len (by decide +kernel) (pa_cons (pv 3) pa_nil)) (pe_gi rfl T.gc_MOST_UNITS) (nomark _)) (pw_or1 (pt_cmpR op_lt (pe_lenSetT (K := K) rfl rfl (by rfl) T.b_len (by rfl) T.b_set (pv 3)) (pe_callB (u_len (K := K) rfl) (by rfl) T.b_len (by decide +kernel) (pa_cons (pv 3) pa_nil)) (nomark _)))))
    (pss_one (ps_ret pe_bl))
    pss_nil)
    (pss_one (ps_ret (pe_and (pe_callB (u_all (K := K) rfl rfl) (by rfl) T.b_all (by decide +kernel) (pa_cons (pe_lc (own := [("name", 4)]) (by rfl) sc_are_knots.nd (u_seq (K := K) rfl (pv 2)) (blkOk_by (own := [("name", 4)]) (N := ["thing", "house", "groups", "units", "name", "one"]) (sc := defScope s_are_knots) (by decide +kernel)) (fun _ _ _ _ _ => (pg_name (i := 4) sc_are_knots.nd rfl (by first | exact Or.inl rfl | exact Or.inr rfl))) (fun _ _ _ _ _ => pts_nil) (fun _ _ _ _ _ => (pe_cmpR (u_in (K := K) rfl hu65) (pv 4) (pv 3) (by rfl)))) pa_nil)) (pe_one (pe_callB (u_all (K := K) rfl rfl) (by rfl) T.b_all (by decide +kernel) (pa_cons (pe_lc (own := [("name", 4)]) (by rfl) sc_are_knots.nd (u_seq (K := K) rfl (pv 2)) (blkOk_by (own := [("name", 4)]) (N := ["thing", "house", "groups", "units", "name", "one"]) (sc := defScope s_are_knots) (by decide +kernel)) (fun _ _ _ _ _ => (pg_name (i := 4) sc_are_knots.nd rfl (by first | exact Or.inl rfl | exact Or.inr rfl))) (fun _ _ _ _ _ => pts_nil) (fun _ _ _ _ _ => (pe_cal (K := K) rfl C_is_rooted (hr.mono (by decide)) (by rfl) (pa_cons (pv 1) (pa_cons (pv 4) pa_nil))))) pa_nil)))))))))))), fun ds g R hS => ?_⟩
  obtain ⟨x, xs, ks, rfl, rfl, hx, hks, hkl, hul, hnm, z⟩ := hS
  show ExS K _ [some _, none, none, none, none, none] _ _
  have no : ∀ {l : List O}, ¬ KnotsOk ks → Res 0 R (.f (.bool false)) l := fun h => Res.dat (fun _ h => by cases h) (z false ⟨fun q => (by cases q), fun q => absurd q h⟩)
  have hxl : xs.length = ks.length := hks.length
  have kin : ∀ k ∈ ks, k.2.length ≤ 1000 := fun k hk => by
    have h1 : k.2.length ≤ (unitsF ks).length := by
      obtain ⟨a, b, rfl⟩ := List.append_of_mem hk
      unfold unitsF
      rw [List.flatMap_append, List.flatMap_cons, List.length_append, List.length_append]
      omega
    omega
  refine xs_gateC (ks ≠ [] ∧ ∀ k ∈ ks, ∀ x ∈ k.2, nmB x = true) ?_ fun hg => ?_
  · refine t_cut 0 (Nat.le_refl _) (t_or (t_not (t_B (e_isi (e_var rfl ⟨"tuple", true, tyTD hx, kitTT, true, rfl, ?_⟩)))))
    refine iteNT (t_or (t_test (e_op (e_cb (a_cons (e_var rfl (a_nil (c_lenTD hx (e_int (o_eqI ⟨_, rfl, ?_⟩))))))))))
    rw [hxl]
    refine d_both (fun c => ⟨(fun _ h => by cases h), x_ret (e_bl (no fun q => q.ne (List.length_eq_zero_iff.mp (by omega))))⟩) (fun c => ?_)
    refine t_not (t_B (e_cb (a_cons (e_lcTF (knF ks) (gg_name (by decide)) (e_var rfl ⟨x, xs, rfl, hx, by omega, fun d hd => ?_, ?_⟩)))))
    · obtain ⟨k, hk, hd2⟩ := knotsD_mem hks hd
      refine g_name (t_yes (e_call0 (a_cons (e_var rfl (a_nil ⟨trivial, d, k, rfl, rfl, hd2, kin k hk, hnm k hk, ?_⟩)))))
      exact ⟨_, rfl, knF_eq hk hd2, rfl⟩
    have epa := paired_all hks (F := knF ks) fun y k hy hk => by
      obtain ⟨k', hk', hd2⟩ := knotsD_mem hks hy
      rw [knF_eq hk' hd2, knotD_one hd2 hk]
    rw [epa]
    refine a_nil (c_all (isl_own (n := 0) rfl) ⟨_, rfl, (fun _ h => by cases h), ?_⟩)
    have e : (ks.map fun k => k.2.all nmB).all id = ks.all fun k => k.2.all nmB := by rw [List.all_map]; rfl
    rw [e]
    cases ha : ks.all fun k => k.2.all nmB with
    | false =>
      refine iteNF (x_ret (e_bl (no fun q => ?_)))
      rw [List.all_eq_true.mpr fun k hk => List.all_eq_true.mpr fun x hx => q.nm k hk x hx] at ha
      cases ha
    | true => exact iteNT ⟨rfl, fun q => c (by rw [q]; rfl), fun k hk x hx => List.all_eq_true.mp (List.all_eq_true.mp ha k hk) x hx⟩
  obtain ⟨hne, hnb⟩ := hg
  have hR : HouseR (.tuple [x, .tuple [], .tuple [], .tuple []]) ks [] [] [] := ⟨_, _, _, _, _, rfl, hx, hks, .inl rfl, .inl rfl, .inl rfl⟩
  have hHS : HouseS ks [] [] [] := ⟨hkl, hul, by decide, by decide, by decide⟩
  have hgl : (groupsF ks).length ≤ 100 := by unfold groupsF; rw [List.length_map, List.length_tail]; omega
  refine xs_set (e_tup (a_cons (e_var rfl (a_cons (e_tup (a_nil ⟨[], rfl, Nat.le_of_ble_eq_true rfl, a_cons (e_tup (a_nil ⟨[], rfl, Nat.le_of_ble_eq_true rfl, a_cons (e_tup (a_nil ⟨[], rfl, Nat.le_of_ble_eq_true rfl, a_nil ⟨[x, .tuple [], .tuple [], .tuple []], rfl, Nat.le_of_ble_eq_true rfl, ?_⟩⟩))⟩))⟩))))))
  refine xs_set (e_frz (e_call0 (a_cons (e_var rfl (a_nil ⟨trivial, _, ks, [], [], [], rfl, rfl, hR, hHS, 0, _, rfl, rfl, ?_⟩)))))
  refine xs_set (e_frz (e_call0 (a_cons (e_var rfl (a_nil ⟨trivial, _, ks, [], [], [], rfl, rfl, hR, hHS, 1, _, rfl, rfl, ?_⟩)))))
  obtain ⟨k0, kr, rfl⟩ : ∃ k0 kr, ks = k0 :: kr := by
    cases ks with
    | nil => exact absurd rfl hne
    | cons a b => exact ⟨a, b, rfl⟩
  obtain ⟨x0, xr, rfl⟩ : ∃ x0 xr, xs = x0 :: xr := by
    cases xs with
    | nil => simp at hxl
    | cons a b => exact ⟨a, b, rfl⟩
  have hd0 : KnotD x0 k0 := by cases hks with | cons h _ => exact h
  obtain ⟨y0, rfl, hy0⟩ := hd0
  generalize hks' : k0 :: kr = ks at *
  show ExS K _ [some (.f x), some (.f (.tuple [x, .tuple [], .tuple [], .tuple []])), some (.f (.list (sPy (groupsF ks)))), some (.f (.list (sPy (unitsF ks)))), none, none] [.gone, .gone] _
  have htop : (ks.map (·.1)).head? = some k0.1 := by rw [← hks']; rfl
  have lenset : ∀ {l : List O} {ρ : List (Option D)} {i : Nat} {vs : List Str} {R : D → List O → Prop}, ρ[i]? = some (some (.f (.list (sPy vs)))) → vs.length ≤ 4000 → R (.f (.int (onceL vs).length)) l → EvS K (tLenSetT K (tVar i)) ρ l R := fun h1 h2 h3 => e_lenSet (e_var h1 ⟨_, isl_list, h2, h3⟩)
  refine xs_gateC (k0.1 = nil0 ∧ (groupsF ks).Nodup) ?_ fun hg => ?_
  · refine t_or (t_test (e_op (e_op (e_op (e_var rfl (e_int (o_ixTD hx (atI_zero _ _) (e_int (o_ixQ isq_tup (atI_zero _ _) (e_str (o_neS ⟨_, rfl, ?_⟩)))))))))))
    refine nd_both (fun c => x_ret (e_bl (no fun q => c ?_))) (fun c1 => ?_)
    · have := q.top
      rw [htop] at this
      exact Option.some.inj this
    refine t_test (e_op (lenset rfl (by omega) (e_cb (a_cons (e_var rfl (a_nil (c_lenQ isq_list (o_I0b ⟨_, rfl, ?_⟩))))))))
    rw [sPy_len]
    have hle := onceL_len (groupsF ks)
    refine d_both (fun c => x_ret (e_bl (no fun q => by have := onceL_full.mpr q.gnd; omega))) (fun c => ⟨rfl, c1, onceL_full.mp (by omega)⟩)
  refine xs_gateC ((unitsF ks).length ≤ 60 ∧ (unitsF ks).Nodup) ?_ fun hg2 => ?_
  · refine t_or (t_test (e_op (e_cb (a_cons (e_var rfl (a_nil (c_lenQ isq_list (e_int (o_I0b ⟨_, rfl, ?_⟩)))))))))
    rw [sPy_len]
    refine d_both (fun c => x_ret (e_bl (no fun q => by have := q.len; omega))) (fun c1 => ?_)
    refine t_test (e_op (lenset rfl (by omega) (e_cb (a_cons (e_var rfl (a_nil (c_lenQ isq_list (o_I0b ⟨_, rfl, ?_⟩))))))))
    rw [sPy_len]
    have hle := onceL_len (unitsF ks)
    refine d_both (fun c => x_ret (e_bl (no fun q => by have := onceL_full.mpr q.und; omega))) (fun c => ⟨rfl, by omega, onceL_full.mp (by omega)⟩)
  refine x_ret (e_andV (e_cb (a_cons (e_lcF (fun d => match d with | .str v => some (.bool (decide (v ∈ unitsF ks))) | _ => none) (gg_name (by decide)) (e_var rfl ⟨sPy (groupsF ks), isq_list, by rw [sPy_len]; omega, fun d hd => ?_, ?_⟩)))))
  · obtain ⟨v, hv, rfl⟩ := sPy_mem hd
    exact g_name (t_yes (e_op (e_var rfl (e_var rfl (o_inS isq_list ⟨_, rfl, rfl, rfl⟩)))))
  rw [mapS]
  refine a_nil (c_all (isl_own (n := 2) rfl) ⟨_, rfl, ?_⟩)
  have e : ((groupsF ks).map fun v => decide (v ∈ unitsF ks)).all id = (groupsF ks).all fun v => decide (v ∈ unitsF ks) := by rw [List.all_map]; rfl
  rw [e]
  cases ha : (groupsF ks).all fun v => decide (v ∈ unitsF ks) with
  | false =>
    refine iteF (no fun q => ?_)
    rw [List.all_eq_true.mpr fun g hg => decide_eq_true (q.grp g hg)] at ha
    cases ha
  | true =>
    have hgu : ∀ g ∈ groupsF ks, g ∈ unitsF ks := fun g hg => of_decide_eq_true (List.all_eq_true.mp ha g hg)
    have hkn : ∀ k ∈ ks.map (·.1), k = nil0 ∨ k ∈ unitsF ks := fun k hk => by
      rw [knots_eq hne (by rw [htop, hg.1])] at hk
      rcases List.mem_cons.mp hk with h | h
      · exact .inl h
      · exact .inr (hgu k h)
    refine iteT (e_cb (a_cons (e_lcF (fun d => match d with | .str v => some (.bool (rootF ks 6 v)) | _ => none) (gg_name (by decide)) (e_var rfl ⟨sPy (groupsF ks), isq_list, by rw [sPy_len]; omega, fun d hd => ?_, ?_⟩))))
    · obtain ⟨v, hv, rfl⟩ := sPy_mem hd
      refine g_name (t_yes (e_call0 (a_cons (e_var rfl (a_cons (e_var rfl (a_nil ⟨trivial, _, ks, [], [], [], v, rfl, rfl, hR, hkn, .inr (hgu v hv), ?_⟩)))))))
      exact ⟨_, rfl, rfl, rfl⟩
    rw [mapS]
    refine a_nil (c_all (isl_own (n := 3) rfl) ?_)
    have e : ((groupsF ks).map fun v => rootF ks 6 v).all id = (groupsF ks).all fun v => rootF ks 6 v := by rw [List.all_map]; rfl
    rw [e]
    refine Res.dat (fun _ h => by cases h) (z _ ⟨fun q => ?_, fun q => List.all_eq_true.mpr q.root⟩)
    exact ⟨hne, hnb, by rw [htop, hg.1], hg.2, hg2.1, hg2.2, hgu, List.all_eq_true.mp q⟩
/-- how far from the top -/
def levF (ks : Knots) : Nat → Str → Int
  | 0, _ => 0
  | n + 1, x => if x = nil0 then 0 else match L3.knotOf ks x with
    | some k => 1 + levF ks n k
    | none => 0
theorem levF_rng (ks : Knots) : ∀ (n : Nat) (x : Str), 0 ≤ levF ks n x ∧ levF ks n x ≤ n
  | 0, _ => ⟨Int.le_refl _, Int.le_refl _⟩
  | n + 1, x => by
    unfold levF
    split
    · omega
    · cases L3.knotOf ks x with
      | none => simp only; omega
      | some k => have := levF_rng ks n k; simp only; omega
theorem levF_up {ks : Knots} : ∀ {n : Nat} {x : Str}, rootF ks n x = true → levF ks (n + 1) x = levF ks n x
  | 0, x, h => by
    have : x = nil0 := of_decide_eq_true h
    unfold levF
    rw [if_pos this]
  | n + 1, x, h => by
    by_cases c : x = nil0
    · unfold levF; rw [if_pos c, if_pos c]
    · have h' : (decide (x = nil0) || match L3.knotOf ks x with | some k => rootF ks n k | none => false) = true := h
      rw [decide_eq_false c, Bool.false_or] at h'
      have e1 : levF ks (n + 2) x = match L3.knotOf ks x with | some k => 1 + levF ks (n + 1) k | none => 0 := if_neg c
      have e2 : levF ks (n + 1) x = match L3.knotOf ks x with | some k => 1 + levF ks n k | none => 0 := if_neg c
      rw [e1, e2]
      cases e : L3.knotOf ks x with
      | none => rfl
      | some k =>
        rw [e] at h'
        show 1 + levF ks (n + 1) k = 1 + levF ks n k
        rw [levF_up h']
theorem mem_unitsF {ks : Knots} {u : Str} : u ∈ unitsF ks ↔ ∃ k, Stands ks u k := by
  unfold unitsF
  rw [List.mem_flatMap]
  exact ⟨fun ⟨p, hp, hu⟩ => ⟨p.1, p.2, hp, hu⟩, fun ⟨k, xs, hp, hu⟩ => ⟨(k, xs), hp, hu⟩⟩
theorem flat_one {α β : Type} {f : α → List β} : ∀ {xs : List α} {a b : α} {u : β}, (xs.flatMap f).Nodup → a ∈ xs → b ∈ xs → u ∈ f a → u ∈ f b → a = b
  | [], _, _, _, _, h, _, _, _ => by cases h
  | x :: xs, a, b, u, h, ha, hb, h1, h2 => by
    rw [List.flatMap_cons, List.nodup_append] at h
    obtain ⟨_, n2, n3⟩ := h
    rcases List.mem_cons.mp ha with ea | ha'
    · rcases List.mem_cons.mp hb with eb | hb'
      · rw [ea, eb]
      · exact absurd rfl (n3 u (by rw [← ea]; exact h1) u (List.mem_flatMap.mpr ⟨b, hb', h2⟩))
    · rcases List.mem_cons.mp hb with eb | hb'
      · exact absurd rfl (n3 u (by rw [← eb]; exact h2) u (List.mem_flatMap.mpr ⟨a, ha', h1⟩))
      · exact flat_one n2 ha' hb' h1 h2
theorem flat_in {α β : Type} {f : α → List β} : ∀ {xs : List α} {a : α}, (xs.flatMap f).Nodup → a ∈ xs → (f a).Nodup
  | [], _, _, h => by cases h
  | x :: xs, a, h, ha => by
    rw [List.flatMap_cons, List.nodup_append] at h
    rcases List.mem_cons.mp ha with ea | ha'
    · rw [ea]; exact h.1
    · exact flat_in h.2.1 ha'
theorem KnotsOk.names {ks : Knots} (h : KnotsOk ks) : ks.map (·.1) = nil0 :: groupsF ks := knots_eq h.ne h.top
theorem KnotsOk.nt {ks : Knots} (h : KnotsOk ks) : ∀ u ∈ unitsF ks, u ≠ nil0 := fun u hu e => by
  obtain ⟨p, hp, hm⟩ := List.mem_flatMap.mp hu
  have := (nmB_iff.mp (h.nm p hp u hm)).2.1
  rw [e] at this
  exact absurd this (by decide)
theorem KnotsOk.tree {ks : Knots} (h : KnotsOk ks) : Tree ks (unitsF ks) 6 (levF ks 6) := by
  have hn := h.names
  have nd : (ks.map (·.1)).Nodup := by
    rw [hn, List.nodup_cons]
    exact ⟨fun q => h.nt _ (h.grp _ q) rfl, h.gnd⟩
  have one : ∀ u k k', Stands ks u k → Stands ks u k' → k = k' := fun u k k' ⟨xs, h1, h2⟩ ⟨ys, h3, h4⟩ => congrArg Prod.fst (flat_one (f := fun p : Str × List Str => p.2) h.und h1 h3 h2 h4)
  refine ⟨nd, ?_, one, fun u => mem_unitsF, h.nt, fun k hk hne => ?_, fun k hk => flat_in (f := fun p : Str × List Str => p.2) h.und hk, h.und, fun u k hs hg => ?_, fun k _ => levF_rng ks 6 k.1, ?_⟩
  · cases hks : ks with
    | nil => exact absurd hks h.ne
    | cons k kr =>
      have := h.top
      rw [hks] at this
      have : k.1 = nil0 := Option.some.inj this
      exact ⟨k.2, kr, by rw [← this]⟩
  · have : k.1 ∈ ks.map (·.1) := List.mem_map.mpr ⟨k, hk, rfl⟩
    rw [hn] at this
    exact h.grp _ ((List.mem_cons.mp this).resolve_left hne)
  · have hu : u ∈ unitsF ks := mem_unitsF.mpr ⟨k, hs⟩
    rw [hn] at hg
    have hg := (List.mem_cons.mp hg).resolve_left (h.nt u hu)
    have hr := h.root u hg
    obtain ⟨k', hk', _⟩ := knotOf_mem hu
    have : k' = k := one u k' k (knotOf_some hk') hs
    subst this
    have h' : (decide (u = nil0) || match L3.knotOf ks u with | some k => rootF ks 5 k | none => false) = true := hr
    rw [decide_eq_false (h.nt u hu), Bool.false_or, hk'] at h'
    have e1 : levF ks 6 u = match L3.knotOf ks u with | some k => 1 + levF ks 5 k | none => 0 := if_neg (h.nt u hu)
    rw [e1, hk']
    have : levF ks 6 k' = levF ks 5 k' := levF_up h'
    show levF ks 6 k' < 1 + levF ks 5 k'
    omega
  · have h1 := nodup_le h.gnd h.grp
    have h2 : ks.length = (groupsF ks).length + 1 := by
      have := congrArg List.length hn
      rw [List.length_map, List.length_cons] at this
      exact this
    omega
theorem KnotsOk.treeB {ks : Knots} (h : KnotsOk ks) : TreeB ks (unitsF ks) := ⟨6, _, h.tree, by decide, h.len⟩
def S_is_pair : Spec3 := fun ds g R => ∃ (a b : Str) (us : List Str), ds = [.f (.tuple [.str a, .str b]), .f (.list (sPy us))] ∧ g = [] ∧ us.length ≤ 1000 ∧ R (.f (.bool (decide (a ∈ us ∧ b ∈ us)))) []
abbrev s_is_pair : Stmt := top 37
theorem sc_is_pair : FnScope ["thing", "units"] ["thing", "units"] (defScope s_is_pair) := ⟨rfl, rfl, rfl, by decide +kernel, rfl, by decide +kernel, by decide +kernel⟩
set_option maxHeartbeats 4000000 in
theorem ok_is_pair (T : Bi K mg) (Df : DefAt K mg "is_pair" s_is_pair ["thing", "units"]) : Cal P w K mg base 1 "is_pair" ["thing", "units"] S_is_pair := by
  refine ok4 Df sc_is_pair (fun ds g R h0 => by obtain ⟨_, _, _, h, _⟩ := h0; rw [h]; rfl) (fun cdv A outer s H E f hr => ?_)
  have hu1 := hu_of hr.r
  have hu64 := hr.units
  have hu65 : (A.deeper (PyProof.Rows.envOfC "is_pair" (defScope s_is_pair) s.heap.objs.size f cdv)).units + 65 < cLine := by have := hr.un; omega
  refine ⟨_, (pss_one (ps_ret (pe_and (pe_callB (u_isi (K := K) rfl) (by rfl) T.b_isinstance (by decide +kernel) (pa_cons (pv 0) (pa_cons (pe_bltn (v := .ty "tuple") (u := .type "tuple") rfl T.b_tuple (by decide +kernel) rfl) pa_nil))) (pe_and (pe_cmpR (u_eq (K := K) rfl hu64) (pe_callB (u_len (K := K) rfl) (by rfl) T.b_len (by decide +kernel) (pa_cons (pv 0) pa_nil)) pe_int (nomark _)) (pe_and (pe_cmpR (u_in (K := K) rfl hu65) (pe_ix (u_ix (K := K) rfl hu1) (pv 0) pe_int (fun _ _ => rfl)) (pv 1) (by rfl)) (pe_one (pe_cmpR (u_in (K := K) rfl hu65) (pe_ix (u_ix (K := K) rfl hu1) (pv 0) pe_int (fun _ _ => rfl)) (pv 1) (by rfl)))))))), fun ds g R hS => ?_⟩
  obtain ⟨a, b, us, rfl, rfl, hl, z⟩ := hS
  show ExS K _ [some _, some _] _ _
  refine x_ret (e_andV (e_isi (e_var rfl ⟨"tuple", true, rfl, kitTT, true, rfl, iteT ?_⟩)))
  refine e_andV (e_op (e_cb (a_cons (e_var rfl (a_nil (c_lenQ isq_tup (e_int (o_eqI ⟨true, rfl, iteT ?_⟩))))))))
  refine e_andV (e_op (e_op (e_var rfl (e_int (o_ixQ isq_tup (atI_zero _ _) (e_var rfl (o_inS isq_list ⟨_, rfl, ?_⟩)))))))
  by_cases c1 : a ∈ us
  · rw [decide_eq_true c1]
    refine iteT (e_op (e_op (e_var rfl (e_int (o_ixQ isq_tup (show atI [PyData.str a, .str b] 1 = some (.str b) from rfl) (e_var rfl (o_inS isq_list ?_)))))))
    have e : decide (a ∈ us ∧ b ∈ us) = decide (b ∈ us) := decide_eq_decide.mpr ⟨fun h => h.2, fun h => ⟨c1, h⟩⟩
    rw [e] at z
    exact Res.dat (fun _ h => by cases h) z
  · rw [decide_eq_false c1]
    rw [decide_eq_false (fun h : a ∈ us ∧ b ∈ us => c1 h.1)] at z
    exact iteF (Res.dat (fun _ h => by cases h) z)
def PairOk (ks : Knots) (us : List Str) (e : Str × Str) : Prop := e.1 ∈ us ∧ e.2 ∈ us ∧ ∃ k x y, partF ks e.1 e.2 = some (k, x, y)
def TiesAll (ks : Knots) (us : List Str) (es : Ties) : Prop := es.Nodup ∧ (∀ e ∈ es, PairOk ks us e) ∧ es.length ≤ 200
theorem ties_bad {ks : Knots} {us : List Str} {es : Ties} {n : Nat} {e : Str × Str} (h : es[n]? = some e) (hb : ¬ PairOk ks us e ∨ e ∈ es.take n) : ¬ TiesAll ks us es := fun ⟨h1, h2, _⟩ => by
  rcases hb with hb | hb
  · exact hb (h2 e (List.mem_of_getElem? h))
  · obtain ⟨m, hm⟩ := List.getElem?_of_mem hb
    rw [List.getElem?_take] at hm
    split at hm
    · have := (List.getElem?_inj (List.getElem?_eq_some_iff.mp h).1 h1).mp (h.trans hm.symm)
      omega
    · cases hm
theorem nodup_snoc {α : Type} {xs : List α} {x : α} (h : xs.Nodup) (hx : x ∉ xs) : (xs ++ [x]).Nodup := by
  rw [List.nodup_append]
  exact ⟨h, by simp, fun a ha b hb q => hx (by have e := List.mem_singleton.mp hb; rw [← e, ← q]; exact ha)⟩
theorem ties_next {ks : Knots} {us : List Str} {es : Ties} {n : Nat} {e : Str × Str} (h : es[n]? = some e) (hp : PairOk ks us e) (hn : e ∉ es.take n) (hI : (es.take n).Nodup ∧ ∀ e ∈ es.take n, PairOk ks us e) : (es.take (n + 1)).Nodup ∧ ∀ e ∈ es.take (n + 1), PairOk ks us e := by
  rw [L3.take_next h]
  refine ⟨?_, fun f hf => ?_⟩
  · exact nodup_snoc hI.1 hn
  · rcases List.mem_append.mp hf with hf | hf
    · exact hI.2 f hf
    · rw [List.mem_singleton.mp hf]; exact hp
theorem onced_look (es : Ties) (e : Str × Str) : (lookD (onced es) (kT e)).isSome = decide (e ∈ es) := by
  unfold lookD onced
  rw [Option.isSome_map, Bool.eq_iff_iff, List.find?_isSome, decide_eq_true_eq]
  constructor
  · rintro ⟨x, hx, hk⟩
    obtain ⟨f, hf, rfl⟩ := List.mem_map.mp hx
    rw [← kT_inj (of_decide_eq_true hk)]
    exact hf
  · exact fun h => ⟨_, List.mem_map.mpr ⟨e, h, rfl⟩, decide_eq_true rfl⟩
theorem onced_new {es : Ties} {e : Str × Str} (h : e ∉ es) : putD (onced es) (kT e) (.bool true) = onced (es ++ [e]) := by
  rw [onced_put]
  unfold addOnce
  rw [if_neg h]
def S_are_ties : Spec3 := fun ds g R => ∃ d ks ts wt ws, ds = [.f d] ∧ g = [] ∧ HouseR d ks ts wt ws ∧ HouseS ks ts wt ws ∧ TreeB ks (unitsF ks) ∧ ∀ b, (b = true ↔ TiesAll ks (unitsF ks) (ts ++ wt)) → R (.f (.bool b)) []
abbrev s_are_ties : Stmt := top 38
theorem sc_are_ties : FnScope ["house", "units", "seen", "some", "pair"] ["house"] (defScope s_are_ties) := ⟨rfl, rfl, rfl, by decide +kernel, rfl, by decide +kernel, by decide +kernel⟩
set_option maxHeartbeats 4000000 in
theorem ok_are_ties (T : Bi K mg) (Df : DefAt K mg "are_ties" s_are_ties ["house"]) (C_is_pair : Cal P w K mg base 1 "is_pair" ["thing", "units"] S_is_pair) (C_parting : Cal P w K mg base 3 "parting" ["house", "one", "other"] S_parting) (C_units_of : Cal P w K mg base 1 "units_of" ["house"] S_units_of) : Cal P w K mg base 4 "are_ties" ["house"] S_are_ties := by
  refine ok4 Df sc_are_ties (fun ds g R h0 => by obtain ⟨_, _, _, _, _, h, _⟩ := h0; rw [h]; rfl) (fun cdv A outer s H E f hr => ?_)
  have hu1 := hu_of hr.r
  have hu64 := hr.units
  have hu65 : (A.deeper (PyProof.Rows.envOfC "are_ties" (defScope s_are_ties) s.heap.objs.size f cdv)).units + 65 < cLine := by have := hr.un; omega
  refine ⟨_, (pss_cons (ps_set (i := 1) sc_are_ties.nd rfl (by first | exact Or.inl rfl | exact Or.inr rfl) (pe_cal (K := K) rfl C_units_of (hr.mono (by decide)) (by rfl) (pa_cons (pv 0) pa_nil)))
    (pss_cons (ps_set (i := 2) sc_are_ties.nd rfl (by first | exact Or.inl rfl | exact Or.inr rfl) pe_dnewT)
    (pss_cons (ps_for PassesOwn.never rfl (u_seq (K := K) rfl (pe_slice (u_slA (K := K) rfl) (pv 0) (po_some pe_int) (po_some pe_int))) (pg_name (i := 3) sc_are_ties.nd rfl (by first | exact Or.inl rfl | exact Or.inr rfl))
    (pss_cons (ps_if (pt_not (pt_val (pe_callB (u_isi (K := K) rfl) (by rfl) T.b_isinstance (by decide +kernel) (pa_cons (pv 3) (pa_cons (pe_bltn (v := .ty "tuple") (u := .type "tuple") rfl T.b_tuple (by decide +kernel) rfl) pa_nil)))))
    (pss_one (ps_ret pe_bl))
    pss_nil)
    (pss_one (ps_for PassesOwn.never rfl (u_seq (K := K) rfl (pv 3)) (pg_name (i := 4) sc_are_ties.nd rfl (by first | exact Or.inl rfl | exact Or.inr rfl))
    (pss_cons (ps_if (PW.pt (pw_or (pt_not (pt_val (pe_cal (K := K) rfl C_is_pair (hr.mono (by decide)) (by rfl) (pa_cons (pv 4) (pa_cons (pv 1) pa_nil))))) (pw_or (pt_cmpR (u_in (K := K) rfl hu65) (pv 4) (pv 2) (by rfl)) (pw_or1 (pt_cmpR op_isN1 (pe_cal (K := K) rfl C_parting (hr.mono (by decide)) (by rfl) (pa_cons (pv 0) (pa_cons (pe_ix (u_ix (K := K) rfl hu1) (pv 4) pe_int (fun _ _ => rfl)) (pa_cons (pe_ix (u_ix (K := K) rfl hu1) (pv 4) pe_int (fun _ _ => rfl)) pa_nil)))) pe_non (nomark _))))))
    (pss_one (ps_ret pe_bl))
    pss_nil)
    (pss_one (ps_dput hu1 (pv 2) (pv 4) pe_bl rfl)))))))
    (pss_one (ps_ret (pe_cmpR op_le (pe_callB call_len_dT (by rfl) T.b_len (by decide +kernel) (pa_cons (pv 2) pa_nil)) (pe_gi rfl T.gc_MOST_TIES) (nomark _))))))), fun ds g R hS => ?_⟩
  obtain ⟨d, ks, ts, wt, ws, rfl, rfl, hH, hS, hB, z⟩ := hS
  obtain ⟨kd, xs, td, wd, sd, rfl, h1, h2, h3, h4, h5⟩ := hH.ex
  show ExS K _ [some _, none, none, none, none] _ _
  obtain ⟨_, hul, htl, hwl, _⟩ := id hS
  have no : ∀ {l : List O}, ¬ TiesAll ks (unitsF ks) (ts ++ wt) → Res 0 R (.f (.bool false)) l := fun h => Res.dat (fun _ h => by cases h) (z false ⟨fun q => (by cases q), fun q => absurd q h⟩)
  have hes : (ts ++ wt).length = ts.length + wt.length := List.length_append
  refine xs_set (e_frz (e_call0 (a_cons (e_var rfl (a_nil ⟨trivial, _, ks, ts, wt, ws, rfl, rfl, hH, hS, 0, _, rfl, rfl, ?_⟩)))))
  refine xs_set (e_dT ?_)
  show ExS K _ [some (.f (.tuple [kd, td, wd, sd])), some (.f (.list (sPy (unitsF ks)))), some (.own 1), none, none] [.gone, .dctT (onced [])] _
  -- one row of ties from the n-th on
  have row : ∀ (n : Nat) (x : PyData) (es : Ties), TupD x (pPy es) → (∀ j e, es[j]? = some e → (ts ++ wt)[n + j]? = some e) → n + es.length ≤ (ts ++ wt).length → ∀ (a : Option D) (E : E3) (u : TS), ((((ts ++ wt).take n).Nodup ∧ ∀ e ∈ (ts ++ wt).take n, PairOk ks (unitsF ks) e)) →
      True := fun _ _ _ _ _ _ _ _ _ _ => trivial
  clear row
  refine xs_forTD (e_sl (e_var rfl (o_some (e_int ⟨1, rfl, o_some (e_int ⟨3, rfl, s_TD (.inl rfl) fun y hy => ⟨y, _, rfl, hy, fun i ρ' l' => ∃ n a b, ρ' = [some (.f (.tuple [kd, td, wd, sd])), some (.f (.list (sPy (unitsF ks)))), some (.own 1), a, b] ∧ l' = [.gone, .dctT (onced ((ts ++ wt).take n))] ∧ n ≤ (ts ++ wt).length ∧ (((ts ++ wt).take n).Nodup ∧ ∀ e ∈ (ts ++ wt).take n, PairOk ks (unitsF ks) e) ∧ (i = 0 → n = 0) ∧ (i = 1 → n = ts.length) ∧ (i = 2 → n = ts.length + wt.length), ⟨0, none, none, rfl, rfl, Nat.zero_le _, ⟨List.nodup_nil, fun _ h => by cases h⟩, fun _ => rfl, (fun h => by cases h), (fun h => by cases h)⟩, ?_, ?_⟩⟩)⟩))))
  · rintro i d0 ρ' l' hd ⟨n, a, b, rfl, rfl, hn, hI, i0, i1, i2⟩
    obtain ⟨es, hes1, hes2, hes3⟩ : ∃ es : Ties, TupD d0 (pPy es) ∧ (∀ j e, es[j]? = some e → (ts ++ wt)[n + j]? = some e) ∧ (n + es.length ≤ (ts ++ wt).length ∧ (i + 1 = 1 → n + es.length = ts.length) ∧ (i + 1 = 2 → n + es.length = ts.length + wt.length) ∧ i < 2) := by
      match i, hd with
      | 0, hd =>
        cases hd
        have := i0 rfl
        subst this
        exact ⟨ts, h3, fun j e h => by rw [Nat.zero_add, List.getElem?_append_left (List.getElem?_eq_some_iff.mp h).1]; exact h, by omega, by omega, by omega, by omega⟩
      | 1, hd =>
        cases hd
        have := i1 rfl
        subst this
        exact ⟨wt, h4, fun j e h => by rw [List.getElem?_append_right (Nat.le_add_right _ _), Nat.add_sub_cancel_left]; exact h, by omega, by omega, by omega, by omega⟩
      | i + 2, hd => cases hd
    obtain ⟨e1, e2, e3, e4⟩ := hes3
    refine g_name (xs_gate (t_not (t_B (e_isi (e_var rfl ⟨"tuple", true, tyTD hes1, kitTT, true, rfl, iteNT rfl⟩)))) ?_)
    refine x_forTD (e_var rfl ⟨d0, pPy es, rfl, hes1, fun j ρ' l' => ∃ b, ρ' = [some (.f (.tuple [kd, td, wd, sd])), some (.f (.list (sPy (unitsF ks)))), some (.own 1), some (.f d0), b] ∧ l' = [.gone, .dctT (onced ((ts ++ wt).take (n + j)))] ∧ (((ts ++ wt).take (n + j)).Nodup ∧ ∀ e ∈ (ts ++ wt).take (n + j), PairOk ks (unitsF ks) e), ⟨b, rfl, rfl, hI⟩, ?_, ?_⟩)
    · rintro j d1 ρ' l' hd1 ⟨b1, rfl, rfl, hJ⟩
      obtain ⟨e, he, rfl⟩ := pPy_get hd1
      have hat := hes2 j e he
      have hlen : ((ts ++ wt).take (n + j)).length ≤ 800 := by rw [List.length_take]; omega
      refine g_name ?_
      refine xs_gateC (PairOk ks (unitsF ks) e ∧ e ∉ (ts ++ wt).take (n + j)) ?_ fun hg => ?_
      · refine t_or (t_not (t_B (e_call0 (a_cons (e_var rfl (a_cons (e_var rfl (a_nil ⟨trivial, e.1, e.2, unitsF ks, rfl, rfl, by omega, _, rfl, ?_⟩))))))))
        refine nd_both (fun c => x_ret (e_bl (no (ties_bad hat (.inl fun q => c ⟨q.1, q.2.1⟩))))) (fun c => ?_)
        refine t_or (t_test (e_op (e_var rfl (e_var rfl (o_inDt (n := 1) (k := kT e) rfl rfl ⟨_, rfl, ?_⟩)))))
        rw [if_neg Bool.false_ne_true, onced_look]
        refine d_both (fun c2 => x_ret (e_bl (no (ties_bad hat (.inr c2))))) (fun c2 => ?_)
        refine t_test (e_op (e_call0 (a_cons (e_var rfl (a_cons (e_op (e_var rfl (e_int (o_ixQ isq_tup (atI_zero _ _) (a_cons (e_op (e_var rfl (e_int (o_ixQ isq_tup (show atI [PyData.str e.1, .str e.2] 1 = some (.str e.2) from rfl) (a_nil ⟨trivial, _, ks, ts, wt, ws, unitsF ks, e.1, e.2, rfl, rfl, hH, hB, c.1, c.2, ?_⟩)))))))))))))))
        cases hp : partF ks e.1 e.2 with
        | none =>
          refine e_non (o_isN ⟨true, rfl, iteT (x_ret (e_bl (no (ties_bad hat (.inl fun q => ?_)))))⟩)
          obtain ⟨_, _, k, x, y, h⟩ := q
          rw [hp] at h
          cases h
        | some t =>
          obtain ⟨k, x, y⟩ := t
          exact e_non (o_isN ⟨false, rfl, iteF ⟨rfl, ⟨c.1, c.2, k, x, y, hp⟩, c2⟩⟩)
      · refine x_dputT (e_bl (e_var rfl (e_var rfl ⟨1, _, kT e, .bool true, rfl, rfl, rfl, rfl, rfl, by rw [onced_len]; omega, ?_⟩)))
        refine ⟨_, rfl, ?_, ?_⟩
        · rw [onced_new hg.2, ← Nat.add_assoc, L3.take_next hat]
          rfl
        · rw [← Nat.add_assoc]
          exact ties_next hat hg.1 hg.2 hJ
    · rintro ρ' l' ⟨b1, rfl, rfl, hJ⟩
      rw [pPy_len] at hJ ⊢
      exact ⟨n + es.length, _, _, rfl, rfl, e1, hJ, (fun h => by omega), e2, e3⟩
  · rintro ρ' l' ⟨n, a, b, rfl, rfl, hn, hI, i0, i1, i2⟩
    have hi2 : n = ts.length + wt.length := i2 rfl
    subst hi2
    rw [← hes, List.take_length] at hI ⊢
    refine x_ret (e_op (e_cb (a_cons (e_var rfl (a_nil (c_lenDT (n := 1) rfl ?_))))))
    rw [onced_len]
    refine e_int (o_I0b ?_)
    exact Res.dat (fun _ h => by cases h) (z _ ⟨fun q => ⟨hI.1, hI.2, by have := of_decide_eq_true q; omega⟩, fun q => decide_eq_true (by have := q.2.2; omega)⟩)
def kn0 (ks : Knots) (u : Str) : Str := (L3.knotOf ks u).getD nil0
structure WantsAll (ks : Knots) (us : List Str) (ws : Ties) : Prop where
  ok : ∀ q ∈ ws, q.2 ∈ us ∧ (q.1 = "first" ∨ q.1 = "last")
  nd : (ws.map (·.2)).Nodup
  kn : (ws.map fun q => (q.1, kn0 ks q.2)).Nodup
def seenW (ks : Knots) (ws : Ties) : List (MK × Bool) := ws.flatMap fun q => [(.inl q.2, true), (.inr (q.1, kn0 ks q.2), true)]
theorem seenW_app (ks : Knots) (ws : Ties) (q : Str × Str) : seenW ks (ws ++ [q]) = (seenW ks ws ++ [(.inl q.2, true)]) ++ [(.inr (q.1, kn0 ks q.2), true)] := by
  unfold seenW
  rw [List.flatMap_append]
  simp
theorem seenW_len (ks : Knots) (ws : Ties) : (seenW ks ws).length = 2 * ws.length := by
  induction ws with
  | nil => rfl
  | cons q ws ih =>
    unfold seenW at ih ⊢
    rw [List.flatMap_cons, List.length_append, ih]
    simp only [List.length_cons, List.length_nil]
    omega
theorem seenW_l (ks : Knots) (ws : Ties) (u : Str) : hasM (seenW ks ws) (.inl u) = decide (u ∈ ws.map (·.2)) := by
  unfold hasM seenW
  rw [Bool.eq_iff_iff, List.any_eq_true, decide_eq_true_eq, List.mem_map]
  constructor
  · rintro ⟨x, hx, hk⟩
    obtain ⟨q, hq, hm⟩ := List.mem_flatMap.mp hx
    have hk := of_decide_eq_true hk
    simp only [List.mem_cons, List.not_mem_nil, or_false] at hm
    rcases hm with rfl | rfl
    · injection hk with hk
      exact ⟨q, hq, hk⟩
    · cases hk
  · rintro ⟨q, hq, rfl⟩
    exact ⟨(.inl q.2, true), List.mem_flatMap.mpr ⟨q, hq, by simp⟩, decide_eq_true rfl⟩
theorem seenW_r (ks : Knots) (ws : Ties) (p : Str × Str) : hasM (seenW ks ws) (.inr p) = decide (p ∈ ws.map fun q => (q.1, kn0 ks q.2)) := by
  unfold hasM seenW
  rw [Bool.eq_iff_iff, List.any_eq_true, decide_eq_true_eq, List.mem_map]
  constructor
  · rintro ⟨x, hx, hk⟩
    obtain ⟨q, hq, hm⟩ := List.mem_flatMap.mp hx
    have hk := of_decide_eq_true hk
    simp only [List.mem_cons, List.not_mem_nil, or_false] at hm
    rcases hm with rfl | rfl
    · cases hk
    · injection hk with hk
      exact ⟨q, hq, hk⟩
  · rintro ⟨q, hq, rfl⟩
    exact ⟨(.inr (q.1, kn0 ks q.2), true), List.mem_flatMap.mpr ⟨q, hq, by simp⟩, decide_eq_true rfl⟩
theorem hasM_app (kvs : List (MK × Bool)) (x : MK × Bool) (k : MK) : hasM (kvs ++ [x]) k = (hasM kvs k || decide (x.1 = k)) := by
  unfold hasM
  rw [List.any_append]
  simp
theorem putMD_new {kvs : List (MK × Bool)} {k : MK} {b : Bool} (h : hasM kvs k = false) : putMD kvs k b = kvs ++ [(k, b)] := by
  unfold putMD
  rw [h, if_neg Bool.false_ne_true]
theorem nodup_bad {α β : Type} {f : α → β} {ws : List α} {n : Nat} {q : α} (h : ws[n]? = some q) (hm : f q ∈ (ws.take n).map f) : ¬ (ws.map f).Nodup := fun nd => by
  rw [List.map_take] at hm
  obtain ⟨m, hm⟩ := List.getElem?_of_mem hm
  rw [List.getElem?_take] at hm
  split at hm
  · have h' : (ws.map f)[n]? = some (f q) := by rw [List.getElem?_map, h]; rfl
    have := (List.getElem?_inj (List.getElem?_eq_some_iff.mp h').1 nd).mp (h'.trans hm.symm)
    omega
  · cases hm
def S_are_wants : Spec3 := fun ds g R => ∃ d ks ts wt ws, ds = [.f d] ∧ g = [] ∧ HouseR d ks ts wt ws ∧ HouseS ks ts wt ws ∧ ∀ b, (b = true ↔ WantsAll ks (unitsF ks) ws) → R (.f (.bool b)) []
abbrev s_are_wants : Stmt := top 39
theorem sc_are_wants : FnScope ["house", "units", "seen", "want", "knot"] ["house"] (defScope s_are_wants) := ⟨rfl, rfl, rfl, by decide +kernel, rfl, by decide +kernel, by decide +kernel⟩
set_option maxHeartbeats 4000000 in
theorem ok_are_wants (T : Bi K mg) (Df : DefAt K mg "are_wants" s_are_wants ["house"]) (C_knot_of : Cal P w K mg base 1 "knot_of" ["house", "one"] S_knot_of) (C_units_of : Cal P w K mg base 1 "units_of" ["house"] S_units_of) : Cal P w K mg base 2 "are_wants" ["house"] S_are_wants := by
  refine ok4 Df sc_are_wants (fun ds g R h0 => by obtain ⟨_, _, _, _, _, h, _⟩ := h0; rw [h]; rfl) (fun cdv A outer s H E f hr => ?_)
  have hu1 := hu_of hr.r
  have hu64 := hr.units
  have hu65 : (A.deeper (PyProof.Rows.envOfC "are_wants" (defScope s_are_wants) s.heap.objs.size f cdv)).units + 65 < cLine := by have := hr.un; omega
  refine ⟨_, (pss_cons (ps_set (i := 1) sc_are_wants.nd rfl (by first | exact Or.inl rfl | exact Or.inr rfl) (pe_cal (K := K) rfl C_units_of (hr.mono (by decide)) (by rfl) (pa_cons (pv 0) pa_nil)))
    (pss_cons (ps_set (i := 2) sc_are_wants.nd rfl (by first | exact Or.inl rfl | exact Or.inr rfl) (pe_dnewM (P := P) (w := w) rfl rfl))
    (pss_cons (ps_if (pt_not (pt_val (pe_callB (u_isi (K := K) rfl) (by rfl) T.b_isinstance (by decide +kernel) (pa_cons (pe_ix (u_ix (K := K) rfl hu1) (pv 0) pe_int (fun _ _ => rfl)) (pa_cons (pe_bltn (v := .ty "tuple") (u := .type "tuple") rfl T.b_tuple (by decide +kernel) rfl) pa_nil)))))
    (pss_one (ps_ret pe_bl))
    pss_nil)
    (pss_cons (ps_for PassesOwn.never rfl (u_seq (K := K) rfl (pe_ix (u_ix (K := K) rfl hu1) (pv 0) pe_int (fun _ _ => rfl))) (pg_name (i := 3) sc_are_wants.nd rfl (by first | exact Or.inl rfl | exact Or.inr rfl))
    (pss_cons (ps_if (PW.pt (pw_or (pt_not (pt_val (pe_callB (u_isi (K := K) rfl) (by rfl) T.b_isinstance (by decide +kernel) (pa_cons (pv 3) (pa_cons (pe_bltn (v := .ty "tuple") (u := .type "tuple") rfl T.b_tuple (by decide +kernel) rfl) pa_nil))))) (pw_or (pt_cmpR (u_ne (K := K) rfl hu64) (pe_callB (u_len (K := K) rfl) (by rfl) T.b_len (by decide +kernel) (pa_cons (pv 3) pa_nil)) pe_int (nomark _)) (pw_or1 (pt_cmpR (u_notIn (K := K) rfl hu65) (pe_ix (u_ix (K := K) rfl hu1) (pv 3) pe_int (fun _ _ => rfl)) (pv 1) (by rfl))))))
    (pss_one (ps_ret pe_bl))
    pss_nil)
    (pss_cons (ps_if (PW.pt (pw_or (pt_not (pt_val (pe_callB (u_isi (K := K) rfl) (by rfl) T.b_isinstance (by decide +kernel) (pa_cons (pe_ix (u_ix (K := K) rfl hu1) (pv 3) pe_int (fun _ _ => rfl)) (pa_cons (pe_bltn (v := .ty "str") (u := .type "str") rfl T.b_str (by decide +kernel) rfl) pa_nil))))) (pw_or1 (pt_cmpR (u_notIn (K := K) rfl hu65) (pe_ix (u_ix (K := K) rfl hu1) (pv 3) pe_int (fun _ _ => rfl)) (pe_gk rfl T.gt_WORDS rfl) (by rfl)))))
    (pss_one (ps_ret pe_bl))
    pss_nil)
    (pss_cons (ps_set (i := 4) sc_are_wants.nd rfl (by first | exact Or.inl rfl | exact Or.inr rfl) (pe_cal (K := K) rfl C_knot_of (hr.mono (by decide)) (by rfl) (pa_cons (pv 0) (pa_cons (pe_ix (u_ix (K := K) rfl hu1) (pv 3) pe_int (fun _ _ => rfl)) pa_nil))))
    (pss_cons (ps_if (PW.pt (pw_or (pt_cmpR (op_inM (P := P) (w := w) rfl rfl hu1) (pe_ix (u_ix (K := K) rfl hu1) (pv 3) pe_int (fun _ _ => rfl)) (pv 2) (by rfl)) (pw_or1 (pt_cmpR (op_inM (P := P) (w := w) rfl rfl hu1) (pe_tup (pa_cons (pe_ix (u_ix (K := K) rfl hu1) (pv 3) pe_int (fun _ _ => rfl)) (pa_cons (pv 4) pa_nil))) (pv 2) (by rfl)))))
    (pss_one (ps_ret pe_bl))
    pss_nil)
    (pss_cons (ps_dputM (P := P) (w := w) rfl rfl hu1 (pv 2) (pe_ix (u_ix (K := K) rfl hu1) (pv 3) pe_int (fun _ _ => rfl)) pe_bl rfl)
    (pss_one (ps_dputM (P := P) (w := w) rfl rfl hu1 (pv 2) (pe_tup (pa_cons (pe_ix (u_ix (K := K) rfl hu1) (pv 3) pe_int (fun _ _ => rfl)) (pa_cons (pv 4) pa_nil))) pe_bl rfl))))))))
    (pss_one (ps_ret pe_bl)))))), fun ds g R hS => ?_⟩
  obtain ⟨d, ks, ts, wt, ws, rfl, rfl, hH, hS, z⟩ := hS
  obtain ⟨kd, xs, td, wd, sd, rfl, h1, h2, h3, h4, h5⟩ := hH.ex
  show ExS K _ [some _, none, none, none, none] _ _
  obtain ⟨_, hul, htl, hwl, hsl⟩ := id hS
  have no : ∀ {l : List O}, ¬ WantsAll ks (unitsF ks) ws → Res 0 R (.f (.bool false)) l := fun h => Res.dat (fun _ h => by cases h) (z false ⟨fun q => (by cases q), fun q => absurd q h⟩)
  refine xs_set (e_frz (e_call0 (a_cons (e_var rfl (a_nil ⟨trivial, _, ks, ts, wt, ws, rfl, rfl, hH, hS, 0, _, rfl, rfl, ?_⟩)))))
  refine xs_set (e_dM ?_)
  show ExS K _ [some (.f (.tuple [kd, td, wd, sd])), some (.f (.list (sPy (unitsF ks)))), some (.own 1), none, none] [.gone, .dctM P w (seenW ks [])] _
  have g3 : atI [kd, td, wd, sd] 3 = some sd := rfl
  refine xs_gate (t_not (t_B (e_isi (e_op (e_var rfl (e_int (o_ixQ isq_tup g3 ⟨"tuple", true, tyTD h5, kitTT, true, rfl, iteNT rfl⟩))))))) ?_
  refine xs_forTD (e_op (e_var rfl (e_int (o_ixQ isq_tup g3 ⟨sd, pPy ws, rfl, h5, fun i ρ' l' => ∃ a b, ρ' = [some (.f (.tuple [kd, td, wd, sd])), some (.f (.list (sPy (unitsF ks)))), some (.own 1), a, b] ∧ l' = [.gone, .dctM P w (seenW ks (ws.take i))] ∧ WantsAll ks (unitsF ks) (ws.take i), ⟨none, none, rfl, rfl, ⟨(fun _ h => by cases h), List.nodup_nil, List.nodup_nil⟩⟩, ?_, ?_⟩))))
  · rintro i d0 ρ' l' hd ⟨a, b, rfl, rfl, hI⟩
    obtain ⟨q, hq, rfl⟩ := pPy_get hd
    have hqm := List.mem_of_getElem? hq
    have hil := (List.getElem?_eq_some_iff.mp hq).1
    have q0 : atI [PyData.str q.1, .str q.2] 0 = some (.str q.1) := rfl
    have q1 : atI [PyData.str q.1, .str q.2] 1 = some (.str q.2) := rfl
    refine g_name ?_
    refine xs_gateC (q.2 ∈ unitsF ks) ?_ fun hu => ?_
    · refine t_or (t_not (t_B (e_isi (e_var rfl ⟨"tuple", true, rfl, kitTT, true, rfl, iteNT ?_⟩))))
      refine t_or (t_test (e_op (e_cb (a_cons (e_var rfl (a_nil (c_lenQ isq_tup (e_int (o_neI ⟨_, rfl, iteF ?_⟩)))))))))
      refine t_test (e_op (e_op (e_var rfl (e_int (o_ixQ isq_tup q1 (e_var rfl (o_ninS isq_list ⟨_, rfl, ?_⟩)))))))
      exact nd_both (fun c => x_ret (e_bl (no fun h => c (h.ok q hqm).1))) (fun c => ⟨rfl, c⟩)
    refine xs_gateC (q.1 = "first" ∨ q.1 = "last") ?_ fun hw => ?_
    · refine t_or (t_not (t_B (e_isi (e_op (e_var rfl (e_int (o_ixQ isq_tup q0 ⟨"str", true, rfl, kitSS, true, rfl, iteNT ?_⟩)))))))
      refine t_test (e_inK _ (e_op (e_var rfl (e_int (o_ixQ isq_tup q0 ⟨q.1, rfl, _, rfl, ?_⟩)))))
      rw [if_pos rfl]
      refine nd_both (fun c => x_ret (e_bl (no fun h => c (by rcases (h.ok q hqm).2 with e | e <;> rw [e] <;> simp)))) (fun c => ⟨rfl, by simpa using c⟩)
    refine xs_set (e_call0 (a_cons (e_var rfl (a_cons (e_op (e_var rfl (e_int (o_ixQ isq_tup q1 (a_nil ⟨trivial, _, ks, ts, wt, ws, q.2, rfl, rfl, hH, ?_⟩)))))))))
    obtain ⟨k, hk, _⟩ := knotOf_mem hu
    rw [hk]
    have hk0 : kn0 ks q.2 = k := by unfold kn0; rw [hk]; rfl
    show ExS K _ [some (.f (.tuple [kd, td, wd, sd])), some (.f (.list (sPy (unitsF ks)))), some (.own 1), some (.f (.tuple [.str q.1, .str q.2])), some (.f (.str k))] [.gone, .dctM P w (seenW ks (ws.take i))] _
    refine xs_gateC (q.2 ∉ (ws.take i).map (·.2) ∧ (q.1, k) ∉ (ws.take i).map fun q => (q.1, kn0 ks q.2)) ?_ fun hg => ?_
    · refine t_or (t_test (e_op (e_op (e_var rfl (e_int (o_ixQ isq_tup q1 (e_var rfl (o_inM (n := 1) (k := .inl q.2) rfl rfl ⟨_, rfl, ?_⟩))))))))
      rw [seenW_l]
      refine d_both (fun c => x_ret (e_bl (no fun h => nodup_bad (f := fun q : Str × Str => q.2) hq c h.nd))) (fun c => ?_)
      refine t_test (e_op (e_tup (a_cons (e_op (e_var rfl (e_int (o_ixQ isq_tup q0 (a_cons (e_var rfl (a_nil ⟨[.str q.1, .str k], rfl, Nat.le_of_ble_eq_true rfl, e_var rfl (o_inM (n := 1) (k := .inr (q.1, k)) rfl rfl ⟨_, rfl, ?_⟩)⟩))))))))))
      rw [seenW_r]
      refine d_both (fun c2 => x_ret (e_bl (no fun h => nodup_bad (f := fun q : Str × Str => (q.1, kn0 ks q.2)) hq (by rw [hk0]; exact c2) h.kn))) (fun c2 => ⟨rfl, c, c2⟩)
    have hl0 := seenW_len ks (ws.take i)
    have hl1 : (ws.take i).length ≤ 400 := by rw [List.length_take]; omega
    refine xs_dputM (e_bl (e_var rfl (e_op (e_var rfl (e_int (o_ixQ isq_tup q1 ⟨1, _, .inl q.2, true, rfl, rfl, rfl, rfl, by omega, ?_⟩))))))
    rw [putMD_new (by rw [seenW_l]; exact decide_eq_false hg.1)]
    refine x_dputM (e_bl (e_var rfl (e_tup (a_cons (e_op (e_var rfl (e_int (o_ixQ isq_tup q0 (a_cons (e_var rfl (a_nil ⟨[.str q.1, .str k], rfl, Nat.le_of_ble_eq_true rfl, 1, _, .inr (q.1, k), true, rfl, rfl, rfl, rfl, by rw [List.length_append]; show _ + 1 ≤ _; omega, ?_⟩)))))))))))
    have hnr : hasM (seenW ks (ws.take i) ++ [(.inl q.2, true)]) (.inr (q.1, k)) = false := by
      rw [hasM_app, seenW_r, decide_eq_false hg.2, Bool.false_or]
      exact decide_eq_false (fun h => by cases h)
    refine ⟨_, _, rfl, ?_, ?_⟩
    · rw [putMD_new hnr, L3.take_next hq, seenW_app, hk0]
      rfl
    · rw [L3.take_next hq]
      refine ⟨fun p hp => ?_, ?_, ?_⟩
      · rcases List.mem_append.mp hp with h | h
        · exact hI.ok p h
        · rw [List.mem_singleton.mp h]; exact ⟨hu, hw⟩
      · rw [List.map_append]; exact nodup_snoc hI.nd hg.1
      · rw [List.map_append]; exact nodup_snoc hI.kn (by show (q.1, kn0 ks q.2) ∉ _; rw [hk0]; exact hg.2)
  · rintro ρ' l' ⟨a, b, rfl, rfl, hI⟩
    rw [pPy_len, List.take_length] at hI
    exact x_ret (e_bl (Res.dat (fun _ h => by cases h) (z true ⟨fun _ => hI, fun _ => rfl⟩)))
theorem WantsAll.len {ks : Knots} {us ws} (h : WantsAll ks us ws) : ws.length ≤ us.length := by
  have := nodup_le h.nd fun u hu => by
    obtain ⟨q, hq, rfl⟩ := List.mem_map.mp hu
    exact (h.ok q hq).1
  rw [List.length_map] at this
  exact this
theorem wants_few {ks : Knots} {us : List Str} {ws : Ties} (hB : TreeB ks us) (h : WantsAll ks us ws) (k w : Str) : (wantUs ks k w ws).length ≤ 1 := by
  have nd : (wantUs ks k w ws).Nodup := by
    unfold wantUs
    exact (h.nd.sublist ((List.filter_sublist).map _))
  refine all_eq_len nd fun x hx y hy => ?_
  unfold wantUs at hx hy
  obtain ⟨p, hp, rfl⟩ := List.mem_map.mp hx
  obtain ⟨q, hq, rfl⟩ := List.mem_map.mp hy
  obtain ⟨p1, p2⟩ := List.mem_filter.mp hp
  obtain ⟨q1, q2⟩ := List.mem_filter.mp hq
  simp only [Bool.and_eq_true, decide_eq_true_eq] at p2 q2
  have kp : ∀ u, u ∈ kids ks k → kn0 ks u = k := fun u hu => by
    have hs := (mem_kids hB.names).mp hu
    obtain ⟨_, _, T, _⟩ := id hB
    unfold kn0
    rw [T.knotOf.mpr hs]; rfl
  have e : (fun q : Str × Str => (q.1, kn0 ks q.2)) p = (fun q : Str × Str => (q.1, kn0 ks q.2)) q := by
    show (p.1, kn0 ks p.2) = (q.1, kn0 ks q.2)
    rw [p2.1, q2.1, kp _ p2.2, kp _ q2.2]
  obtain ⟨i, hi⟩ := List.getElem?_of_mem p1
  obtain ⟨j, hj⟩ := List.getElem?_of_mem q1
  have hi' : (ws.map fun q => (q.1, kn0 ks q.2))[i]? = some (p.1, kn0 ks p.2) := by rw [List.getElem?_map, hi]; rfl
  have hj' : (ws.map fun q => (q.1, kn0 ks q.2))[j]? = some (q.1, kn0 ks q.2) := by rw [List.getElem?_map, hj]; rfl
  have e' : (p.1, kn0 ks p.2) = (q.1, kn0 ks q.2) := e
  have : i = j := (List.getElem?_inj (List.getElem?_eq_some_iff.mp hi').1 h.kn).mp (by rw [hi', hj', e'])
  subst this
  rw [hi] at hj
  rw [Option.some.inj hj]
theorem edges_few {ks : Knots} {us : List Str} {ts ws : Ties} (hB : TreeB ks us) (h : WantsAll ks us ws) (k : Str) : (edgesF ks ts ws k).length ≤ ts.length + 120 := by
  have hkl := hB.kidsLen k
  have hw2 : ∀ w, (wantE ks k w ws).length ≤ 60 := fun w => by
    have a1 := flatMap_len (f := fun u => wantRow w u (kids ks k)) (n := 60) (xs := wantUs ks k w ws) fun u _ => Nat.le_trans (wantRow_len ..) hkl
    have a2 := wants_few hB h k w
    unfold wantE
    exact Nat.le_trans a1 (by have := Nat.mul_le_mul_left 60 a2; omega)
  have h1 := onceL_len (edges0 ks ts ws k)
  have h2 : (tieE ks k ts).length ≤ ts.length := List.length_filterMap_le ..
  have h3 := hw2 "first"
  have h4 := hw2 "last"
  unfold edges0 at h1
  rw [List.length_append, List.length_append] at h1
  show (onceL _).length ≤ _
  unfold edges0
  omega
def S_closes : Spec3 := fun ds g R => ∃ (d : PyData) (ks : Knots) (ts wt ws : Ties) (e : Str × Str) (k x y : Str), ds = [.f d, .f (.tuple [.str e.1, .str e.2])] ∧ g = [] ∧ HouseR d ks ts wt ws ∧ HouseS ks ts wt ws ∧ TreeB ks (unitsF ks) ∧ Parted ks (unitsF ks) ts ∧ WantsAll ks (unitsF ks) ws ∧ e.1 ∈ unitsF ks ∧ e.2 ∈ unitsF ks ∧ partF ks e.1 e.2 = some (k, x, y) ∧ R (.f (.bool (decide (x ∈ metL (kids ks k) (edgesF ks ts ws k) y false)))) []
abbrev s_closes : Stmt := top 40
theorem sc_closes : FnScope ["house", "pair", "knot", "one", "other"] ["house", "pair"] (defScope s_closes) := ⟨rfl, rfl, rfl, by decide +kernel, rfl, by decide +kernel, by decide +kernel⟩
set_option maxHeartbeats 4000000 in
theorem ok_closes (T : Bi K mg) (Df : DefAt K mg "closes" s_closes ["house", "pair"]) (C_behinds : Cal P w K mg base 3 "behinds" ["web", "one"] S_behinds) (C_view : Cal P w K mg base 5 "view" ["house", "knot"] S_view) (C_parting : Cal P w K mg base 3 "parting" ["house", "one", "other"] S_parting) : Cal P w K mg base 6 "closes" ["house", "pair"] S_closes := by
  refine ok4 Df sc_closes (fun ds g R h0 => by obtain ⟨_, _, _, _, _, _, _, _, _, h, _⟩ := h0; rw [h]; rfl) (fun cdv A outer s H E f hr => ?_)
  have hu1 := hu_of hr.r
  have hu64 := hr.units
  have hu65 : (A.deeper (PyProof.Rows.envOfC "closes" (defScope s_closes) s.heap.objs.size f cdv)).units + 65 < cLine := by have := hr.un; omega
  refine ⟨_, (pss_cons (ps_asg (pe_cal (K := K) rfl C_parting (hr.mono (by decide)) (by rfl) (pa_cons (pv 0) (pa_cons (pe_ix (u_ix (K := K) rfl hu1) (pv 1) pe_int (fun _ _ => rfl)) (pa_cons (pe_ix (u_ix (K := K) rfl hu1) (pv 1) pe_int (fun _ _ => rfl)) pa_nil)))) (u_tup (K := K) (n := 3) rfl (by rfl) (pgs_cons (pg_name (i := 2) sc_closes.nd rfl (by first | exact Or.inl rfl | exact Or.inr rfl)) (pgs_cons (pg_name (i := 3) sc_closes.nd rfl (by first | exact Or.inl rfl | exact Or.inr rfl)) (pgs_cons (pg_name (i := 4) sc_closes.nd rfl (by first | exact Or.inl rfl | exact Or.inr rfl)) pgs_nil)))))
    (pss_one (ps_ret (pe_cmpR (u_in (K := K) rfl hu65) (pv 3) (pe_cal (K := K) rfl C_behinds (hr.mono (by decide)) (by rfl) (pa_cons (pe_cal (K := K) rfl C_view (hr.mono (by decide)) (by rfl) (pa_cons (pv 0) (pa_cons (pv 2) pa_nil))) (pa_cons (pv 4) pa_nil))) (by rfl))))), fun ds g R hS => ?_⟩
  obtain ⟨d, ks, ts, wt, ws, e, k, x, y, rfl, rfl, hH, hS, hB, hP, hW, m1, m2, hp, z⟩ := hS
  show ExS K _ [some _, some _, none, none, none] _ _
  obtain ⟨_, hul, htl, hwl, hsl⟩ := id hS
  have hws := hW.len
  have hu60 : (unitsF ks).length ≤ 60 := by obtain ⟨_, _, _, _, h⟩ := hB; exact h
  have hel := edges_few (ts := ts) hB hW k
  have hkl := hB.kidsLen k
  refine xs_asg (e_call0 (a_cons (e_var rfl (a_cons (e_op (e_var rfl (e_int (o_ixQ isq_tup (atI_zero _ _) (a_cons (e_op (e_var rfl (e_int (o_ixQ isq_tup (show atI [PyData.str e.1, .str e.2] 1 = some (.str e.2) from rfl) (a_nil ⟨trivial, _, ks, ts, wt, ws, unitsF ks, e.1, e.2, rfl, rfl, hH, hB, m1, m2, ?_⟩))))))))))))))
  rw [hp]
  refine g_tup rfl (g_cons (g_name (g_cons (g_name (g_cons (g_name (g_nil ?_)))))))
  refine x_ret (e_op (e_var rfl (e_call0 (a_cons (e_call0 (a_cons (e_var rfl (a_cons (e_var rfl (a_nil ⟨trivial, _, ks, unitsF ks, ts, wt, ws, k, rfl, rfl, hH, hB, hP, htl, by omega, ?_⟩))))))))))
  refine a_cons (e_var rfl (a_nil ⟨trivial, kids ks k, edgesF ks ts ws k, y, rfl, rfl, by omega, by omega, ?_⟩))
  exact o_inS (isq_own (n := 0) rfl) (Res.dat (fun _ h => by cases h) z)
/-- a good house -/
structure HouseGd (ks : Knots) (ts wt ws : Ties) : Prop where
  knots : KnotsOk ks
  ties : TiesAll ks (unitsF ks) (ts ++ wt)
  wants : WantsAll ks (unitsF ks) ws
  fw : ∀ k ∈ ks.map (·.1), ∀ e ∈ edgesF ks ts ws k, (kids ks k).idxOf e.1 < (kids ks k).idxOf e.2
  cl : ∀ e ∈ wt, Closing ks ts ws e
theorem TiesAll.left {ks : Knots} {us : List Str} {ts wt : Ties} (h : TiesAll ks us (ts ++ wt)) : Parted ks us ts := fun e he => h.2.1 e (List.mem_append_left _ he)
theorem TiesAll.right {ks : Knots} {us : List Str} {ts wt : Ties} (h : TiesAll ks us (ts ++ wt)) : Parted ks us wt := fun e he => h.2.1 e (List.mem_append_right _ he)
def NmsOk (ks : Knots) : Prop := ∀ k ∈ ks, ∀ c ∈ k.2, PyData.strOk c = true ∧ c.length ≤ 20000
theorem briefQ_strs : ∀ {xs : List Str}, (∀ x ∈ xs, PyData.strOk x = true) → briefQs (sPy xs) = true
  | [], _ => rfl
  | x :: xs, h => by
    have ih := briefQ_strs (xs := xs) fun y hy => h y (List.mem_cons_of_mem _ hy)
    show (PyData.strOk x && briefQs (sPy xs)) = true
    rw [h x List.mem_cons_self, ih]; rfl
open Classical in
noncomputable def clF (ks : Knots) (ts ws : Ties) : PyData → Option PyData
  | .tuple [.str a, .str b] => some (.bool (decide (Closing ks ts ws (a, b))))
  | _ => none
open Classical in
theorem clF_eq (ks : Knots) (ts ws : Ties) (es : Ties) : (pPy es).filterMap (clF ks ts ws) = bPy (es.map fun e => decide (Closing ks ts ws e)) := by
  induction es with
  | nil => rfl
  | cons e es ih =>
    show (PyData.tuple [.str e.1, .str e.2] :: pPy es).filterMap _ = _
    rw [List.filterMap_cons_some (f := clF ks ts ws) (a := PyData.tuple [.str e.1, .str e.2]) (b := PyData.bool (decide (Closing ks ts ws e))) rfl, ih]
    rfl
theorem ord_kids {xs : List Str} {es : Ties} (hn : xs.Nodup) (he : ∀ e ∈ es, e.1 ∈ xs ∧ e.2 ∈ xs) : IsOrdD xs es (.list (sPy xs)) ↔ ∀ e ∈ es, xs.idxOf e.1 < xs.idxOf e.2 := by
  constructor
  · rintro ⟨ys, e, h⟩ f hf
    injection e with e
    have := sPy_inj e
    subst this
    exact (h.fw f hf).2.2
  · exact fun h => ⟨xs, rfl, hn, rfl, fun _ h => h, fun e hm => ⟨(he e hm).1, (he e hm).2, h e hm⟩⟩
def S_is_house : Spec3 := fun ds g R => ∃ d ks ts wt ws, ds = [.f d] ∧ g = [] ∧ HouseR d ks ts wt ws ∧ HouseS ks ts wt ws ∧ NmsOk ks ∧ ∀ b, (b = true ↔ HouseGd ks ts wt ws) → R (.f (.bool b)) []
abbrev s_is_house : Stmt := top 41
theorem sc_is_house : FnScope ["thing", "name", "some", "pair"] ["thing"] (defScope s_is_house) := ⟨rfl, rfl, rfl, by decide +kernel, rfl, by decide +kernel, by decide +kernel⟩
set_option maxHeartbeats 4000000 in
theorem ok_is_house (T : Bi K mg) (Df : DefAt K mg "is_house" s_is_house ["thing"]) (C_closes : Cal P w K mg base 6 "closes" ["house", "pair"] S_closes) (C_is_order : Cal P w K mg base 2 "is_order" ["web", "thing"] S_is_order) (C_view : Cal P w K mg base 5 "view" ["house", "knot"] S_view) (C_are_ties : Cal P w K mg base 4 "are_ties" ["house"] S_are_ties) (C_are_wants : Cal P w K mg base 2 "are_wants" ["house"] S_are_wants) (C_are_knots : Cal P w K mg base 3 "are_knots" ["thing"] S_are_knots) : Cal P w K mg base 7 "is_house" ["thing"] S_is_house := by
  refine ok4 Df sc_is_house (fun ds g R h0 => by obtain ⟨_, _, _, _, _, h, _⟩ := h0; rw [h]; rfl) (fun cdv A outer s H E f hr => ?_)
  have hu1 := hu_of hr.r
  have hu64 := hr.units
  have hu65 : (A.deeper (PyProof.Rows.envOfC "is_house" (defScope s_is_house) s.heap.objs.size f cdv)).units + 65 < cLine := by have := hr.un; omega
  refine ⟨_, (pss_cons (ps_if (PW.pt (pw_or (pt_not (pt_val (pe_callB (u_isi (K := K) rfl) (by rfl) T.b_isinstance (by decide +kernel) (pa_cons (pv 0) (pa_cons (pe_bltn (v := .ty "tuple") (u := .type "tuple") rfl T.b_tuple (by decide +kernel) rfl) pa_nil))))) (pw_or (pt_cmpR (u_ne (K := K) rfl hu64) (pe_callB (u_len (K := K) rfl) (by rfl) T.b_len (by decide +kernel) (pa_cons (pv 0) pa_nil)) pe_int (nomark _)) (pw_or1 (pt_not (pt_val (pe_cal (K := K) rfl C_are_knots (hr.mono (by decide)) (by rfl) (pa_cons (pe_ix (u_ix (K := K) rfl hu1) (pv 0) pe_int (fun _ _ => rfl)) pa_nil))))))))
    (pss_one (ps_ret pe_bl))
    pss_nil)
    (pss_cons (ps_if (PW.pt (pw_or (pt_not (pt_val (pe_cal (K := K) rfl C_are_ties (hr.mono (by decide)) (by rfl) (pa_cons (pv 0) pa_nil)))) (pw_or1 (pt_not (pt_val (pe_cal (K := K) rfl C_are_wants (hr.mono (by decide)) (by rfl) (pa_cons (pv 0) pa_nil)))))))
    (pss_one (ps_ret pe_bl))
    pss_nil)
    (pss_cons (ps_for PassesOwn.never rfl (u_seq (K := K) rfl (pe_ix (u_ix (K := K) rfl hu1) (pv 0) pe_int (fun _ _ => rfl))) (u_tup (K := K) (n := 2) rfl (by rfl) (pgs_cons (pg_name (i := 1) sc_is_house.nd rfl (by first | exact Or.inl rfl | exact Or.inr rfl)) (pgs_cons (pg_name (i := 2) sc_is_house.nd rfl (by first | exact Or.inl rfl | exact Or.inr rfl)) pgs_nil)))
    (pss_one (ps_if (pt_not (pt_val (pe_cal (K := K) rfl C_is_order (hr.mono (by decide)) (by rfl) (pa_cons (pe_cal (K := K) rfl C_view (hr.mono (by decide)) (by rfl) (pa_cons (pv 0) (pa_cons (pv 1) pa_nil))) (pa_cons (pe_callTy (u_list (K := K) rfl) (by rfl) T.b_list (by decide +kernel) (pa_cons (pv 2) pa_nil)) pa_nil)))))
    (pss_one (ps_ret pe_bl))
    pss_nil)))
    (pss_one (ps_ret (pe_callB (u_all (K := K) rfl rfl) (by rfl) T.b_all (by decide +kernel) (pa_cons (pe_lc (own := [("pair", 3)]) (by rfl) sc_is_house.nd (u_seq (K := K) rfl (pe_ix (u_ix (K := K) rfl hu1) (pv 0) pe_int (fun _ _ => rfl))) (blkOk_by (own := [("pair", 3)]) (N := ["thing", "name", "some", "pair"]) (sc := defScope s_is_house) (by decide +kernel)) (fun _ _ _ _ _ => (pg_name (i := 3) sc_is_house.nd rfl (by first | exact Or.inl rfl | exact Or.inr rfl))) (fun _ _ _ _ _ => pts_nil) (fun _ _ _ _ _ => (pe_cal (K := K) rfl C_closes (hr.mono (by decide)) (by rfl) (pa_cons (pv 0) (pa_cons (pv 3) pa_nil))))) pa_nil))))))), fun ds g R hS => ?_⟩
  obtain ⟨d, ks, ts, wt, ws, rfl, rfl, hH, hS, hN, z⟩ := hS
  obtain ⟨kd, xs, td, wd, sd, rfl, h1, h2, h3, h4, h5⟩ := hH.ex
  show ExS K _ [some _, none, none, none] _ _
  obtain ⟨hkl, hul, htl, hwl, hsl⟩ := id hS
  have no : ∀ {l : List O}, ¬ HouseGd ks ts wt ws → Res 0 R (.f (.bool false)) l := fun h => Res.dat (fun _ h => by cases h) (z false ⟨fun q => (by cases q), fun q => absurd q h⟩)
  have g0 : atI [kd, td, wd, sd] 0 = some kd := rfl
  refine xs_gateC (KnotsOk ks) ?_ fun hK => ?_
  · refine t_or (t_not (t_B (e_isi (e_var rfl ⟨"tuple", true, rfl, kitTT, true, rfl, iteNT ?_⟩))))
    refine t_or (t_test (e_op (e_cb (a_cons (e_var rfl (a_nil (c_lenQ isq_tup (e_int (o_neI ⟨_, rfl, iteF ?_⟩)))))))))
    refine t_not (t_B (e_call0 (a_cons (e_op (e_var rfl (e_int (o_ixQ isq_tup g0 (a_nil ⟨trivial, kd, xs, ks, rfl, rfl, h1, h2, hkl, hul, fun k hk c hc => (hN k hk c hc).2, fun b hb => ⟨_, rfl, ?_⟩⟩))))))))
    cases b with
    | true => exact iteNT ⟨rfl, hb.mp rfl⟩
    | false => exact iteNF (x_ret (e_bl (no fun q => by have := hb.mpr q.knots; cases this)))
  have hB := hK.treeB
  have hu60 := hK.len
  refine xs_gateC (TiesAll ks (unitsF ks) (ts ++ wt) ∧ WantsAll ks (unitsF ks) ws) ?_ fun hTW => ?_
  · refine t_or (t_not (t_B (e_call0 (a_cons (e_var rfl (a_nil ⟨trivial, _, ks, ts, wt, ws, rfl, rfl, hH, hS, hB, fun b hb => ⟨_, rfl, ?_⟩⟩))))))
    cases b with
    | false => exact iteNF (x_ret (e_bl (no fun q => by have := hb.mpr q.ties; cases this)))
    | true =>
      refine iteNT (t_not (t_B (e_call0 (a_cons (e_var rfl (a_nil ⟨trivial, _, ks, ts, wt, ws, rfl, rfl, hH, hS, fun b' hb' => ⟨_, rfl, ?_⟩⟩))))))
      cases b' with
      | false => exact iteNF (x_ret (e_bl (no fun q => by have := hb'.mpr q.wants; cases this)))
      | true => exact iteNT ⟨rfl, hb.mp rfl, hb'.mp rfl⟩
  obtain ⟨hT, hW⟩ := hTW
  have hP := hT.left
  have hws := hW.len
  have hel := fun k => edges_few (ts := ts) hB hW k
  have sok : ∀ k, ∀ c ∈ kids ks k, PyData.strOk c = true := fun k c hc => by
    obtain ⟨ys, hm, hc2⟩ := (mem_kids hB.names).mp hc
    exact (hN _ hm c hc2).1
  have eKids : ∀ k ∈ ks, kids ks k.1 = k.2 := fun k hk => kids_of hB.names hk
  refine xs_forTD (e_op (e_var rfl (e_int (o_ixQ isq_tup g0 ⟨kd, xs, rfl, h1, fun i ρ' l' => ∃ a b, ρ' = [some (.f (.tuple [kd, td, wd, sd])), a, b, none] ∧ l' = [] ∧ ∀ k ∈ ks.take i, ∀ e ∈ edgesF ks ts ws k.1, (kids ks k.1).idxOf e.1 < (kids ks k.1).idxOf e.2, ⟨none, none, rfl, rfl, fun k h => by simp at h⟩, ?_, ?_⟩))))
  · rintro i d0 ρ' l' hd ⟨a, b, rfl, rfl, hI⟩
    obtain ⟨k, hk, y, rfl, hy⟩ := knotsD_get h2 hd
    have hkm := List.mem_of_getElem? hk
    have ek := eKids k hkm
    have hkl2 := hB.kidsLen k.1
    have nd : (kids ks k.1).Nodup := by
      obtain ⟨_, _, T, _⟩ := id hB
      rw [ek]; exact T.nd k hkm
    have ekk := edges_kids hB hP (ts := ts) (ws := ws) (k := k.1)
    have hek := hel k.1
    refine g_tup rfl (g_cons (g_name (g_cons (g_name (g_nil ?_)))))
    refine x_if (t_not (t_B (e_call0 (a_cons (e_call0 (a_cons (e_var rfl (a_cons (e_var rfl (a_nil ⟨trivial, _, ks, unitsF ks, ts, wt, ws, k.1, rfl, rfl, hH, hB, hP, htl, by omega, ?_⟩))))))))))
    refine a_cons (e_frzL (e_cb (a_cons (e_var rfl (a_nil (c_listTD hy ⟨0, _, rfl, Nat.le_refl _, rfl, (fun _ h => by cases h), ?_⟩))))))
    refine a_nil ⟨trivial, kids ks k.1, edgesF ks ts ws k.1, .list (sPy k.2), rfl, rfl, by omega, by omega, nd, fun e he => ⟨(ekk e he).1, (ekk e he).2.1⟩, ?_, fun b hb => ⟨_, rfl, ?_⟩⟩
    · show briefQs (unplAll (sPy k.2)) = true
      rw [unpl_sPy]
      exact briefQ_strs fun c hc => (hN k hkm c hc).1
    rw [← ek, ord_kids nd fun e he => ⟨(ekk e he).1, (ekk e he).2.1⟩] at hb
    cases b with
    | false => exact iteNF (x_ret (e_bl (no fun q => by have := hb.mpr (q.fw k.1 (List.mem_map.mpr ⟨k, hkm, rfl⟩)); cases this)))
    | true =>
      refine iteNT (x_next ⟨_, _, rfl, rfl, fun p hp => ?_⟩)
      rw [L3.take_next hk] at hp
      rcases List.mem_append.mp hp with h | h
      · exact hI p h
      · rw [List.mem_singleton.mp h]; exact hb.mp rfl
  · rintro ρ' l' ⟨a, b, rfl, rfl, hI⟩
    rw [h2.length, List.take_length] at hI
    classical
    have g2 : atI [kd, td, wd, sd] 2 = some wd := rfl
    refine x_ret (e_cb (a_cons (e_lcTF (clF ks ts ws) (gg_name (by decide)) (e_op (e_var rfl (e_int (o_ixQ isq_tup g2 ⟨wd, pPy wt, rfl, h4, by rw [pPy_len]; omega, fun d hd => ?_, ?_⟩)))))))
    · obtain ⟨e, he, rfl⟩ := List.mem_map.mp hd
      obtain ⟨m1, m2, k, x, y, hp⟩ := hT.right e he
      have ekk := edges_kids hB hP (ts := ts) (ws := ws) (k := k)
      refine g_name (t_yes (e_call0 (a_cons (e_var rfl (a_cons (e_var rfl (a_nil ⟨trivial, _, ks, ts, wt, ws, e, k, x, y, rfl, rfl, hH, hS, hB, hP, hW, m1, m2, hp, ?_⟩)))))))
      refine ⟨_, rfl, ?_, rfl⟩
      show some (PyData.bool _) = some (PyData.bool _)
      congr 2
      refine decide_eq_decide.mpr ?_
      rw [mem_metL fun e he => ⟨(ekk e he).1, (ekk e he).2.1⟩]
      constructor
      · exact fun h => ⟨(mem_kids hB.names).mpr (hB.part m1 m2 hp).1, h k x y hp⟩
      · rintro ⟨_, h⟩ k' x' y' h'
        rw [hp] at h'
        cases h'
        exact h
    rw [clF_eq]
    refine a_nil (c_all (isl_own (n := 0) rfl) ?_)
    refine Res.dat (fun _ h => by cases h) (z _ ?_)
    rw [List.all_map, List.all_eq_true]
    constructor
    · intro h
      refine ⟨hK, hT, hW, fun k hk => ?_, fun e he => of_decide_eq_true (h e he)⟩
      obtain ⟨p, hp, rfl⟩ := List.mem_map.mp hk
      exact hI p hp
    · exact fun q e he => decide_eq_true (q.cl e he)
/-- a part told as a list or as a tuple -/
def PartD (x : PyData) (ds : List PyData) : Prop := x = .list ds ∨ TupD x ds
/-- the part as it is kept -/
def tupP : PyData → PyData
  | .list ds => .tuple ds
  | d => d
theorem PartD.tup {x : PyData} {ds : List PyData} (h : PartD x ds) : TupD (tupP x) ds := by
  rcases h with rfl | rfl | rfl
  · exact .inl rfl
  · exact .inl rfl
  · exact .inr rfl
theorem tyPD {l : List O} {x : PyData} {ds : List PyData} (h : PartD x ds) : TyD l (.f x) "list" ∨ TyD l (.f x) "tuple" := by
  rcases h with rfl | rfl | rfl
  · exact .inl rfl
  · exact .inr rfl
  · exact .inr rfl
theorem kitLL : kitB "list" "list" = some true := by decide +kernel
theorem kitLT : kitB "list" "tuple" = some false := by decide +kernel
theorem kitTL : kitB "tuple" "list" = some false := by decide +kernel
theorem isiPD {K : PySem.W.Frag} {ρ : List (Option D)} {l : List O} {R : D → List O → Prop} {te : TE} {x : PyData} {ds : List PyData} (hp : PartD x ds) (h : EvS K te ρ l fun y l1 => y = .f x ∧ R (.f (.bool true)) l1) : EvS K (tCB (rIsiU K) (tCons te (tCons (tTup (tCons (tC (.ty "list")) (tCons (tC (.ty "tuple")) tNil))) tNil))) ρ l R := by
  refine e_isiLTB (h.imp ?_)
  rintro y l1 ⟨rfl, z⟩
  rcases tyPD (l := l1) hp with t | t
  · exact ⟨"list", true, false, t, kitLL, kitLT, z⟩
  · exact ⟨"tuple", false, true, t, kitTL, kitTT, z⟩
theorem c_tuplePD {K : PySem.W.Frag} {l : List O} {R : D → List O → Prop} {x : PyData} {ds : List PyData} (h : PartD x ds) (z : R (.f (tupP x)) l) : CaS K (rTupleOf K) [.f x] l R := by
  rcases h with rfl | rfl | rfl
  · exact c_tuple isq_list z
  · exact c_tuple isq_tup z
  · intro m B H vs S r Q q
    cases r with
    | cons r1 r2 =>
      cases r2
      cases r1 with
      | plt h1 h2 => exact ⟨_, _, rfl, .inr ⟨sqT_same S.sub h1.sq, retF S q (FR.plt h1 h2) z⟩⟩
def S_house_of : Spec3 := fun ds g R => ∃ x0 x1 x2 x3 xs ks ts wt ws, ds = [.f x0, .f x1, .f x2, .f x3] ∧ g = [] ∧ PartD x0 xs ∧ Paired KnotD xs ks ∧ PartD x1 (pPy ts) ∧ PartD x2 (pPy wt) ∧ PartD x3 (pPy ws) ∧ HouseS ks ts wt ws ∧ NmsOk ks ∧ HouseGd ks ts wt ws ∧ R (.f (.tuple [tupP x0, tupP x1, tupP x2, tupP x3])) []
abbrev s_house_of : Stmt := top 42
theorem sc_house_of : FnScope ["knots", "ties", "waiting", "wants", "parts", "found", "part"] ["knots", "ties", "waiting", "wants"] (defScope s_house_of) := ⟨rfl, rfl, rfl, by decide +kernel, rfl, by decide +kernel, by decide +kernel⟩
set_option maxHeartbeats 4000000 in
theorem ok_house_of (T : Bi K mg) (Df : DefAt K mg "house_of" s_house_of ["knots", "ties", "waiting", "wants"]) (C_is_house : Cal P w K mg base 7 "is_house" ["thing"] S_is_house) : Cal P w K mg base 8 "house_of" ["knots", "ties", "waiting", "wants"] S_house_of := by
  refine ok4 Df sc_house_of (fun ds g R h0 => by obtain ⟨_, _, _, _, _, _, _, _, _, h, _⟩ := h0; rw [h]; rfl) (fun cdv A outer s H E f hr => ?_)
  have hu1 := hu_of hr.r
  have hu64 := hr.units
  have hu65 : (A.deeper (PyProof.Rows.envOfC "house_of" (defScope s_house_of) s.heap.objs.size f cdv)).units + 65 < cLine := by have := hr.un; omega
  refine ⟨_, (pss_cons (ps_set (i := 4) sc_house_of.nd rfl (by first | exact Or.inl rfl | exact Or.inr rfl) (pe_tup (pa_cons (pv 0) (pa_cons (pv 1) (pa_cons (pv 2) (pa_cons (pv 3) pa_nil))))))
    (pss_cons (ps_if (pt_not (pt_val (pe_callB (u_all (K := K) rfl rfl) (by rfl) T.b_all (by decide +kernel) (pa_cons (pe_lc (own := [("part", 6)]) (by rfl) sc_house_of.nd (u_seq (K := K) rfl (pv 4)) (blkOk_by (own := [("part", 6)]) (N := ["knots", "ties", "waiting", "wants", "parts", "found", "part"]) (sc := defScope s_house_of) (by decide +kernel)) (fun _ _ _ _ _ => (pg_name (i := 6) sc_house_of.nd rfl (by first | exact Or.inl rfl | exact Or.inr rfl))) (fun _ _ _ _ _ => pts_nil) (fun _ _ _ _ _ => (pe_callB (u_isi (K := K) rfl) (by rfl) T.b_isinstance (by decide +kernel) (pa_cons (pv 6) (pa_cons (pe_tup (pa_cons (pe_bltn (v := .ty "list") (u := .type "list") rfl T.b_list (by decide +kernel) rfl) (pa_cons (pe_bltn (v := .ty "tuple") (u := .type "tuple") rfl T.b_tuple (by decide +kernel) rfl) pa_nil))) pa_nil))))) pa_nil))))
    (pss_one ps_dead)
    pss_nil)
    (pss_cons (ps_set (i := 5) sc_house_of.nd rfl (by first | exact Or.inl rfl | exact Or.inr rfl) (pe_callTy (u_tuple (K := K) rfl) (by rfl) T.b_tuple (by decide +kernel) (pa_cons (pe_lc (own := [("part", 6)]) (by rfl) sc_house_of.nd (u_seq (K := K) rfl (pv 4)) (blkOk_by (own := [("part", 6)]) (N := ["knots", "ties", "waiting", "wants", "parts", "found", "part"]) (sc := defScope s_house_of) (by decide +kernel)) (fun _ _ _ _ _ => (pg_name (i := 6) sc_house_of.nd rfl (by first | exact Or.inl rfl | exact Or.inr rfl))) (fun _ _ _ _ _ => pts_nil) (fun _ _ _ _ _ => (pe_callTy (u_tuple (K := K) rfl) (by rfl) T.b_tuple (by decide +kernel) (pa_cons (pv 6) pa_nil)))) pa_nil)))
    (pss_cons (ps_if (pt_not (pt_val (pe_cal (K := K) rfl C_is_house (hr.mono (by decide)) (by rfl) (pa_cons (pv 5) pa_nil))))
    (pss_one ps_dead)
    pss_nil)
    (pss_one (ps_ret (pv 5))))))), fun ds g R hS => ?_⟩
  obtain ⟨x0, x1, x2, x3, xs, ks, ts, wt, ws, rfl, rfl, h0, hk, h1, h2, h3, hS, hN, hG, z⟩ := hS
  show ExS K _ [some _, some _, some _, some _, none, none, none] _ _
  refine xs_set (e_tup (a_cons (e_var rfl (a_cons (e_var rfl (a_cons (e_var rfl (a_cons (e_var rfl (a_nil ⟨[x0, x1, x2, x3], rfl, Nat.le_of_ble_eq_true rfl, ?_⟩))))))))))
  show ExS K _ [some (.f x0), some (.f x1), some (.f x2), some (.f x3), some (.f (.tuple [x0, x1, x2, x3])), none, none] [] _
  have hall : ∀ d ∈ [x0, x1, x2, x3], ∃ es, PartD d es := fun d hd => by
    simp only [List.mem_cons, List.not_mem_nil, or_false] at hd
    rcases hd with rfl | rfl | rfl | rfl
    · exact ⟨_, h0⟩
    · exact ⟨_, h1⟩
    · exact ⟨_, h2⟩
    · exact ⟨_, h3⟩
  refine xs_gate ?_ ?_
  · refine t_cut 0 (Nat.le_refl _) (t_not (t_B (e_cb (a_cons (e_lcF (fun _ => some (.bool true)) (gg_name (by decide)) (e_var rfl ⟨[x0, x1, x2, x3], isq_tup, Nat.le_of_ble_eq_true rfl, fun d hd => ?_, ?_⟩))))))
    · obtain ⟨es, he⟩ := hall d hd
      exact g_name (t_yes (isiPD he (e_var rfl ⟨rfl, _, rfl, rfl, rfl⟩)))
    · exact a_nil (c_all (bs := [true, true, true, true]) (isl_own (n := 0) rfl) ⟨_, rfl, (fun _ h => by cases h), iteNT rfl⟩)
  refine xs_set (e_cb (a_cons (e_lcF (fun d => some (tupP d)) (gg_name (by decide)) (e_var rfl ⟨[x0, x1, x2, x3], isq_tup, Nat.le_of_ble_eq_true rfl, fun d hd => ?_, ?_⟩))))
  · obtain ⟨es, he⟩ := hall d hd
    exact g_name (t_yes (e_cb (a_cons (e_var rfl (a_nil (c_tuplePD he ⟨_, rfl, rfl, rfl⟩))))))
  refine a_nil (c_tuple (isq_own (n := 0) rfl) ?_)
  show ExS K _ [some (.f x0), some (.f x1), some (.f x2), some (.f x3), some (.f (.tuple [x0, x1, x2, x3])), some (.f (.tuple [tupP x0, tupP x1, tupP x2, tupP x3])), none] [.lst [tupP x0, tupP x1, tupP x2, tupP x3]] _
  refine xs_gate ?_ ?_
  · refine t_not (t_B (e_call0 (a_cons (e_var rfl (a_nil ⟨trivial, _, ks, ts, wt, ws, rfl, rfl, ⟨_, _, _, _, _, rfl, h0.tup, hk, h1.tup, h2.tup, h3.tup⟩, hS, hN, fun b hb => ⟨_, rfl, ?_⟩⟩)))))
    rw [hb.mpr hG]
    exact iteNT rfl
  exact x_ret (e_var rfl (Res.dat (fun _ h => by cases h) z))
theorem tree_root {ks : Knots} {us : List Str} {deep : Int} {r : Str → Int} (T : Tree ks us deep r) : ∀ (n : Nat) (x : Str), x ∈ ks.map (·.1) → r x ≤ n → rootF ks n x = true := by
  intro n
  induction n with
  | zero =>
    intro x hm hr
    by_cases c : x = nil0
    · rw [c, rootF_top]
    · obtain ⟨q, hq, e⟩ := List.mem_map.mp hm
      have hu : x ∈ us := by have := T.grp q hq (by rw [e]; exact c); rw [e] at this; exact this
      obtain ⟨k, hs⟩ := (T.all x).mp hu
      have h1 := T.lev x k hs hm
      obtain ⟨xs, h, _⟩ := hs
      have h0 := (T.rng _ h).1
      have h2 : r x ≤ 0 := hr
      have h3 : 0 ≤ r k := h0
      omega
  | succ n ih =>
    intro x hm hr
    by_cases c : x = nil0
    · rw [c, rootF_top]
    · obtain ⟨q, hq, e⟩ := List.mem_map.mp hm
      have hu : x ∈ us := by have := T.grp q hq (by rw [e]; exact c); rw [e] at this; exact this
      obtain ⟨k, hs⟩ := (T.all x).mp hu
      have h1 := T.lev x k hs hm
      show (decide (x = nil0) || match L3.knotOf ks x with | some k => rootF ks n k | none => false) = true
      rw [decide_eq_false c, Bool.false_or, T.knotOf.mpr hs]
      obtain ⟨xs, h, _⟩ := hs
      exact ih k (List.mem_map.mpr ⟨(k, xs), h, rfl⟩) (by omega)
theorem flat_nodup {α β : Type} {f : α → List β} : ∀ {xs : List α}, xs.Nodup → (∀ a ∈ xs, (f a).Nodup) → (∀ a ∈ xs, ∀ b ∈ xs, ∀ u, u ∈ f a → u ∈ f b → a = b) → (xs.flatMap f).Nodup
  | [], _, _, _ => List.nodup_nil
  | x :: xs, hn, h1, h2 => by
    rw [List.nodup_cons] at hn
    rw [List.flatMap_cons, List.nodup_append]
    refine ⟨h1 x List.mem_cons_self, flat_nodup hn.2 (fun a ha => h1 a (List.mem_cons_of_mem _ ha)) fun a ha b hb => h2 a (List.mem_cons_of_mem _ ha) b (List.mem_cons_of_mem _ hb), fun a ha b hb e => ?_⟩
    obtain ⟨y, hy, hby⟩ := List.mem_flatMap.mp hb
    have := h2 x List.mem_cons_self y (List.mem_cons_of_mem _ hy) a ha (by rw [e]; exact hby)
    exact hn.1 (by rw [this]; exact hy)
theorem knot_one {ks : Knots} (hn : (ks.map (·.1)).Nodup) {a b : Str × List Str} (ha : a ∈ ks) (hb : b ∈ ks) (e : a.1 = b.1) : a = b := by
  have h1 : kids ks a.1 = a.2 := kids_of hn ha
  have h2 : kids ks b.1 = b.2 := kids_of hn hb
  exact Prod.ext e (by rw [← h1, ← h2, e])
theorem tree_units {ks : Knots} {us : List Str} {deep : Int} {r : Str → Int} (T : Tree ks us deep r) {u : Str} : u ∈ unitsF ks ↔ u ∈ us := mem_unitsF.trans (T.all u).symm
theorem nodup_of_map {α β : Type} {f : α → β} {xs : List α} (h : (xs.map f).Nodup) : xs.Nodup := by
  unfold List.Nodup at *
  rw [List.pairwise_map] at h
  exact h.imp fun h e => h (by rw [e])
theorem knots_good {ks : Knots} {us : List Str} {deep : Int} {r : Str → Int} (T : Tree ks us deep r) (hd : deep ≤ 6) (hl : us.length ≤ 60) (hn : ∀ u ∈ us, nmB u = true) : KnotsOk ks := by
  obtain ⟨xs, rest, e⟩ := T.first
  have hnn := T.names
  have und : (unitsF ks).Nodup := flat_nodup (nodup_of_map hnn) T.nd fun a ha b hb u h1 h2 => knot_one hnn ha hb (T.one u a.1 b.1 ⟨a.2, ha, h1⟩ ⟨b.2, hb, h2⟩)
  have eg : groupsF ks = rest.map (·.1) := by rw [e]; rfl
  have hg : ∀ g ∈ groupsF ks, g ≠ nil0 ∧ g ∈ ks.map (·.1) := fun g hg => by
    rw [eg] at hg
    have hnn' := hnn
    rw [e, List.map_cons, List.nodup_cons] at hnn'
    refine ⟨fun q => hnn'.1 (by show nil0 ∈ _; rw [← q]; exact hg), ?_⟩
    rw [e, List.map_cons]
    exact List.mem_cons_of_mem _ hg
  refine ⟨by rw [e]; simp, fun k hk x hx => hn x ((T.all x).mpr ⟨k.1, k.2, hk, hx⟩), by rw [e]; rfl, ?_, ?_, und, ?_, ?_⟩
  · rw [eg]
    have hnn' := hnn
    rw [e, List.map_cons, List.nodup_cons] at hnn'
    exact hnn'.2
  · exact Nat.le_trans (nodup_le und fun u hu => (tree_units T).mp hu) hl
  · intro g hg'
    obtain ⟨g0, hm⟩ := hg g hg'
    obtain ⟨q, hq, eq⟩ := List.mem_map.mp hm
    have := T.grp q hq (by rw [eq]; exact g0)
    rw [eq] at this
    exact (tree_units T).mpr this
  · intro g hg'
    obtain ⟨g0, hm⟩ := hg g hg'
    obtain ⟨q, hq, eq⟩ := List.mem_map.mp hm
    refine tree_root T 6 g hm ?_
    have := (T.rng q hq).2
    rw [eq] at this
    have h6 : ((6 : Nat) : Int) = 6 := rfl
    omega
theorem want_idx {X : List Str} {u o : Str} (h : X.head? = some u) (ho : o ∈ X) (hne : o ≠ u) : X.idxOf u < X.idxOf o := by
  cases X with
  | nil => cases h
  | cons x xs =>
    have : x = u := Option.some.inj h
    subst this
    have e : (x :: xs).idxOf o = xs.idxOf o + 1 := by
      rw [List.idxOf_cons]
      have : (x == o) = false := by simpa using Ne.symm hne
      rw [this]; rfl
    rw [List.idxOf_cons_self, e]
    exact Nat.succ_pos _
theorem want_idxL {X : List Str} {u o : Str} (hn : X.Nodup) (h : X.getLast? = some u) (ho : o ∈ X) (hne : o ≠ u) : X.idxOf o < X.idxOf u := by
  obtain ⟨ys, rfl⟩ := List.getLast?_eq_some_iff.mp h
  rw [List.nodup_append] at hn
  have hu : u ∉ ys := fun q => hn.2.2 u q u (by simp) rfl
  have ho' : o ∈ ys := by
    rcases List.mem_append.mp ho with h | h
    · exact h
    · exact absurd (List.mem_singleton.mp h) hne
  rw [List.idxOf_append, if_pos ho', List.idxOf_append, if_neg hu, List.idxOf_cons_self]
  have := List.idxOf_lt_length_of_mem ho'
  omega
theorem stand_kids {ks : Knots} {us : List Str} {deep : Int} {r : Str → Int} (T : Tree ks us deep r) {k : Str} {p : Str × List Str} {u : Str} (hp : p ∈ ks) (h1 : u ∈ p.2) (h2 : u ∈ kids ks k) : p.1 = k ∧ kids ks k = p.2 := by
  have e : p.1 = k := T.one u p.1 k ⟨p.2, hp, h1⟩ ((mem_kids T.names).mp h2)
  refine ⟨e, ?_⟩
  rw [← e]
  exact kids_of T.names hp
theorem edges_fw {ks : Knots} {us : List Str} {ts ws : Ties} {deep : Int} {r : Str → Int} (T : Tree ks us deep r) (hT : TiesOk ks us ts) (hW : WantsOk ks ws) (k : Str) : ∀ e ∈ edgesF ks ts ws k, (kids ks k).idxOf e.1 < (kids ks k).idxOf e.2 := by
  intro e he
  have he : e ∈ edges0 ks ts ws k := mem_onceL.mp he
  unfold edges0 at he
  have want : ∀ w, e ∈ wantE ks k w ws → ∃ q ∈ ws, q.1 = w ∧ q.2 ∈ kids ks k ∧ ∃ o ∈ kids ks k, o ≠ q.2 ∧ e = if w = ("last" : Str) then (o, q.2) else (q.2, o) := fun w h => by
    unfold wantE at h
    obtain ⟨u, hu, h⟩ := List.mem_flatMap.mp h
    unfold wantUs at hu
    obtain ⟨q, hq, rfl⟩ := List.mem_map.mp hu
    obtain ⟨q1, q2⟩ := List.mem_filter.mp hq
    simp only [Bool.and_eq_true, decide_eq_true_eq] at q2
    unfold wantRow at h
    obtain ⟨o, ho, rfl⟩ := List.mem_map.mp h
    obtain ⟨o1, o2⟩ := List.mem_filter.mp ho
    exact ⟨q, q1, q2.1, q2.2, o, o1, of_decide_eq_true o2, rfl⟩
  rcases List.mem_append.mp he with he | he
  · rcases List.mem_append.mp he with he | he
    · unfold tieE at he
      obtain ⟨f, hf, hx⟩ := List.mem_filterMap.mp he
      unfold tieE1 at hx
      split at hx
      · rename_i k' x y hp
        split at hx
        · rename_i c
          cases hx
          have := hT.fw f hf _ _ _ hp
          rw [c] at this
          exact this
        · cases hx
      · cases hx
    · obtain ⟨q, hq, q1, q2, o, ho, hne, rfl⟩ := want "first" he
      rcases hW.ok q hq with ⟨_, p, hp, hh⟩ | ⟨h, _⟩
      · have hm : q.2 ∈ p.2 := List.mem_of_mem_head? (by rw [hh]; rfl)
        obtain ⟨_, e2⟩ := stand_kids T hp hm q2
        rw [if_neg (by decide)]
        show (kids ks k).idxOf q.2 < (kids ks k).idxOf o
        rw [e2] at ho ⊢
        exact want_idx hh ho hne
      · rw [q1] at h; exact absurd h (by decide)
  · obtain ⟨q, hq, q1, q2, o, ho, hne, rfl⟩ := want "last" he
    rcases hW.ok q hq with ⟨h, _⟩ | ⟨_, p, hp, hh, _⟩
    · rw [q1] at h; exact absurd h (by decide)
    · have hm : q.2 ∈ p.2 := List.mem_of_getLast? hh
      obtain ⟨_, e2⟩ := stand_kids T hp hm q2
      rw [if_pos rfl]
      show (kids ks k).idxOf o < (kids ks k).idxOf q.2
      rw [e2] at ho ⊢
      exact want_idxL (T.nd p hp) hh ho hne
theorem wants_good {ks : Knots} {us : List Str} {ws : Ties} {deep : Int} {r : Str → Int} (T : Tree ks us deep r) (hB : TreeB ks us) (hW : WantsOk ks ws) : WantsAll ks (unitsF ks) ws := by
  refine ⟨fun q hq => ⟨(tree_units T).mpr (WantOk.unit hB (hW.ok q hq)), ?_⟩, hW.nd, ?_⟩
  · rcases hW.ok q hq with h | h
    · exact .inl h.1
    · exact .inr h.1
  · have kn : ∀ (p : Str × List Str) (u : Str), p ∈ ks → u ∈ p.2 → kn0 ks u = p.1 := fun p u hp hu => by
      unfold kn0
      rw [T.knotOf.mpr ⟨p.2, hp, hu⟩]; rfl
    have hnd := hW.nd
    unfold List.Nodup at *
    rw [List.pairwise_map] at *
    refine List.Pairwise.imp_of_mem (fun {a b} ha hb hne e => hne ?_) hnd
    injection e with e1 e2
    rcases hW.ok a ha with ⟨a1, p, hp, h1⟩ | ⟨a1, p, hp, h1, _⟩
    · rcases hW.ok b hb with ⟨b1, q, hq, h2⟩ | ⟨b1, _⟩
      · rw [kn p _ hp (List.mem_of_mem_head? (by rw [h1]; rfl)), kn q _ hq (List.mem_of_mem_head? (by rw [h2]; rfl))] at e2
        have := knot_one T.names hp hq e2
        subst this
        exact Option.some.inj (h1.symm.trans h2)
      · rw [a1, b1] at e1; exact absurd e1 (by decide)
    · rcases hW.ok b hb with ⟨b1, _⟩ | ⟨b1, q, hq, h2, _⟩
      · rw [a1, b1] at e1; exact absurd e1 (by decide)
      · rw [kn p _ hp (List.mem_of_getLast? h1), kn q _ hq (List.mem_of_getLast? h2)] at e2
        have := knot_one T.names hp hq e2
        subst this
        exact Option.some.inj (h1.symm.trans h2)
theorem houseGd_of {ks : Knots} {us : List Str} {ts wt ws : Ties} {deep : Int} {r : Str → Int} (T : Tree ks us deep r) (hd : deep ≤ 6) (hl : us.length ≤ 60) (hn : ∀ u ∈ us, nmB u = true) (hT : TiesOk ks us ts) (hW : WantsOk ks ws) (hw : WaitsOk ks us ts ws wt) (hlen : ts.length + wt.length ≤ 200) : HouseGd ks ts wt ws := by
  have hB : TreeB ks us := ⟨deep, r, T, by omega, hl⟩
  have hfw := edges_fw T hT hW
  have up : ∀ {es : Ties}, Parted ks us es → ∀ e ∈ es, PairOk ks (unitsF ks) e := fun h e he => by
    obtain ⟨h1, h2, h3⟩ := h e he
    exact ⟨(tree_units T).mpr h1, (tree_units T).mpr h2, h3⟩
  refine ⟨knots_good T hd hl hn, ⟨?_, fun e he => ?_, by rw [List.length_append]; exact hlen⟩, wants_good T hB hW, fun k _ => hfw k, hw.cl⟩
  · rw [List.nodup_append]
    refine ⟨hT.nd, hw.nd, fun a ha b hb e => ?_⟩
    subst e
    obtain ⟨k, x, y, hp⟩ := (hT.pa a ha).2.2
    have h1 := hT.fw a ha k x y hp
    have h2 := goes_fwd (hfw k) (hw.cl a hb k x y hp)
    omega
  · rcases List.mem_append.mp he with h | h
    · exact up hT.pa e h
    · exact up hw.pa e h
section
variable {K : PySem.W.Frag} {m : List Addr} {B H : Hp} {l : List O} {R : D → List O → Prop} {ρ : List (Option D)} {tl te : TE} {tt : TT} {g : TG}
theorem paired_snoc {α β : Type} {Q : α → β → Prop} {x : α} {y : β} : ∀ {xs : List α} {ys : List β}, Paired Q xs ys → Q x y → Paired Q (xs ++ [x]) (ys ++ [y])
  | _, _, .nil, h => .cons h .nil
  | _, _, .cons h t, h' => .cons h (paired_snoc t h')
/-- a list comprehension that yields own things -/
theorem e_lcD {wi : TI} {vs : List Nat} (hg : GoodG g vs) (h : EvI K wi ρ l fun P n it l1 => ∃ I : Nat → List D → List O → Prop, I 0 [] l1 ∧ (∀ i acc l', i ≤ n → I i acc l' → P l' ∧ acc.length ≤ 100000) ∧
      (∀ i acc l', i < n → I i acc l' → AsS K g (it i) (wipe3 ρ vs) l' fun ρ2 l2 => EvT K tt ρ2 l2 fun b l3 => if b = true then EvS K te ρ2 l3 fun d l4 => I (i + 1) (acc ++ [d]) l4 else I (i + 1) acc l3) ∧
      ∀ acc l', I n acc l' → R (.own l'.length) (l' ++ [.rfs acc])) : EvS K (tLc wi g tt te vs) ρ l R := fun m B H σ S e Q q => by
  refine h m B H σ S e _ fun J m1 B1 H1 l1 P n it s1 S1 ok ⟨I, h0, hP, hs, hd⟩ => ?_
  intro Dd hDn
  have same1 : Same H1 (upd H1 Dd (.lst [])) := same_new hDn
  have hDm1 : Dd ∉ m1 := S1.notin hDn
  have hDB1 : B1 Dd = none := S1.bnone hDn
  have S1' : SR K m1 B1 (upd H1 Dd (.lst [])) l1 := ⟨S1.sub.trans same1, S1.len, S1.nd, fun a ha => upd_live (S1.live a ha), fun k a o x1 x2 => let ⟨r, b⟩ := S1.obj k a o x1 x2; ⟨r.up (Same.refl _) ⟨[], by simp⟩ fun u z => same1 a u z, b⟩⟩
  have s1' : Step m1 B1 H1 m1 B1 (upd H1 Dd (.lst [])) := ⟨Same.refl _, ⟨[], by simp⟩, fun a o z _ => same1 a o z, fun a z => upd_live z, fun _ _ z _ => z, fun _ z => .inl z⟩
  have fare : ∀ {ma mb : List Addr} {Ba Bb Ha Hb : Hp} {us : List V}, Step ma Ba Ha mb Bb Hb → Dd ∉ ma → Ba Dd = none → Ha Dd = some (.lst us) → Dd ∉ mb ∧ Bb Dd = none ∧ Hb Dd = some (.lst us) := by
    intro ma mb Ba Bb Ha Hb us s n1 n2 n3
    refine ⟨fun zz => ?_, s.sep _ (by rw [n3]; simp) n2 n1, s.keep _ _ n3 n1⟩
    rcases s.new _ zz with w | w
    · exact n1 w
    · rw [w] at n3
      cases n3
  refine ⟨fun i k H' => k = n - i ∧ i ≤ n ∧ ∃ m' B' l' acc xs, Step m1 B1 H1 m' B' H' ∧ SR K m' B' H' l' ∧ Dd ∉ m' ∧ B' Dd = none ∧ H' Dd = some (.lst xs) ∧ Paired (VR K m' B') xs acc ∧ I i acc l',
    ⟨n, by simp, Nat.zero_le _, m1, B1, l1, [], [], s1', S1', hDm1, hDB1, upd_same, .nil, h0⟩, ?_⟩
  rintro i k H' ⟨rfl, hi, m', B', l', acc, xs, s2, S2, hDm, hDB, hD, hx, z⟩
  obtain ⟨pz, lz⟩ := hP i acc l' hi z
  have o2 := ok i m' B' H' l' s2.sub s2.pre S2 pz
  by_cases hlt : i < n
  · obtain ⟨go, yl⟩ := o2.1 hlt
    refine .inr ⟨go, fun H3 => ∃ m' B' l' acc xs, Step m1 B1 H1 m' B' H3 ∧ SR K m' B' H3 l' ∧ Dd ∉ m' ∧ B' Dd = none ∧ H3 Dd = some (.lst xs) ∧ Paired (VR K m' B') xs acc ∧ I (i + 1) acc l',
      fun H3 ⟨m3, B3, l3, acc3, xs3, a1, a2, a3, a4, a5, a6, a7⟩ => ⟨n - (i + 1), by omega, rfl, hlt, m3, B3, l3, acc3, xs3, a1, a2, a3, a4, a5, a6, a7⟩, fun x H3 hy => ?_⟩
    obtain ⟨B3, s3, S3, r3⟩ := yl x H3 hy
    obtain ⟨f1, f2, f3⟩ := fare s3 hDm hDB hD
    refine hg x σ H3 _ (hs i acc l' hlt z m' B3 H3 (wipe σ vs) x S3 ((((e.step s1).step s2).step s3).wipe vs) r3 _ fun σ4 ρ4 m4 B4 H4 l4 s4 S4 e4 z4 => ?_)
    obtain ⟨g1, g2, g3⟩ := fare s4 f1 f2 f3
    refine z4 m4 B4 H4 σ4 S4 e4 _ fun m5 B5 H5 b l5 s5 S5 z5 => ?_
    obtain ⟨h1, h2, h3⟩ := fare s5 g1 g2 g3
    have s35 := (s3.trans s4).trans s5
    have s25 := ((s2.trans s3).trans s4).trans s5
    have hx5 : Paired (VR K m5 B5) xs acc := L3.Paired.up hx fun _ _ r => r.up s35.sub s35.pre
    cases b with
    | false => exact ⟨m5, B5, l5, acc, xs, s25, S5, h1, h2, h3, hx5, z5⟩
    | true =>
      refine z5 m5 B5 H5 σ4 S5 (e4.step s5) _ fun y m6 B6 H6 d l6 s6 S6 r6 z6 => ?_
      obtain ⟨k1, k2, k3⟩ := fare s6 h1 h2 h3
      have hx6 : Paired (VR K m6 B6) (xs ++ [y]) (acc ++ [d]) := paired_snoc (L3.Paired.up hx5 fun _ _ r => r.up s6.sub s6.pre) r6
      have hl := pair_len hx5
      exact ⟨xs, k3, small' (by rw [hl]; exact lz), m6, B6, l6, acc ++ [d], xs ++ [y], (s25.trans s6).off hDn, S6.off k1 k2, k1, k2, upd_same, hx6, z6⟩
  · have e0 : i = n := by omega
    subst e0
    have hR := hd acc l' z
    refine .inl ⟨o2.2 rfl, ?_⟩
    obtain ⟨Sj, rj⟩ := S2.join (o := .rfs acc) hDm (fun _ => hDB) (by rw [hD]; simp) ⟨xs, hD, L3.Paired.up hx fun _ _ r => r.up (Same.refl _) ⟨_, rfl⟩⟩
    exact q _ _ _ _ _ _ (s1.trans (s2.join hDn)) Sj rj hR
theorem e_lcDTD {vs : List Nat} (hg : GG g vs) (h : EvS K tl ρ l fun x l1 => ∃ y ds, x = .f y ∧ TupD y ds ∧ ∃ I : Nat → List D → List O → Prop, I 0 [] l1 ∧ (∀ i acc l', i ≤ ds.length → I i acc l' → acc.length ≤ 100000) ∧
      (∀ i d acc l', ds[i]? = some d → I i acc l' → AsS K g (.f d) (wipe3 ρ vs) l' fun ρ2 l2 => EvT K tt ρ2 l2 fun b l3 => if b = true then EvS K te ρ2 l3 fun d l4 => I (i + 1) (acc ++ [d]) l4 else I (i + 1) acc l3) ∧
      ∀ acc l', I ds.length acc l' → R (.own l'.length) (l' ++ [.rfs acc])) : EvS K (tLc (iSeq K tl) g tt te vs) ρ l R :=
  e_lcD (good_of hg) (i_seqTD (h.imp fun x l1 ⟨y, ds, hy, hq, I, h0, hP, hs, hd⟩ => ⟨y, ds, hy, hq, I, h0, fun i acc l' hi z => ⟨trivial, hP i acc l' hi z⟩, fun i acc l' hi z => by
    have e : ds[i]? = some (ds.getD i .none) := by rw [List.getD_eq_getElem?_getD]; simp [hi]
    exact hs i _ acc l' e z, hd⟩))
/-- repr of own things as they are seen -/
theorem c_reprV {x : D} {d : PyData} (h : View l x (.f d)) (hb : brief (unpl d) = true) (hw : L3.wt (unpl d) ≤ 1000000) (hdp : (unpl d).depth ≤ 60) (z : R (.f (.str (unpl d).shown)) l) : CaS K (rRepr K) [x] l R := fun m B H vs S r Q q => by
  cases r with
  | cons r1 r2 =>
    cases r2
    have r3 := view_of S r1 h
    have sm : Same (seenB m B H) H := fun b o e => by
      unfold seenB at e
      split at e
      · exact e
      · exact S.sub b o e
    exact ⟨_, _, rfl, FR.dpU d _ (brief_shows _ hb).2 (FR.same sm d _ r3), hb, hw, hdp, retF S q (FR.str _) z⟩
end
/-- a part of a house, or a list of what is in it -/
def SeenP (p e : PyData) : Prop := e = p ∨ ∃ ds, TupD p ds ∧ e = .list ds
theorem seen_shows {ps es : List PyData} (h : Paired SeenP ps es) : briefAll (unplAll es) = briefAll (unplAll ps) ∧ wtAll (unplAll es) = wtAll (unplAll ps) ∧ PyData.depthAll (unplAll es) = PyData.depthAll (unplAll ps) := by
  induction h with
  | nil => exact ⟨rfl, rfl, rfl⟩
  | @cons p e ps es h1 h2 ih =>
    obtain ⟨i1, i2, i3⟩ := ih
    have one : brief (unpl e) = brief (unpl p) ∧ L3.wt (unpl e) = L3.wt (unpl p) ∧ (unpl e).depth = (unpl p).depth := by
      rcases h1 with rfl | ⟨ds, rfl | rfl, rfl⟩
      · exact ⟨rfl, rfl, rfl⟩
      · exact ⟨rfl, rfl, rfl⟩
      · exact ⟨rfl, rfl, rfl⟩
    obtain ⟨o1, o2, o3⟩ := one
    refine ⟨?_, ?_, ?_⟩
    · show (brief (unpl e) && briefAll (unplAll es)) = (brief (unpl p) && briefAll (unplAll ps))
      rw [o1, i1]
    · show L3.wt (unpl e) + 2 + wtAll (unplAll es) = L3.wt (unpl p) + 2 + wtAll (unplAll ps)
      rw [o2, i2]
    · show PyData.depthAll (unpl e :: unplAll es) = PyData.depthAll (unpl p :: unplAll ps)
      simp only [PyData.depthAll]
      rw [o3, i3]
theorem seen_list {ps es : List PyData} (h : Paired SeenP ps es) : brief (unpl (.list es)) = brief (unpl (.tuple ps)) ∧ L3.wt (unpl (.list es)) = L3.wt (unpl (.tuple ps)) ∧ (unpl (.list es)).depth = (unpl (.tuple ps)).depth := by
  obtain ⟨h1, h2, h3⟩ := seen_shows h
  refine ⟨?_, ?_, ?_⟩
  · show briefAll _ = briefAll _
    exact h1
  · show 3 + wtAll _ = 3 + wtAll _
    rw [h2]
  · show (PyData.list (unplAll es)).depth = (PyData.tuple (unplAll ps)).depth
    simp only [PyData.depth]
    rw [h3]
structure TreeL (l : List O) (ks : Knots) (ps : List (Nat × Nat)) (o : O) : Prop where
  pen : l[0]? = some o
  isp : IsPen o
  rfs : l[3]? = some (.rfs (ps.map fun p => D.own p.1))
  nd : (ps.map (·.2)).Nodup
  ne : ∀ p ∈ ps, p.1 ≠ 3 ∧ p.1 ≠ 0
  len : ps.length = ks.length
  at_ : ∀ (i : Nat) p k, ps[i]? = some p → ks[i]? = some k → l[p.1]? = some (.rfs [.f (.str k.1), .own p.2]) ∧ l[p.2]? = some (.lst (sPy k.2))
section
variable {l : List O} {ks : Knots} {ps : List (Nat × Nat)} {o o2 : O}
theorem TreeL.knot (h : TreeL l ks ps o) {i : Nat} {k : Str × List Str} (hk : ks[i]? = some k) : ∃ p, ps[i]? = some p := by
  have hi := (List.getElem?_eq_some_iff.mp hk).1
  exact ⟨ps[i]'(by rw [h.len]; exact hi), List.getElem?_eq_getElem _⟩
theorem TreeL.take1 (h : TreeL l ks ps o) : l.take 1 = [o] := by
  have e := h.pen
  cases l with
  | nil => simp at e
  | cons a l => simp at e; subst e; rfl
theorem TreeL.drawn (h : TreeL l ks ps o) (h2 : IsPen o2) : TreeL (l.set 0 o2) ks ps o2 := by
  obtain ⟨d1, e1⟩ := h.isp.form
  exact {
    pen := set_get_eq h.pen
    isp := h2
    rfs := by rw [List.getElem?_set_ne (by decide)]; exact h.rfs
    nd := h.nd
    ne := h.ne
    len := h.len
    at_ := fun i p k a b => by
      obtain ⟨g1, g2⟩ := h.at_ i p k a b
      exact ⟨by rw [List.getElem?_set_ne fun e => (h.ne p (List.mem_of_getElem? a)).2 e.symm]; exact g1, set_get_ne h.pen g2 (by rw [e1]; nofun)⟩ }
theorem TreeL.put (h : TreeL l ks ps o) {i : Nat} {p : Nat × Nat} {k : Str} {xs ys : List Str} (hp : ps[i]? = some p) (hk : ks[i]? = some (k, xs)) : TreeL (l.set p.2 (.lst (sPy ys))) (ks.set i (k, ys)) ps o := by
  obtain ⟨d1, e1⟩ := h.isp.form
  obtain ⟨b1, b2⟩ := h.at_ i p _ hp hk
  have hlt : i < ks.length := (List.getElem?_eq_some_iff.mp hk).1
  exact {
    pen := set_get_ne b2 h.pen (by rw [e1]; nofun)
    isp := h.isp
    rfs := set_get_ne b2 h.rfs nofun
    nd := h.nd
    ne := h.ne
    len := by rw [List.length_set]; exact h.len
    at_ := fun n q k' a b => by
      by_cases e : n = i
      · subst e
        rw [hp] at a
        cases a
        rw [List.getElem?_set_self hlt] at b
        cases b
        exact ⟨set_get_ne b2 b1 nofun, set_get_eq b2⟩
      · rw [List.getElem?_set_ne (fun q => e q.symm)] at b
        obtain ⟨g1, g2⟩ := h.at_ n q k' a b
        refine ⟨set_get_ne b2 g1 nofun, ?_⟩
        rw [List.getElem?_set_ne]
        · exact g2
        · intro e2
          have z1 : (ps.map (·.2))[n]? = some q.2 := by rw [List.getElem?_map, a]; rfl
          have z2 : (ps.map (·.2))[i]? = some q.2 := by rw [List.getElem?_map, hp, ← e2]; rfl
          obtain ⟨l1, c1⟩ := List.getElem?_eq_some_iff.mp z1
          obtain ⟨l2, c2⟩ := List.getElem?_eq_some_iff.mp z2
          apply e
          rw [← h.nd.idxOf_getElem n l1, ← h.nd.idxOf_getElem i l2, c1, c2] }
theorem TreeL.group (h : TreeL l ks ps o) {x : Str} : TreeL ((l ++ [O.lst [], O.rfs [D.f (.str x), D.own l.length]]).set 3 (O.rfs (ps.map (fun p => D.own p.1) ++ [.own (l.length + 1)]))) (ks ++ [(x, [])]) (ps ++ [(l.length + 1, l.length)]) o := by
  obtain ⟨d1, e1⟩ := h.isp.form
  have h4 := (List.getElem?_eq_some_iff.mp h.rfs).1
  have up : ∀ {i : Nat} {y : O}, l[i]? = some y → (l ++ [O.lst [], O.rfs [D.f (.str x), D.own l.length]])[i]? = some y := fun e => by
    rw [List.getElem?_append_left (List.getElem?_eq_some_iff.mp e).1]; exact e
  have n1 : (l ++ [O.lst [], O.rfs [D.f (.str x), D.own l.length]])[l.length]? = some (.lst []) := by rw [List.getElem?_append_right (Nat.le_refl _), Nat.sub_self]; rfl
  have n2 : (l ++ [O.lst [], O.rfs [D.f (.str x), D.own l.length]])[l.length + 1]? = some (.rfs [.f (.str x), .own l.length]) := by rw [List.getElem?_append_right (by omega), Nat.add_sub_cancel_left]; rfl
  exact {
    pen := by rw [List.getElem?_set_ne (by decide)]; exact up h.pen
    isp := h.isp
    rfs := by rw [List.map_append]; exact set_get_eq (up h.rfs)
    nd := by
      rw [List.map_append]
      refine List.nodup_append.mpr ⟨h.nd, by simp, fun a ha b hb e => ?_⟩
      have hb : b = l.length := List.mem_singleton.mp hb
      subst hb e
      obtain ⟨q, hq, e⟩ := List.mem_map.mp ha
      obtain ⟨n, hn⟩ := List.getElem?_of_mem hq
      have hl : n < ks.length := by rw [← h.len]; exact (List.getElem?_eq_some_iff.mp hn).1
      have g := (h.at_ n q _ hn (List.getElem?_eq_getElem hl)).2
      have := (List.getElem?_eq_some_iff.mp g).1
      omega
    ne := fun p hp => by
      rcases List.mem_append.mp hp with hp | hp
      · exact h.ne p hp
      · cases List.mem_singleton.mp hp
        show l.length + 1 ≠ 3 ∧ l.length + 1 ≠ 0
        omega
    len := by rw [List.length_append, List.length_append, h.len]; rfl
    at_ := fun n q k' a b => by
      have key : (ps[n]? = some q ∧ ks[n]? = some k') ∨ (q = (l.length + 1, l.length) ∧ k' = (x, [])) := by
        rcases Nat.lt_or_ge n ps.length with c | c
        · rw [List.getElem?_append_left c] at a
          rw [List.getElem?_append_left (by rw [← h.len]; exact c)] at b
          exact .inl ⟨a, b⟩
        · rw [List.getElem?_append_right c] at a
          rw [List.getElem?_append_right (by rw [← h.len]; exact c), ← h.len] at b
          have e : n - ps.length = 0 := by
            have := (List.getElem?_eq_some_iff.mp a).1
            simp at this
            omega
          rw [e] at a b
          cases a
          cases b
          exact .inr ⟨rfl, rfl⟩
      rcases key with ⟨a, b⟩ | ⟨rfl, rfl⟩
      · obtain ⟨g1, g2⟩ := h.at_ n q k' a b
        refine ⟨?_, set_get_ne (up h.rfs) (up g2) nofun⟩
        rw [List.getElem?_set_ne fun e => (h.ne q (List.mem_of_getElem? a)).1 e.symm]
        exact up g1
      · refine ⟨?_, set_get_ne (up h.rfs) n1 nofun⟩
        rw [List.getElem?_set_ne (show 3 ≠ l.length + 1 by omega)]
        exact n2 }
end
theorem insAt_end {α : Type} (xs : List α) (x : α) : insAt xs xs.length x = xs ++ [x] := by
  unfold insAt
  rw [List.take_length, List.drop_length, List.append_nil]
def S__law_row : Spec3 := fun ds g R => ∃ o us deep, ds = [.own 0, .f (.list (sPy us)), .f (.int ((deep : Nat) : Int))] ∧ g = [o] ∧ IsPen o ∧ us.length ≤ 60 ∧ us.Nodup ∧ (∀ u ∈ us, 1 ≤ u.length) ∧ deep ≤ 6 ∧ deep ≤ us.length ∧ ∀ o' ks r, IsPen o' → Tree ks us 6 r → R (.f (houseD ks [] [] [])) [o']
abbrev s__law_row : Stmt := top 57
theorem sc__law_row : FnScope ["_law_pen_here", "_law_units", "_law_deep", "_law_knots", "_law_k", "_law_unit", "_law_some", "_law_name"] ["_law_pen_here", "_law_units", "_law_deep"] (defScope s__law_row) := ⟨rfl, rfl, rfl, by decide +kernel, rfl, by decide +kernel, by decide +kernel⟩
set_option maxHeartbeats 4000000 in
theorem ok__law_row (T : Bi K mg) (Df : DefAt K mg "_law_row" s__law_row ["_law_pen_here", "_law_units", "_law_deep"]) (C__law_draw : Cal P w K mg base 1 "_law_draw" ["_law_pen_here", "_law_most"] S__law_draw) : Cal P w K mg base 2 "_law_row" ["_law_pen_here", "_law_units", "_law_deep"] S__law_row := by
  refine ok4 Df sc__law_row (fun ds g R h0 => by obtain ⟨_, _, _, h, _⟩ := h0; rw [h]; rfl) (fun cdv A outer s H E f hr => ?_)
  have hu1 := hu_of hr.r
  have hu64 := hr.units
  have hu65 : (A.deeper (PyProof.Rows.envOfC "_law_row" (defScope s__law_row) s.heap.objs.size f cdv)).units + 65 < cLine := by have := hr.un; omega
  refine ⟨_, (pss_cons (ps_set (i := 3) sc__law_row.nd rfl (by first | exact Or.inl rfl | exact Or.inr rfl) (pe_lst (pa_cons (pe_lst (pa_cons pe_str (pa_cons (pe_lst pa_nil) pa_nil))) pa_nil)))
    (pss_cons (ps_for PassesOwn.never rfl (pi_range1 (by rfl) T.b_range (pa_cons (pv 2) pa_nil)) (pg_name (i := 4) sc__law_row.nd rfl (by first | exact Or.inl rfl | exact Or.inr rfl))
    (pss_cons (ps_expr (u_bm (K := K) rfl PySem.F.plainAttrs_list PySem.F.slot_list_append PySem.F.type_list_append mt_append (pe_ix (u_ix (K := K) rfl hu1) (pe_ix (u_ix (K := K) rfl hu1) (pv 3) (pe_un un_neg pe_int) (fun _ _ => rfl)) pe_int (fun _ _ => rfl)) (pa_cons (pe_ix (u_ix (K := K) rfl hu1) (pv 1) (pv 4) (fun _ _ => rfl)) pa_nil)))
    (pss_one (ps_expr (u_bm (K := K) rfl PySem.F.plainAttrs_list PySem.F.slot_list_append PySem.F.type_list_append mt_append (pv 3) (pa_cons (pe_lst (pa_cons (pe_ix (u_ix (K := K) rfl hu1) (pv 1) (pv 4) (fun _ _ => rfl)) (pa_cons (pe_lst pa_nil) pa_nil))) pa_nil))))))
    (pss_cons (ps_for PassesOwn.never rfl (u_seq (K := K) rfl (pe_slice (u_sl (K := K) rfl) (pv 1) (po_some (pv 2)) po_none)) (pg_name (i := 5) sc__law_row.nd rfl (by first | exact Or.inl rfl | exact Or.inr rfl))
    (pss_cons (ps_set (i := 6) sc__law_row.nd rfl (by first | exact Or.inl rfl | exact Or.inr rfl) (pe_ix (u_ix (K := K) rfl hu1) (pe_ix (u_ix (K := K) rfl hu1) (pv 3) (pe_cal (K := K) rfl C__law_draw (hr.mono (by decide)) (by rfl) (pa_cons (pv 0) (pa_cons (pe_callB (u_len (K := K) rfl) (by rfl) T.b_len (by decide +kernel) (pa_cons (pv 3) pa_nil)) pa_nil))) (fun _ _ => rfl)) pe_int (fun _ _ => rfl)))
    (pss_one (ps_expr (u_bm (K := K) rfl PySem.F.plainAttrs_list PySem.F.slot_list_insert PySem.F.type_list_insert u_insert (pv 6) (pa_cons (pe_cal (K := K) rfl C__law_draw (hr.mono (by decide)) (by rfl) (pa_cons (pv 0) (pa_cons (pe_op (u_add (K := K) rfl) (pe_callB (u_len (K := K) rfl) (by rfl) T.b_len (by decide +kernel) (pa_cons (pv 6) pa_nil)) pe_int) pa_nil))) (pa_cons (pv 5) pa_nil)))))))
    (pss_one (ps_ret (pe_tup (pa_cons (pe_callTy (u_tupleP (K := K) rfl) (by rfl) T.b_tuple (by decide +kernel) (pa_cons (pe_lc (own := [("_law_name", 7), ("_law_some", 6)]) (by rfl) sc__law_row.nd (u_seq (K := K) rfl (pv 3)) (blkOk_by (own := [("_law_name", 7), ("_law_some", 6)]) (N := ["_law_pen_here", "_law_units", "_law_deep", "_law_knots", "_law_k", "_law_unit", "_law_some", "_law_name"]) (sc := defScope s__law_row) (by decide +kernel)) (fun _ _ _ _ _ => (u_lst (K := K) (n := 2) rfl (by rfl) (pgs_cons (pg_name (i := 7) sc__law_row.nd rfl (by first | exact Or.inl rfl | exact Or.inr rfl)) (pgs_cons (pg_name (i := 6) sc__law_row.nd rfl (by first | exact Or.inl rfl | exact Or.inr rfl)) pgs_nil)))) (fun _ _ _ _ _ => pts_nil) (fun _ _ _ _ _ => (pe_tup (pa_cons (pv 7) (pa_cons (pe_callTy (u_tupleP (K := K) rfl) (by rfl) T.b_tuple (by decide +kernel) (pa_cons (pv 6) pa_nil)) pa_nil))))) pa_nil)) (pa_cons (pe_tup pa_nil) (pa_cons (pe_tup pa_nil) (pa_cons (pe_tup pa_nil) pa_nil)))))))))), fun ds g R hS => ?_⟩
  obtain ⟨o, us, deep, rfl, rfl, hp, hul, hun, hu1, hd6, hdl, z⟩ := hS
  show ExS K _ [some _, some _, some _, none, none, none, none, none] _ _
  refine xs_set (e_rfs (a_cons (e_rfs (a_cons (e_str (a_cons (e_lst (a_nil ⟨[], rfl, by decide, a_nil ⟨Nat.le_of_ble_eq_true rfl, a_nil ⟨Nat.le_of_ble_eq_true rfl, ?_⟩⟩⟩))))))))
  show ExS K _ [some (.own 0), some (.f (.list (sPy us))), some (.f (.int (deep : Nat))), some (.own 3), none, none, none, none] [o, .lst (sPy []), .rfs [.f (.str nil0), .own 1], .rfs [.own 2]] _
  have hne : ∀ x ∈ us, x ≠ nil0 := fun x hx e => by
    have := hu1 x hx
    rw [e] at this
    exact absurd this (by decide)
  have hS0 : TreeL [o, .lst (sPy []), .rfs [.f (.str nil0), .own 1], .rfs [.own 2]] [(nil0, [])] [(2, 1)] o := by
    refine ⟨rfl, hp, rfl, by simp, by simp, rfl, fun i p k a b => ?_⟩
    cases i with
    | zero => cases a; cases b; exact ⟨rfl, rfl⟩
    | succ i => simp at a
  refine xs_mid (fun ρ' l' => ∃ ks ps o' r a, ρ' = [some (.own 0), some (.f (.list (sPy us))), some (.f (.int (deep : Nat))), some (.own 3), a, none, none, none] ∧ TreeL l' ks ps o' ∧ Tree ks (us.take deep) 6 r ∧ True) ?_ ?_
  · refine x_forR (a_cons (e_var rfl (a_nil ⟨((deep : Nat) : Int), rfl, by omega, by omega, fun i ρ' l' => i ≤ deep ∧ ∃ ks ps o' r a, ρ' = [some (.own 0), some (.f (.list (sPy us))), some (.f (.int (deep : Nat))), some (.own 3), a, none, none, none] ∧ TreeL l' ks ps o' ∧ Tree ks (us.take i) 6 r ∧ (ks.length = i + 1 ∧ ∃ n, ks[i]? = some (n, []) ∧ r n = i), ⟨Nat.zero_le _, _, _, _, _, none, rfl, hS0, Tree.start (by decide), rfl, nil0, rfl, rfl⟩, ?_, ?_⟩)))
    · rintro i ρ' l' hi ⟨_, ks, ps, o', r, a, rfl, hS, hT, hkl, n, hn, hrn⟩
      have hi : i < deep := by simpa using hi
      have hil : i < us.length := by omega
      have hx : us[i]? = some us[i] := List.getElem?_eq_getElem hil
      generalize us[i] = x at hx
      obtain ⟨p, hpj⟩ := hS.knot hn
      obtain ⟨g1, g2⟩ := hS.at_ i p _ hpj hn
      have hpl : ps.length = i + 1 := by rw [hS.len]; exact hkl
      have hlast : atI (ps.map fun p => D.own p.1) (-1) = some (.own p.1) := by
        refine atI_m1 ?_
        rw [List.getLast?_eq_getElem?, List.length_map, hpl, List.getElem?_map, show i + 1 - 1 = i from rfl, hpj]
        rfl
      have hxi : ¬ x ∈ us.take i := not_mem_take hun hx
      have hxe : x ≠ nil0 := hne x (List.mem_of_getElem? hx)
      refine g_name ?_
      refine xs_drop (e_bmL (e_op (e_op (e_var rfl (e_un (e_int (o_neg (o_ixR hS.rfs hlast (e_int (o_ixR g1 rfl ⟨⟨_, isl_own g2⟩, a_cons (e_op (e_var rfl (e_var rfl (o_ixQ isq_list (atI_nat (sPy_get_of hx)) (a_nil (m_append g2 (Nat.le_of_ble_eq_true rfl) ?_))))))⟩))))))))))
      have hS4 := hS.put (ys := [x]) hpj hn
      have hT4 := hT.put hn 0 hxi hxe
      have hnm := set_names (ys := insAt ([] : List Str) 0 x) hn
      have hst : Stands (ks.set i (n, insAt [] 0 x)) x n := (stands_put hn _).mpr (.inr ⟨rfl, rfl⟩)
      have hlen4 : (ks.set i (n, insAt [] 0 x)).length = ks.length := List.length_set ..
      have hS4 : TreeL (l'.set p.2 (.lst (sPy [] ++ [.str x]))) (ks.set i (n, insAt [] 0 x)) ps o' := hS4
      generalize ks.set i (n, insAt [] 0 x) = ks4 at hS4 hT4 hnm hst hlen4
      generalize l'.set p.2 (.lst (sPy [] ++ [.str x])) = l4 at hS4
      rw [← L3.take_next hx] at hT4
      have hxn : ¬ x ∈ ks4.map (·.1) := fun h => by
        rw [hnm] at h
        rcases hT.knot_in h with e | e
        · exact hxe e
        · exact hxi e
      clear hS g1 g2
      show ExS K _ [some (.own 0), some (.f (.list (sPy us))), some (.f (.int (deep : Nat))), some (.own 3), some (.f (.int (i : Nat))), none, none, none] l4 _
      refine x_drop (e_bmR (e_var rfl ⟨⟨_, _, rfl, hS4.rfs⟩, a_cons (e_rfs (a_cons (e_op (e_var rfl (e_var rfl (o_ixQ isq_list (atI_nat (sPy_get_of hx)) (a_cons (e_lst (a_nil ⟨[], rfl, by decide, a_nil ⟨Nat.le_of_ble_eq_true rfl, a_nil (m_appendR (n := 3) (ds := ps.map fun p => D.own p.1) ?_ (by rw [List.length_map, hS4.len]; omega) ?_)⟩⟩)))))))))⟩))
      · rw [List.append_assoc, List.getElem?_append_left (List.getElem?_eq_some_iff.mp hS4.rfs).1]
        exact hS4.rfs
      have hS6 := hS4.group (x := x)
      have el : (l4 ++ [O.lst []] ++ [O.rfs [D.f (.str x), D.own l4.length]]) = l4 ++ [O.lst [], O.rfs [D.f (.str x), D.own l4.length]] := by rw [List.append_assoc]; rfl
      have e2 : (l4 ++ [O.lst []]).length = l4.length + 1 := by rw [List.length_append]; rfl
      rw [e2, el]
      have hTg := hT4.group (v := r n + 1) (ks4.length - 1) hst hxn rfl (by omega) (by
        have h2 : (us.take (i + 1)).length = i + 1 := by rw [List.length_take]; omega
        omega)
      rw [show ks4.length - 1 + 1 = ks4.length by omega, insAt_end] at hTg
      refine ⟨hi, _, _, _, fun y => if y = x then r n + 1 else r y, _, rfl, hS6, hTg, by rw [List.length_append, hlen4, hkl]; rfl, x, ?_, ?_⟩
      · rw [List.getElem?_append_right (by omega), show i + 1 - ks4.length = 0 by omega]; rfl
      · show (if x = x then r n + 1 else r x) = _
        rw [if_pos rfl, hrn]; rfl
    · rintro ρ' l' ⟨_, ks, ps, o', r, a, rfl, hS, hT, _⟩
      exact ⟨ks, ps, o', r, a, rfl, hS, by simpa using hT, trivial⟩
  rintro ρ' l' ⟨ks, ps, o', r, a, rfl, hS, hT, _⟩
  have ecut : cutD (sPy us) (some ((deep : Nat) : Int)) none = sPy (us.drop deep) := by
    rw [cut_drop _ (by rw [sPy_len]; exact hdl)]
    exact (List.map_drop ..).symm
  refine xs_forQ (e_sl (e_var rfl (o_some (e_var rfl ⟨_, rfl, o_none (s_listF isl_list ?_)⟩))))
  rw [ecut]
  refine ⟨sPy (us.drop deep), isq_list, fun i ρ' l' => ∃ ks ps o' r a b c, ρ' = [some (.own 0), some (.f (.list (sPy us))), some (.f (.int (deep : Nat))), some (.own 3), a, b, c, none] ∧ TreeL l' ks ps o' ∧ Tree ks (us.take (deep + i)) 6 r,
    ⟨_, _, _, _, _, none, none, rfl, hS, hT⟩, fun _ _ _ _ _ => isq_list, ?_, ?_⟩
  · rintro i d ρ' l' hdd ⟨ks, ps, o', r, a, b, c, rfl, hS, hT⟩
    obtain ⟨x, hx, rfl⟩ := sPy_get hdd
    rw [List.getElem?_drop] at hx
    have hil : deep + i < us.length := (List.getElem?_eq_some_iff.mp hx).1
    have hks : 0 < ks.length := by obtain ⟨xs, rest, e⟩ := hT.first; rw [e]; simp
    have hkb : ks.length ≤ 61 := by have := hT.len; rw [List.length_take] at this; omega
    refine g_name (xs_set (e_op (e_op (e_var rfl (e_draw 0 (a_cons (e_var rfl (a_cons (e_cb (a_cons (e_var rfl (a_nil (c_lenR hS.rfs ?_)))))))))))))
    rw [List.length_map, hS.len]
    refine a_nil ⟨_, _, rfl, hS.pen, hS.isp, by omega, by omega, fun r1 o2 a1 b1 p2 => ?_⟩
    have hS2 := hS.drawn p2
    obtain ⟨j, rfl⟩ := Int.eq_ofNat_of_zero_le a1
    have hj : j < ks.length := by omega
    have hk : ks[j]? = some ks[j] := List.getElem?_eq_getElem hj
    obtain ⟨p, hpj⟩ := hS2.knot hk
    obtain ⟨g1, g2⟩ := hS2.at_ j p _ hpj hk
    refine o_ixR hS2.rfs (show atI (ps.map fun p => D.own p.1) ((j : Nat) : Int) = some (.own p.1) from atI_nat (by rw [List.getElem?_map, hpj]; rfl)) (e_int (o_ixR g1 rfl ?_))
    have hxi : ¬ x ∈ us.take (deep + i) := not_mem_take hun hx
    have hxe : x ≠ nil0 := hne x (List.mem_of_getElem? hx)
    have hkl2 : ks[j].2.length ≤ us.length := nodup_le (hT.nd _ (List.getElem_mem hj)) fun y hy => List.mem_of_mem_take ((hT.all y).mpr ⟨_, _, List.getElem_mem hj, hy⟩)
    refine x_drop (e_bmL (e_var rfl ⟨⟨_, isl_own g2⟩, ?_⟩))
    refine a_cons (e_draw 0 (a_cons (e_var rfl (a_cons (e_op (e_cb (a_cons (e_var rfl (a_nil (c_lenQ (isq_own g2) (e_int (o_addI ?_))))))))))))
    rw [sPy_len]
    refine a_nil ⟨_, _, rfl, hS2.pen, hS2.isp, by omega, by omega, fun r2 o3 a2 b2 p3 => ?_⟩
    have hS3 := hS2.drawn p3
    refine a_cons (e_var rfl (a_nil (m_insert (hS3.at_ j p _ hpj hk).2 (by rw [sPy_len]; omega) a2 (by omega) ?_)))
    rw [sPy_insAt]
    have hS4 := hS3.put (ys := insAt ks[j].2 r2.toNat x) hpj hk
    have hT4 := hT.put (k := ks[j].1) (xs := ks[j].2) hk r2.toNat hxi hxe
    rw [← L3.take_next hx] at hT4
    exact ⟨_, _, _, _, _, _, _, rfl, hS4, hT4⟩
  rintro ρ' l' ⟨ks, ps, o', r, a, b, c, rfl, hS, hT⟩
  have hfull : us.take (deep + (sPy (us.drop deep)).length) = us := by
    rw [sPy_len, List.length_drop, List.take_of_length_le (by omega)]
  rw [hfull] at hT
  refine x_ret (e_tup (a_cons (e_cb (a_cons (e_lcRf (gg_lst (gg_cons (gg_name (by decide)) (gg_cons (gg_name (by decide)) gg_nil mono_name) mono_name)) (e_var rfl ⟨3, _, rfl, hS.rfs, fun i acc l2 => l2 = l' ∧ acc = ksPy (ks.take i), ⟨rfl, rfl⟩, ?_, ?_, ?_⟩))))))
  · rintro i acc l2 hi ⟨rfl, rfl⟩
    refine ⟨hS.rfs, ?_⟩
    rw [ksPy_len, List.length_take]
    have := hT.len
    omega
  · rintro i d acc l2 hdd ⟨rfl, rfl⟩
    rw [List.getElem?_map] at hdd
    cases hpi : ps[i]? with
    | none => rw [hpi] at hdd; cases hdd
    | some p =>
      rw [hpi] at hdd
      cases hdd
      have hil : i < ks.length := by rw [← hS.len]; exact (List.getElem?_eq_some_iff.mp hpi).1
      have hki : ks[i]? = some ks[i] := List.getElem?_eq_getElem hil
      obtain ⟨g1, g2⟩ := hS.at_ i p _ hpi hki
      refine g_lst g1 rfl (g_cons (g_name (g_cons (g_name (g_nil (t_yes ?_))))))
      refine e_tup (a_cons (e_var rfl (a_cons (e_cb (a_cons (e_var rfl (a_nil (c_tupleP (isl_own g2) (a_nil ⟨_, rfl, Nat.le_of_ble_eq_true rfl, ?_⟩)))))))))
      refine ⟨_, rfl, rfl, ?_⟩
      rw [L3.take_next hki, ksPy_app]
      rfl
  · rintro acc l2 ⟨rfl, rfl⟩
    have e : ks.take (ps.map fun p => D.own p.1).length = ks := by rw [List.length_map, hS.len, List.take_length]
    rw [e]
    refine a_nil (c_tupleP (isl_own (n := l2.length) (by rw [List.getElem?_append_right (Nat.le_refl _), Nat.sub_self]; rfl)) ?_)
    refine a_cons (e_tup (a_nil ⟨[], rfl, Nat.le_of_ble_eq_true rfl, a_cons (e_tup (a_nil ⟨[], rfl, Nat.le_of_ble_eq_true rfl, a_cons (e_tup (a_nil ⟨[], rfl, Nat.le_of_ble_eq_true rfl, a_nil ⟨[plD (ksPy ks), .tuple [], .tuple [], .tuple []], rfl, Nat.le_of_ble_eq_true rfl, ?_⟩⟩))⟩))⟩))
    have hl1 : 1 ≤ l2.length := by have := (List.getElem?_eq_some_iff.mp hS.pen).1; omega
    have ht : (l2 ++ [O.lst (ksPy ks)]).take [o].length = [o'] := by
      show (l2 ++ [O.lst (ksPy ks)]).take 1 = _
      rw [List.take_append_of_le_length hl1]; exact hS.take1
    refine Res.dat (by rw [ht]; intro y hy; cases hy with | head => exact hS.isp.under | tail _ h => cases h) ?_
    rw [ht]
    exact z o' ks r hS.isp hT
/-- a good house as data, however it was built -/
def GoodD (d : PyData) : Prop := ∃ ks us ts wt ws deep r, HouseR d ks ts wt ws ∧ Tree ks us deep r ∧ deep ≤ 6 ∧ us.length ≤ 60 ∧ (∀ u ∈ us, nmB u = true) ∧ TiesOk ks us ts ∧ WantsOk ks ws ∧ WaitsOk ks us ts ws wt ∧ ts.length + wt.length ≤ 200 ∧ (brief (unpl d) = true ∧ L3.wt (unpl d) ≤ 900000 ∧ (unpl d).depth ≤ 60) ∧ Firm d
theorem GoodD.facts {d : PyData} (h : GoodD d) : ∃ ks ts wt ws, HouseR d ks ts wt ws ∧ HouseS ks ts wt ws ∧ NmsOk ks ∧ HouseGd ks ts wt ws ∧ (brief (unpl d) = true ∧ L3.wt (unpl d) ≤ 900000 ∧ (unpl d).depth ≤ 60) ∧ Firm d := by
  obtain ⟨ks, us, ts, wt, ws, deep, r, hR, T, hd, hl, hn, hT, hW, hw, hlen, hb, hF⟩ := h
  have hG := houseGd_of T hd hl hn hT hW hw hlen
  have hkl := T.len
  have hul := hG.knots.len
  have hwl := WantsOk.len ⟨deep, r, T, by omega, hl⟩ hW
  refine ⟨ks, ts, wt, ws, hR, ⟨by omega, by omega, by omega, by omega, by omega⟩, fun k hk c hc => ?_, hG, hb, hF⟩
  have := nmB_iff.mp (hG.knots.nm k hk c hc)
  exact ⟨this.1.ok, by omega⟩
theorem firm_ksPy : ∀ ks : Knots, FirmAll (ksPy ks)
  | [] => trivial
  | k :: ks => ⟨⟨trivial, firm_sPy k.2, trivial⟩, firm_ksPy ks⟩
theorem firm_house (ks : Knots) (ts wt ws : Ties) : Firm (houseD ks ts wt ws) := ⟨firm_ksPy ks, firm_pPy ts, firm_pPy wt, firm_pPy ws, trivial⟩
theorem houseR_of (ks : Knots) (ts wt ws : Ties) : HouseR (houseD ks ts wt ws) ks ts wt ws := ⟨_, _, _, _, _, rfl, .inr rfl, ksPy_knots ks, .inl rfl, .inl rfl, .inl rfl⟩
theorem nm30 {us : List Str} (hn : ∀ u ∈ us, nmB u = true) : ∀ u ∈ us, PyData.strOk u = true ∧ u.length ≤ 30 := fun u hu => by
  have := nmB_iff.mp (hn u hu)
  exact ⟨this.1.ok, by omega⟩
theorem WantsOk.nil (ks : Knots) : WantsOk ks [] := ⟨fun _ h => by (cases h), List.nodup_nil⟩
theorem TiesOk.nil (ks : Knots) (us : List Str) : TiesOk ks us [] := ⟨fun _ h => by (cases h), fun _ h => by (cases h), List.nodup_nil⟩
theorem WaitsOk.nil (ks : Knots) (us : List Str) (ts ws : Ties) : WaitsOk ks us ts ws [] := ⟨fun _ h => by (cases h), fun _ h => by (cases h), List.nodup_nil⟩
theorem good_house {ks : Knots} {us : List Str} {ts wt ws : Ties} {deep : Int} {r : Str → Int} (h : HouseOk ks us ts wt ws) (T : Tree ks us deep r) (hd : deep ≤ 6) (hn : ∀ u ∈ us, nmB u = true) : GoodD (houseD ks ts wt ws) := by
  obtain ⟨_, _, _, _, hl⟩ := h.tree
  have h1 := h.tl
  have h2 := h.wl
  exact ⟨ks, us, ts, wt, ws, deep, r, houseR_of .., T, hd, hl, hn, h.ties, h.wants, h.waits, by omega, h.shows9 (nm30 hn), firm_house ..⟩
theorem good_row {ks : Knots} {us : List Str} {r : Str → Int} (T : Tree ks us 6 r) (hl : us.length ≤ 60) (hn : ∀ u ∈ us, nmB u = true) : GoodD (houseD ks [] [] []) :=
  good_house ⟨⟨6, r, T, by decide, hl⟩, TiesOk.nil .., Nat.zero_le _, WantsOk.nil .., WaitsOk.nil .., Nat.zero_le _⟩ T (by decide) hn
def emptyD : PyData := .tuple [.tuple [.tuple [.str nil0, .tuple []]], .tuple [], .tuple [], .tuple []]
theorem good_empty : GoodD emptyD := by
  have T := Tree.start (deep := 6) (by decide)
  refine ⟨[(nil0, [])], [], [], [], [], 6, _, ⟨_, _, _, _, _, rfl, .inl rfl, .cons ⟨_, rfl, .inl rfl⟩ .nil, .inl rfl, .inl rfl, .inl rfl⟩, T, by decide, by decide, fun _ h => by (cases h), TiesOk.nil .., WantsOk.nil .., WaitsOk.nil .., by decide, ⟨?_, ?_, ?_⟩, ?_⟩
  · decide +kernel
  · decide +kernel
  · decide +kernel
  · exact ⟨⟨⟨trivial, trivial, trivial⟩, trivial⟩, trivial, trivial, trivial, trivial⟩
/-! the full house: one knot, every tie -/
def rowT (us : List Str) (k : Nat) : Ties := (List.range (20 - k)).map fun j => (us.getD k nil0, us.getD (k + 1 + j) nil0)
def allT (us : List Str) : Nat → Ties
  | 0 => []
  | k + 1 => allT us k ++ rowT us k
def cntT : Nat → Nat
  | 0 => 0
  | k + 1 => cntT k + (20 - k)
theorem allT_len (us : List Str) : ∀ k, (allT us k).length = cntT k
  | 0 => rfl
  | k + 1 => by
    show (allT us k ++ rowT us k).length = cntT k + (20 - k)
    rw [List.length_append, allT_len us k]
    unfold rowT
    rw [List.length_map, List.length_range]
theorem getD_at {us : List Str} {i : Nat} (h : i < us.length) : us[i]? = some (us.getD i nil0) := by
  rw [List.getD_eq_getElem?_getD]; simp [h]
theorem getD_idx {us : List Str} (hn : us.Nodup) {i : Nat} (h : i < us.length) : us.idxOf (us.getD i nil0) = i := by
  obtain ⟨h1, h2⟩ := List.getElem?_eq_some_iff.mp (getD_at h)
  rw [← h2]
  exact hn.idxOf_getElem i h
theorem getD_mem {us : List Str} {i : Nat} (h : i < us.length) : us.getD i nil0 ∈ us := List.mem_of_getElem? (getD_at h)
theorem allT_mem {us : List Str} {e : Str × Str} : ∀ {k : Nat}, k ≤ 21 → e ∈ allT us k → ∃ i j, i < j ∧ i < k ∧ j < 21 ∧ e = (us.getD i nil0, us.getD j nil0)
  | 0, _, h => by cases h
  | k + 1, hk, h => by
    rcases List.mem_append.mp h with h | h
    · obtain ⟨i, j, h1, h2, h3, h4⟩ := allT_mem (by omega) h
      exact ⟨i, j, h1, by omega, h3, h4⟩
    · unfold rowT at h
      obtain ⟨j, hj, rfl⟩ := List.mem_map.mp h
      have := List.mem_range.mp hj
      exact ⟨k, k + 1 + j, by omega, by omega, by omega, rfl⟩
theorem allT_nodup {us : List Str} (hn : us.Nodup) (hl : us.length = 21) : ∀ {k : Nat}, k ≤ 21 → (allT us k).Nodup
  | 0, _ => List.nodup_nil
  | k + 1, hk => by
    show (allT us k ++ rowT us k).Nodup
    rw [List.nodup_append]
    refine ⟨allT_nodup hn hl (by omega), ?_, fun a ha b hb e => ?_⟩
    · unfold rowT
      have h0 : (List.range (20 - k)).Nodup := List.nodup_range
      unfold List.Nodup at *
      rw [List.pairwise_map]
      refine List.Pairwise.imp_of_mem (fun {a b} ha hb hne e => hne ?_) h0
      have ha := List.mem_range.mp ha
      have hb := List.mem_range.mp hb
      injection e with _ e
      have := congrArg us.idxOf e
      rw [getD_idx hn (by omega), getD_idx hn (by omega)] at this
      omega
    · obtain ⟨i, j, h1, h2, h3, h4⟩ := allT_mem (by omega) ha
      unfold rowT at hb
      obtain ⟨j', hj', h5⟩ := List.mem_map.mp hb
      rw [h4, ← h5] at e
      injection e with e _
      have := congrArg us.idxOf e
      rw [getD_idx hn (by omega), getD_idx hn (by omega)] at this
      omega
theorem flatTree {us : List Str} (hn : us.Nodup) (h0 : ∀ u ∈ us, u ≠ nil0) : Tree [(nil0, us)] us 6 (fun _ => 0) where
  names := by simp
  first := ⟨_, _, rfl⟩
  one := fun u k k' ⟨xs, h1, _⟩ ⟨ys, h2, _⟩ => by cases List.mem_singleton.mp h1; cases List.mem_singleton.mp h2; rfl
  all := fun u => ⟨fun h => ⟨nil0, us, List.mem_singleton.mpr rfl, h⟩, fun ⟨k, xs, h1, h2⟩ => by cases List.mem_singleton.mp h1; exact h2⟩
  nt := h0
  grp := fun k hk h => by cases List.mem_singleton.mp hk; exact absurd rfl h
  nd := fun k hk => by cases List.mem_singleton.mp hk; exact hn
  und := hn
  lev := fun u k ⟨xs, h1, h2⟩ h => by
    have : u = nil0 := by simpa using h
    cases List.mem_singleton.mp h1
    exact absurd this (h0 u h2)
  rng := fun k hk => ⟨Int.le_refl _, by decide⟩
  len := by simp
theorem flatPath {us : List Str} (h0 : ∀ u ∈ us, u ≠ nil0) {u : Str} (hu : u ∈ us) : pathOf [(nil0, us)] u = [nil0, u] := by
  have hk : L3.knotOf [(nil0, us)] u = some nil0 := by
    unfold L3.knotOf
    rw [List.find?_cons, decide_eq_true hu]
    rfl
  show (if u = nil0 then [nil0] else match L3.knotOf [(nil0, us)] u with | none => [nil0, u] | some k => pathF [(nil0, us)] 101 k ++ [u]) = _
  rw [if_neg (h0 u hu), hk]
  show (if nil0 = nil0 then [nil0] else _) ++ [u] = _
  rw [if_pos rfl]; rfl
theorem flatPart {us : List Str} (h0 : ∀ u ∈ us, u ≠ nil0) {a b : Str} (ha : a ∈ us) (hb : b ∈ us) (hab : a ≠ b) : partF [(nil0, us)] a b = some (nil0, a, b) := by
  unfold partF
  rw [flatPath h0 ha, flatPath h0 hb]
  have hc : common [nil0, a] [nil0, b] = 1 := by simp [common, hab]
  unfold partP
  rw [hc]
  rfl
theorem full_good {us : List Str} (hl : us.length = 21) (hn : us.Nodup) (hnm : ∀ u ∈ us, nmB u = true) {A : Ties} (hA : A.length = 210) (hAn : A.Nodup) (hAm : ∀ e ∈ A, e.1 ∈ us ∧ e.2 ∈ us ∧ us.idxOf e.1 < us.idxOf e.2) {many : Nat} (h1 : 180 ≤ many) (h2 : many ≤ 200) :
    GoodD (.tuple [.tuple [.tuple [.str nil0, .tuple (sPy us)]], .tuple (pPy (A.take many)), .tuple (pPy ((A.take (200 - many)).map fun e => (e.2, e.1))), .tuple []]) := by
  have h0 : ∀ u ∈ us, u ≠ nil0 := fun u hu e => by
    have := (nmB_iff.mp (hnm u hu)).2.1
    rw [e] at this
    exact absurd this (by decide)
  have T := flatTree hn h0
  have mem : ∀ {n : Nat} {e : Str × Str}, e ∈ A.take n → e.1 ∈ us ∧ e.2 ∈ us ∧ us.idxOf e.1 < us.idxOf e.2 := fun h => hAm _ (List.mem_of_mem_take h)
  have ne : ∀ {a b : Str}, us.idxOf a < us.idxOf b → a ≠ b := fun h e => by rw [e] at h; omega
  have hT : TiesOk [(nil0, us)] us (A.take many) := by
    refine ⟨fun e he => ?_, fun e he k x y hp => ?_, hAn.sublist (List.take_sublist ..)⟩
    · obtain ⟨b1, b2, b3⟩ := mem he
      exact ⟨b1, b2, _, _, _, flatPart h0 b1 b2 (ne b3)⟩
    · obtain ⟨b1, b2, b3⟩ := mem he
      rw [flatPart h0 b1 b2 (ne b3)] at hp
      cases hp
      exact b3
  have hW : WaitsOk [(nil0, us)] us (A.take many) [] ((A.take (200 - many)).map fun e => (e.2, e.1)) := by
    refine ⟨fun e he => ?_, fun e he k x y hp => ?_, ?_⟩
    · obtain ⟨f, hf, rfl⟩ := List.mem_map.mp he
      obtain ⟨b1, b2, b3⟩ := mem hf
      exact ⟨b2, b1, _, _, _, flatPart h0 b2 b1 (ne b3).symm⟩
    · obtain ⟨f, hf, rfl⟩ := List.mem_map.mp he
      obtain ⟨b1, b2, b3⟩ := mem hf
      rw [flatPart h0 b2 b1 (ne b3).symm] at hp
      cases hp
      refine .tail (.refl _) ?_
      have hin : f ∈ A.take many := by
        have : A.take (200 - many) = (A.take many).take (200 - many) := by rw [List.take_take]; congr 1; omega
        rw [this] at hf
        exact List.mem_of_mem_take hf
      refine mem_onceL.mpr ?_
      unfold edges0
      refine List.mem_append_left _ (List.mem_append_left _ ?_)
      unfold tieE
      refine List.mem_filterMap.mpr ⟨f, hin, ?_⟩
      unfold tieE1
      rw [flatPart h0 b1 b2 (ne b3)]
      show (if nil0 = nil0 then some (f.1, f.2) else none) = _
      rw [if_pos rfl]
    · have h := hAn.sublist (List.take_sublist (200 - many) A)
      unfold List.Nodup at *
      rw [List.pairwise_map]
      exact h.imp fun {a b} hne e => hne (by injection e with e1 e2; exact Prod.ext e2 e1)
  have hB : TreeB [(nil0, us)] us := ⟨6, _, T, by decide, by omega⟩
  have l1 : (A.take many).length ≤ 200 := by rw [List.length_take]; omega
  have l2 : ((A.take (200 - many)).map fun e => (e.2, e.1)).length ≤ 20 := by rw [List.length_map, List.length_take]; omega
  have l3 : (A.take many).length + ((A.take (200 - many)).map fun e => (e.2, e.1)).length ≤ 200 := by rw [List.length_map, List.length_take, List.length_take]; omega
  have hsh := house_shows9 hB hT.pa (by omega) hW.pa (by omega) (ws := []) (fun _ h => by cases h) (by decide) (nm30 hnm)
  refine ⟨[(nil0, us)], us, _, _, [], 6, _, ⟨_, _, _, _, _, rfl, .inl rfl, .cons ⟨_, rfl, .inl rfl⟩ .nil, .inl rfl, .inl rfl, .inl rfl⟩, T, by decide, by omega, hnm, hT, WantsOk.nil .., hW, l3, ?_, ?_⟩
  · have e : ∀ (C B : PyData), unpl (.tuple [.tuple [.tuple [.str nil0, .tuple (sPy us)]], C, B, .tuple []]) = unpl (.tuple [plD (ksPy [(nil0, us)]), C, B, .tuple (pPy [])]) := fun C B => rfl
    rw [e]
    exact hsh
  · exact ⟨⟨⟨trivial, firm_sPy us, trivial⟩, trivial⟩, firm_pPy _, firm_pPy _, trivial, trivial⟩
theorem allT_in {us : List Str} (hl : us.length = 21) (hn : us.Nodup) : ∀ e ∈ allT us 21, e.1 ∈ us ∧ e.2 ∈ us ∧ us.idxOf e.1 < us.idxOf e.2 := fun e he => by
  obtain ⟨i, j, a1, a2, a3, rfl⟩ := allT_mem (Nat.le_refl 21) he
  refine ⟨getD_mem (by omega), getD_mem (by omega), ?_⟩
  show us.idxOf (us.getD i nil0) < us.idxOf (us.getD j nil0)
  rw [getD_idx hn (by omega), getD_idx hn (by omega)]
  exact a1
def S__law_full : Spec3 := fun ds g R => ∃ o us, ds = [.own 0, .f (.list (sPy us))] ∧ g = [o] ∧ IsPen o ∧ us.length = 21 ∧ us.Nodup ∧ (∀ u ∈ us, nmB u = true) ∧ ∀ o' d, IsPen o' → GoodD d → R (.f d) [o']
abbrev s__law_full : Stmt := top 58
theorem sc__law_full : FnScope ["_law_pen_here", "_law_units", "_law_ties", "_law_k", "_law_many", "_law_turned", "_law_j"] ["_law_pen_here", "_law_units"] (defScope s__law_full) := ⟨rfl, rfl, rfl, by decide +kernel, rfl, by decide +kernel, by decide +kernel⟩
set_option maxHeartbeats 4000000 in
theorem ok__law_full (T : Bi K mg) (Df : DefAt K mg "_law_full" s__law_full ["_law_pen_here", "_law_units"]) (C__law_draw : Cal P w K mg base 1 "_law_draw" ["_law_pen_here", "_law_most"] S__law_draw) : Cal P w K mg base 2 "_law_full" ["_law_pen_here", "_law_units"] S__law_full := by
  refine ok4 Df sc__law_full (fun ds g R h0 => by obtain ⟨_, _, h, _⟩ := h0; rw [h]; rfl) (fun cdv A outer s H E f hr => ?_)
  have hu1 := hu_of hr.r
  have hu64 := hr.units
  have hu65 : (A.deeper (PyProof.Rows.envOfC "_law_full" (defScope s__law_full) s.heap.objs.size f cdv)).units + 65 < cLine := by have := hr.un; omega
  refine ⟨_, (pss_cons (ps_set (i := 2) sc__law_full.nd rfl (by first | exact Or.inl rfl | exact Or.inr rfl) (pe_lst pa_nil))
    (pss_cons (ps_for PassesOwn.never rfl (pi_range1 (by rfl) T.b_range (pa_cons pe_int pa_nil)) (pg_name (i := 3) sc__law_full.nd rfl (by first | exact Or.inl rfl | exact Or.inr rfl))
    (pss_one (ps_expr (u_bm (K := K) rfl PySem.F.plainAttrs_list PySem.F.slot_list_extend PySem.F.type_list_extend mt_extend (pv 2) (pa_cons (pe_lc (own := [("_law_j", 6)]) (by rfl) sc__law_full.nd (pi_range2 (by rfl) T.b_range (pa_cons (pe_op (u_add (K := K) rfl) (pv 3) pe_int) (pa_cons pe_int pa_nil))) (blkOk_by (own := [("_law_j", 6)]) (N := ["_law_pen_here", "_law_units", "_law_ties", "_law_k", "_law_many", "_law_turned", "_law_j"]) (sc := defScope s__law_full) (by decide +kernel)) (fun _ _ _ _ _ => (pg_name (i := 6) sc__law_full.nd rfl (by first | exact Or.inl rfl | exact Or.inr rfl))) (fun _ _ _ _ _ => pts_nil) (fun _ _ _ _ _ => (pe_tup (pa_cons (pe_ix (u_ix (K := K) rfl hu1) (pv 1) (pv 3) (fun _ _ => rfl)) (pa_cons (pe_ix (u_ix (K := K) rfl hu1) (pv 1) (pv 6) (fun _ _ => rfl)) pa_nil))))) pa_nil)))))
    (pss_cons (ps_set (i := 4) sc__law_full.nd rfl (by first | exact Or.inl rfl | exact Or.inr rfl) (pe_op (u_add (K := K) rfl) pe_int (pe_cal (K := K) rfl C__law_draw (hr.mono (by decide)) (by rfl) (pa_cons (pv 0) (pa_cons pe_int pa_nil)))))
    (pss_cons (ps_setLc (i := 5) (own := [("_law_k", 3)]) (by rfl) sc__law_full.nd rfl rfl (sw_true rfl rfl rfl (by decide +kernel)) (pi_range1 (by rfl) T.b_range (pa_cons (pe_op op_sub pe_int (pv 4)) pa_nil)) (blkOk_by (own := [("_law_k", 3)]) (N := ["_law_pen_here", "_law_units", "_law_ties", "_law_k", "_law_many", "_law_turned", "_law_j"]) (sc := defScope s__law_full) (by decide +kernel)) (fun _ _ _ _ _ => (pg_name (i := 3) sc__law_full.nd rfl (by first | exact Or.inl rfl | exact Or.inr rfl))) (fun _ _ _ _ _ => pts_nil) (fun _ _ _ _ _ => (pe_revU (K := K) rfl (pe_ix (u_ix (K := K) rfl hu1) (pv 2) (pv 3) (fun _ _ => rfl)))))
    (pss_one (ps_ret (pe_tup (pa_cons (pe_tup (pa_cons (pe_tup (pa_cons pe_str (pa_cons (pe_callTy (u_tuple (K := K) rfl) (by rfl) T.b_tuple (by decide +kernel) (pa_cons (pv 1) pa_nil)) pa_nil))) pa_nil)) (pa_cons (pe_callTy (u_tuple (K := K) rfl) (by rfl) T.b_tuple (by decide +kernel) (pa_cons (pe_slice (u_sl (K := K) rfl) (pv 2) po_none (po_some (pv 4))) pa_nil)) (pa_cons (pe_callTy (u_tuple (K := K) rfl) (by rfl) T.b_tuple (by decide +kernel) (pa_cons (pv 5) pa_nil)) (pa_cons (pe_tup pa_nil) pa_nil))))))))))), fun ds g R hS => ?_⟩
  obtain ⟨o, us, rfl, rfl, hp, hul, hnd, hnm, z⟩ := hS
  show ExS K _ [some _, some _, none, none, none, none, none] _ _
  have at_ : ∀ {i : Nat}, i < 21 → (sPy us)[i]? = some (.str (us.getD i nil0)) := fun {i} h => sPy_get_of (getD_at (by omega))
  refine xs_set (e_lst (a_nil ⟨[], rfl, by decide, ?_⟩))
  show ExS K _ [some (.own 0), some (.f (.list (sPy us))), some (.own 1), none, none, none, none] [o, .lst (pPy (allT us 0))] _
  refine xs_forR (a_cons (e_int (a_nil ⟨21, rfl, by decide, by decide, fun i ρ' l' => ∃ a b, ρ' = [some (.own 0), some (.f (.list (sPy us))), some (.own 1), a, none, none, b] ∧ ∃ X, l' = o :: .lst (pPy (allT us i)) :: X, ⟨none, none, rfl, [], rfl⟩, ?_, ?_⟩)))
  · rintro i ρ' l' hi ⟨a, b, rfl, X, rfl⟩
    have hi : i < 21 := hi
    have hlen := allT_len us i
    have hc : cntT i ≤ 400 := by
      have : ∀ j, j < 21 → cntT j ≤ 400 := by decide
      exact this i hi
    refine g_name (x_drop (e_bmL (e_var rfl ⟨⟨_, isl_own (n := 1) rfl⟩, ?_⟩)))
    refine a_cons (e_lc (good_of (gg_name (by decide))) (i_rng2 (a_cons (e_op (e_var rfl (e_int (o_addI (a_cons (e_int (a_nil ⟨_, _, rfl, ⟨by omega, by omega, by decide, by decide⟩, fun n acc l' => l' = o :: .lst (pPy (allT us i)) :: X ∧ acc = pPy ((List.range n).map fun j => (us.getD i nil0, us.getD (i + 1 + j) nil0)), ⟨rfl, rfl⟩, ?_, ?_, ?_⟩))))))))))
    · rintro n acc l' hn ⟨rfl, rfl⟩
      refine ⟨trivial, ?_⟩
      rw [pPy_len, List.length_map, List.length_range]
      omega
    · rintro n acc l' hn ⟨rfl, rfl⟩
      have hn : n < (21 - ((i : Int) + 1)).toNat := hn
      have hj : i + 1 + n < 21 := by omega
      have h1 : atI (sPy us) ((i : Nat) : Int) = some (.str (us.getD i nil0)) := atI_nat (at_ hi)
      have h2 : atI (sPy us) ((i : Int) + 1 + (n : Int)) = some (.str (us.getD (i + 1 + n) nil0)) := by
        rw [show (i : Int) + 1 + (n : Int) = ((i + 1 + n : Nat) : Int) by omega]
        exact atI_nat (at_ hj)
      refine g_name (t_yes (e_tup (a_cons (e_op (e_var rfl (e_var rfl (o_ixQ isq_list h1 (a_cons (e_op (e_var rfl (e_var rfl (o_ixQ isq_list h2 (a_nil ⟨_, rfl, Nat.le_of_ble_eq_true rfl, _, rfl, rfl, ?_⟩)))))))))))))
      rw [List.range_succ, List.map_append, pPy_app]
      rfl
    · rintro acc l' ⟨rfl, rfl⟩
      have e : (21 - ((i : Int) + 1)).toNat = 20 - i := by omega
      rw [e]
      have hr : pPy ((List.range (20 - i)).map fun j => (us.getD i nil0, us.getD (i + 1 + j) nil0)) = pPy (rowT us i) := rfl
      rw [hr]
      have hrl : (rowT us i).length = 20 - i := by unfold rowT; rw [List.length_map, List.length_range]
      refine a_nil (m_extend (n := 1) rfl (isl_own (n := (o :: .lst (pPy (allT us i)) :: X).length) (by rw [List.getElem?_append_right (Nat.le_refl _), Nat.sub_self]; rfl)) (by rw [pPy_len, pPy_len, hlen, hrl]; omega) ?_)
      refine ⟨_, _, rfl, X ++ [.lst (pPy (rowT us i))], ?_⟩
      rw [← pPy_app]
      rfl
  · rintro ρ' l' ⟨a, b, rfl, X, rfl⟩
    have hA : (allT us 21).length = 210 := allT_len us 21
    have hAn := allT_nodup hnd hul (Nat.le_refl 21)
    have hAm := allT_in hul hnd
    show ExS K _ [some (.own 0), some (.f (.list (sPy us))), some (.own 1), a, none, none, b] (o :: .lst (pPy (allT us 21)) :: X) _
    generalize allT us 21 = A at hA hAn hAm
    refine xs_set (e_op (e_int (e_draw 0 (a_cons (e_var rfl (a_cons (e_int (a_nil ⟨_, o, rfl, rfl, hp, by decide, by decide, fun r o1 r0 r1 p1 => o_addI ?_⟩))))))))
    obtain ⟨n, rfl⟩ := Int.eq_ofNat_of_zero_le r0
    show ExS K _ [some (.own 0), some (.f (.list (sPy us))), some (.own 1), a, some (.f (.int (180 + (n : Int)))), none, b] (o1 :: .lst (pPy A) :: X) _
    have hnk : (200 - (180 + (n : Int))).toNat = 200 - (180 + n) := by omega
    have hnl : (A.take (200 - (180 + n))).length = 200 - (180 + n) := by rw [List.length_take]; omega
    refine xs_set (e_lcR (gg_name (by decide)) (a_cons (e_op (e_int (e_var rfl (o_I0i (a_nil ⟨_, rfl, by omega, by omega, fun i acc l' => l' = o1 :: .lst (pPy A) :: X ∧ acc = pPy ((A.take i).map fun e => (e.2, e.1)), ⟨rfl, rfl⟩, ?_, ?_, ?_⟩)))))))
    · rintro i acc l' hi ⟨rfl, rfl⟩
      rw [pPy_len, List.length_map, List.length_take]; omega
    · rintro i acc l' hi ⟨rfl, rfl⟩
      have hi : i < (200 - (180 + (n : Int))).toNat := hi
      have hx : A[i]? = some (A[i]'(by omega)) := List.getElem?_eq_getElem (by omega)
      generalize A[i]'(by omega) = f at hx
      have hd : (pPy A)[i]? = some (.tuple [.str f.1, .str f.2]) := by
        show (A.map _)[i]? = _
        rw [List.getElem?_map, hx]; rfl
      refine g_name (t_yes (e_revT (e_op (e_var rfl (e_var rfl (o_ixQ (isq_own (n := 1) rfl) (atI_nat hd) ⟨_, rfl, _, rfl, rfl, ?_⟩))))))
      rw [L3.take_next hx, List.map_append, pPy_app]; rfl
    · rintro acc l' ⟨rfl, rfl⟩
      rw [hnk]
      show ExS K _ [some (.own 0), some (.f (.list (sPy us))), some (.own 1), a, some (.f (.int (180 + (n : Int)))), some (.own (o1 :: .lst (pPy A) :: X).length), b] (o1 :: .lst (pPy A) :: (X ++ [.lst (pPy ((A.take (200 - (180 + n))).map fun e => (e.2, e.1)))])) _
      have hlast : (o1 :: .lst (pPy A) :: (X ++ [O.lst (pPy ((A.take (200 - (180 + n))).map fun e => (e.2, e.1)))]))[(o1 :: .lst (pPy A) :: X).length]? = some (O.lst (pPy ((A.take (200 - (180 + n))).map fun e => (e.2, e.1)))) := by
        show ((o1 :: .lst (pPy A) :: X) ++ [_])[_]? = _
        rw [List.getElem?_append_right (Nat.le_refl _), Nat.sub_self]; rfl
      generalize X ++ [O.lst (pPy ((A.take (200 - (180 + n))).map fun e => (e.2, e.1)))] = Y at hlast
      generalize (o1 :: .lst (pPy A) :: X).length = N at hlast
      have ecut : cutD (pPy A) none (some (180 + (n : Int))) = pPy (A.take (180 + n)) := by
        rw [show (180 + (n : Int)) = ((180 + n : Nat) : Int) by omega, cut_take _ (by rw [pPy_len]; omega)]
        exact (List.map_take ..).symm
      refine x_ret (e_tup (a_cons (e_tup (a_cons (e_tup (a_cons (e_str (a_cons (e_cb (a_cons (e_var rfl (a_nil (c_tuple isq_list (a_nil ⟨[.str nil0, .tuple (sPy us)], rfl, Nat.le_of_ble_eq_true rfl, a_nil ⟨[_], rfl, Nat.le_of_ble_eq_true rfl, ?_⟩⟩))))))))))))))
      refine a_cons (e_cb (a_cons (e_sl (e_var rfl (o_none (o_some (e_var rfl ⟨_, rfl, s_listF (isl_own (n := 1) rfl) ?_⟩)))))))
      rw [ecut]
      refine a_nil (c_tuple isq_list (a_cons (e_cb (a_cons (e_var rfl (a_nil (c_tuple (isq_own hlast) (a_cons (e_tup (a_nil ⟨[], rfl, Nat.le_of_ble_eq_true rfl, a_nil ⟨[_, _, _, _], rfl, Nat.le_of_ble_eq_true rfl, ?_⟩⟩))))))))))
      refine Res.dat (fun x hx => by cases hx with | head => exact p1.under | tail _ h => cases h) ?_
      exact z o1 _ p1 (full_good hul hnd hnm hA hAn hAm (many := 180 + n) (by omega) (by omega))
def S__law_right : Spec3 := fun ds g R => ∃ o d, ds = [.own 0, .f d] ∧ g = [o] ∧ IsPen o ∧ GoodD d ∧ ∀ o', IsPen o' → R (.f (.bool true)) [o']
def NoTpr (l : List O) : Prop := ∀ (n : Nat) (ds : List D), l[n]? ≠ some (O.tpr ds)
theorem NoTpr.snoc {l : List O} {o : O} (h : NoTpr l) (ho : ∀ ds, o ≠ O.tpr ds) : NoTpr (l ++ [o]) := fun n ds e => by
  rcases Nat.lt_or_ge n l.length with c | c
  · rw [List.getElem?_append_left c] at e; exact h n ds e
  · rw [List.getElem?_append_right c] at e
    cases k : n - l.length with
    | zero => rw [k] at e; exact ho ds (Option.some.inj e)
    | succ k' => rw [k] at e; cases e
theorem NoTpr.set {l : List O} {o : O} {i : Nat} (h : NoTpr l) (ho : ∀ ds, o ≠ O.tpr ds) : NoTpr (l.set i o) := fun n ds e => by
  by_cases c : i = n
  · subst c
    by_cases c2 : i < l.length
    · rw [List.getElem?_set_self c2] at e; exact ho ds (Option.some.inj e)
    · rw [List.getElem?_eq_none (by rw [List.length_set]; omega)] at e; cases e
  · rw [List.getElem?_set_ne c] at e; exact h n ds e
/-- a part as it is handed over: as it is, or an own list of what is in it -/
def PartIn (l : List O) (y : D) (p : PyData × List PyData) : Prop := y = .f p.1 ∨ ∃ n, 1 ≤ n ∧ y = .own n ∧ l[n]? = some (.lst p.2)
theorem PartIn.up {l l' : List O} {y : D} {p : PyData × List PyData} (h : PartIn l y p) (e : ∀ n o, 1 ≤ n → l[n]? = some o → l'[n]? = some o) : PartIn l' y p := by
  rcases h with h | ⟨n, h1, h2, h3⟩
  · exact .inl h
  · exact .inr ⟨n, h1, h2, e _ _ h1 h3⟩
theorem firm_all {x : PyData} {ds : List PyData} (ht : TupD x ds) (hf : Firm x) : FirmAll ds := by
  rcases ht with rfl | rfl
  · exact hf
  · exact hf
theorem tupP_of {x : PyData} {ds : List PyData} (ht : TupD x ds) : tupP x = x := by
  rcases ht with rfl | rfl <;> rfl
theorem PartIn.seen {l : List O} {y : D} {p : PyData × List PyData} (h : PartIn l y p) (ht : TupD p.1 p.2) (hf : Firm p.1) : ∃ e, View0 l y e ∧ SeenP p.1 e ∧ PartD e p.2 ∧ Firm (tupP e) ∧ unpl (tupP e) = unpl p.1 := by
  rcases h with rfl | ⟨n, _, rfl, hl⟩
  · exact ⟨p.1, rfl, .inl rfl, .inr ht, by rw [tupP_of ht]; exact hf, by rw [tupP_of ht]⟩
  · exact ⟨.list p.2, ⟨_, hl, rfl⟩, .inr ⟨_, ht, rfl⟩, .inl rfl, firm_all ht hf, (unplAll_of ht).symm⟩
/-- what is handed over while the lists grow -/
def GrowIn (l : List O) (k : Nat) (y : D) : Prop := (∃ x ds, y = .f x ∧ TupD x ds) ∨ ∃ n ds, 1 ≤ n ∧ y = .own n ∧ l[n]? = some (.lst ds) ∧ ds.length ≤ 1000 + k
abbrev s__law_right : Stmt := top 59
theorem sc__law_right : FnScope ["_law_pen_here", "_law_house_here", "_law_part", "_law_parts", "_law_kept_here", "_law_found"] ["_law_pen_here", "_law_house_here"] (defScope s__law_right) := ⟨rfl, rfl, rfl, by decide +kernel, rfl, by decide +kernel, by decide +kernel⟩
set_option maxHeartbeats 4000000 in
theorem ok__law_right (T : Bi K mg) (Df : DefAt K mg "_law_right" s__law_right ["_law_pen_here", "_law_house_here"]) (C_house_of : Cal P w K mg base 8 "house_of" ["knots", "ties", "waiting", "wants"] S_house_of) (C__law_draw : Cal P w K mg base 1 "_law_draw" ["_law_pen_here", "_law_most"] S__law_draw) (C_is_house : Cal P w K mg base 7 "is_house" ["thing"] S_is_house) : Cal P w K mg base 9 "_law_right" ["_law_pen_here", "_law_house_here"] S__law_right := by
  refine ok4 Df sc__law_right (fun ds g R h0 => by obtain ⟨_, _, h, _⟩ := h0; rw [h]; rfl) (fun cdv A outer s H E f hr => ?_)
  have hu1 := hu_of hr.r
  have hu64 := hr.units
  have hu65 : (A.deeper (PyProof.Rows.envOfC "_law_right" (defScope s__law_right) s.heap.objs.size f cdv)).units + 65 < cLine := by have := hr.un; omega
  refine ⟨_, (pss_cons (ps_if (pt_cmpR op_notBl1 (pe_cal (K := K) rfl C_is_house (hr.mono (by decide)) (by rfl) (pa_cons (pv 1) pa_nil)) pe_bl (nomark _))
    (pss_one (ps_ret pe_bl))
    pss_nil)
    (pss_cons (ps_setLc (i := 3) (own := [("_law_part", 2)]) (by rfl) sc__law_right.nd rfl rfl (sw_true rfl rfl rfl (by decide +kernel)) (u_seq (K := K) rfl (pv 1)) (blkOk_by (own := [("_law_part", 2)]) (N := ["_law_pen_here", "_law_house_here", "_law_part", "_law_parts", "_law_kept_here", "_law_found"]) (sc := defScope s__law_right) (by decide +kernel)) (fun _ _ _ _ _ => (pg_name (i := 2) sc__law_right.nd rfl (by first | exact Or.inl rfl | exact Or.inr rfl))) (fun _ _ _ _ _ => pts_nil) (fun _ _ _ _ _ => (pe_ix (u_ix (K := K) rfl hu1) (pe_lst (pa_cons (pe_callTy (u_list (K := K) rfl) (by rfl) T.b_list (by decide +kernel) (pa_cons (pv 2) pa_nil)) (pa_cons (pv 2) pa_nil))) (pe_cal (K := K) rfl C__law_draw (hr.mono (by decide)) (by rfl) (pa_cons (pv 0) (pa_cons pe_int pa_nil))) (fun _ _ => rfl))))
    (pss_cons (ps_set (i := 4) sc__law_right.nd rfl (by first | exact Or.inl rfl | exact Or.inr rfl) (pe_callB (u_repr (K := K) rfl hr.g hu64) (by rfl) T.b_repr (by decide +kernel) (pa_cons (pv 3) pa_nil)))
    (pss_cons (ps_set (i := 5) sc__law_right.nd rfl (by first | exact Or.inl rfl | exact Or.inr rfl) (pe_cal (K := K) rfl C_house_of (hr.mono (by decide)) (by rfl) (pa_cons (pe_ix (u_ix (K := K) rfl hu1) (pv 3) pe_int (fun _ _ => rfl)) (pa_cons (pe_ix (u_ix (K := K) rfl hu1) (pv 3) pe_int (fun _ _ => rfl)) (pa_cons (pe_ix (u_ix (K := K) rfl hu1) (pv 3) pe_int (fun _ _ => rfl)) (pa_cons (pe_ix (u_ix (K := K) rfl hu1) (pv 3) pe_int (fun _ _ => rfl)) pa_nil))))))
    (pss_cons (ps_if (PW.pt (pw_or (pt_cmpR (u_ne (K := K) rfl hu64) (pe_callB (u_repr (K := K) rfl hr.g hu64) (by rfl) T.b_repr (by decide +kernel) (pa_cons (pv 5) pa_nil)) (pe_callB (u_repr (K := K) rfl hr.g hu64) (by rfl) T.b_repr (by decide +kernel) (pa_cons (pv 1) pa_nil)) (nomark _)) (pw_or1 (pt_cmpR (u_ne (K := K) rfl hu64) (pe_callB (u_repr (K := K) rfl hr.g hu64) (by rfl) T.b_repr (by decide +kernel) (pa_cons (pv 3) pa_nil)) (pv 4) (nomark _)))))
    (pss_one (ps_ret pe_bl))
    pss_nil)
    (pss_cons (ps_for PassesOwn.never rfl (u_seq (K := K) rfl (pv 3)) (pg_name (i := 2) sc__law_right.nd rfl (by first | exact Or.inl rfl | exact Or.inr rfl))
    (pss_one (ps_if (pt_val (pe_callB (u_isi (K := K) rfl) (by rfl) T.b_isinstance (by decide +kernel) (pa_cons (pv 2) (pa_cons (pe_bltn (v := .ty "list") (u := .type "list") rfl T.b_list (by decide +kernel) rfl) pa_nil))))
    (pss_one (ps_expr (u_bm (K := K) rfl PySem.F.plainAttrs_list PySem.F.slot_list_append PySem.F.type_list_append mt_append (pv 2) (pa_cons (pe_tup (pa_cons pe_str (pa_cons pe_str pa_nil))) pa_nil))))
    pss_nil)))
    (pss_one (ps_ret (pe_cmpR (u_eq (K := K) rfl hu64) (pe_callB (u_repr (K := K) rfl hr.g hu64) (by rfl) T.b_repr (by decide +kernel) (pa_cons (pv 5) pa_nil)) (pe_callB (u_repr (K := K) rfl hr.g hu64) (by rfl) T.b_repr (by decide +kernel) (pa_cons (pv 1) pa_nil)) (nomark _)))))))))), fun ds g R hS => ?_⟩
  obtain ⟨o, d, rfl, rfl, hp, hG, z⟩ := hS
  show ExS K _ [some _, some _, none, none, none, none] _ _
  obtain ⟨ks, ts, wt, ws, hR, hHS, hN, hgd, ⟨hb, hw, hd⟩, hF⟩ := hG.facts
  obtain ⟨kd, xs, td, wd, sd, rfl, h1, h2, h3, h4, h5⟩ := hR.ex
  obtain ⟨f1, f2, f3, f4, _⟩ := (show Firm kd ∧ Firm td ∧ Firm wd ∧ Firm sd ∧ True from hF)
  refine xs_gate ?_ ?_
  · refine t_test (e_op (e_call0 (a_cons (e_var rfl (a_nil ⟨trivial, _, ks, ts, wt, ws, rfl, rfl, hR, hHS, hN, fun b hb => ?_⟩)))))
    rw [hb.mpr hgd]
    exact e_bl (o_notBl ⟨_, rfl, iteF rfl⟩)
  generalize hprts : [(kd, xs), (td, pPy ts), (wd, pPy wt), (sd, pPy ws)] = prts
  have hpr : ∀ (i : Nat) (d : PyData), [kd, td, wd, sd][i]? = some d → ∃ p, prts[i]? = some (d, p) ∧ TupD d p := fun i d h => by
    subst hprts
    match i, h with
    | 0, h => cases h; exact ⟨_, rfl, h1⟩
    | 1, h => cases h; exact ⟨_, rfl, h3⟩
    | 2, h => cases h; exact ⟨_, rfl, h4⟩
    | 3, h => cases h; exact ⟨_, rfl, h5⟩
    | _ + 4, h => cases h
  have hpl : prts.length = 4 := by rw [← hprts]; rfl
  refine xs_set (e_lcDTD (gg_name (by decide)) (e_var rfl ⟨.tuple [kd, td, wd, sd], [kd, td, wd, sd], rfl, .inl rfl, fun i acc l' => ∃ o', IsPen o' ∧ l'[0]? = some o' ∧ NoTpr l' ∧ Paired (PartIn l') acc (prts.take i), ⟨o, hp, rfl, ?_, .nil⟩, ?_, ?_, ?_⟩))
  · intro n ds e
    cases n with
    | zero =>
      obtain ⟨_, e1⟩ := hp.form
      rw [e1] at e; cases e
    | succ n => cases e
  · rintro i acc l' hi ⟨o', _, _, _, hPa⟩
    have := hPa.length
    rw [List.length_take] at this
    omega
  · rintro i d acc l' hdi ⟨o', p', h0, hnt, hPa⟩
    obtain ⟨its, hpi, ht⟩ := hpr i d hdi
    have hl0 : 0 < l'.length := (List.getElem?_eq_some_iff.mp h0).1
    refine g_name (t_yes (e_op (e_rfs (a_cons (e_cb (a_cons (e_var rfl (a_nil (c_listTD ht (a_cons (e_var rfl (a_nil ⟨Nat.le_of_ble_eq_true rfl, ?_⟩))))))))))))
    have hpen : (l' ++ [O.lst its] ++ [O.rfs [D.own l'.length, .f d]])[0]? = some o' := by
      rw [List.append_assoc, List.getElem?_append_left hl0]; exact h0
    refine e_draw 0 (a_cons (e_var rfl (a_cons (e_int (a_nil ⟨_, o', rfl, hpen, p', by decide, by decide, fun r o2 r0 r1 p2 => ?_⟩)))))
    have up : ∀ n u, 1 ≤ n → l'[n]? = some u → ((l' ++ [O.lst its] ++ [O.rfs [D.own l'.length, .f d]]).set 0 o2)[n]? = some u := fun n u hn hu => by
      rw [List.getElem?_set_ne (by omega), List.append_assoc, List.getElem?_append_left (List.getElem?_eq_some_iff.mp hu).1]
      exact hu
    have k1 : ((l' ++ [O.lst its] ++ [O.rfs [D.own l'.length, .f d]]).set 0 o2)[l'.length]? = some (.lst its) := by
      rw [List.getElem?_set_ne (by omega), List.append_assoc, List.getElem?_append_right (Nat.le_refl _), Nat.sub_self]; rfl
    have k2 : ((l' ++ [O.lst its] ++ [O.rfs [D.own l'.length, .f d]]).set 0 o2)[(l' ++ [O.lst its]).length]? = some (.rfs [D.own l'.length, .f d]) := by
      rw [List.getElem?_set_ne (by rw [List.length_append]; omega), List.getElem?_append_right (Nat.le_refl _), Nat.sub_self]; rfl
    have k0 : ((l' ++ [O.lst its] ++ [O.rfs [D.own l'.length, .f d]]).set 0 o2)[0]? = some o2 := set_get_eq hpen
    have kn : NoTpr ((l' ++ [O.lst its] ++ [O.rfs [D.own l'.length, .f d]]).set 0 o2) := by
      obtain ⟨_, e2⟩ := p2.form
      exact ((hnt.snoc fun _ h => by cases h).snoc fun _ h => by cases h).set fun _ h => by rw [e2] at h; cases h
    generalize (l' ++ [O.lst its] ++ [O.rfs [D.own l'.length, .f d]]).set 0 o2 = L at up k1 k2 k0 kn
    have hPa2 : Paired (PartIn L) acc (prts.take i) := L3.Paired.up hPa fun _ _ h => h.up up
    have hr : r = 0 ∨ r = 1 := by omega
    rcases hr with rfl | rfl
    · exact o_ixR k2 rfl ⟨o2, p2, k0, kn, by rw [L3.take_next hpi]; exact paired_snoc hPa2 (.inr ⟨_, hl0, rfl, k1⟩)⟩
    · exact o_ixR k2 rfl ⟨o2, p2, k0, kn, by rw [L3.take_next hpi]; exact paired_snoc hPa2 (.inl rfl)⟩
  rintro acc l' ⟨o', p', h0, hnt, hPa⟩
  rw [show ([kd, td, wd, sd] : List PyData).length = prts.length from hpl.symm, List.take_length] at hPa
  subst hprts
  have hn1 : (l' ++ [O.rfs acc])[l'.length]? = some (.rfs acc) := by rw [List.getElem?_append_right (Nat.le_refl _), Nat.sub_self]; rfl
  have hl0 : 0 < l'.length := (List.getElem?_eq_some_iff.mp h0).1
  have hp1 : (l' ++ [O.rfs acc])[0]? = some o' := by rw [List.getElem?_append_left hl0]; exact h0
  have hnt1 : NoTpr (l' ++ [O.rfs acc]) := hnt.snoc (o := .rfs acc) (fun _ h => by cases h)
  have hPa1 : Paired (PartIn (l' ++ [O.rfs acc])) acc [(kd, xs), (td, pPy ts), (wd, pPy wt), (sd, pPy ws)] := L3.Paired.up hPa fun _ _ h => h.up fun n u _ hu => by rw [List.getElem?_append_left (List.getElem?_eq_some_iff.mp hu).1]; exact hu
  show ExS K _ [some (.own 0), some (.f (.tuple [kd, td, wd, sd])), none, some (.own l'.length), none, none] (l' ++ [O.rfs acc]) _
  clear hPa hnt h0
  generalize l' ++ [O.rfs acc] = L at hn1 hp1 hnt1 hPa1
  generalize l'.length = N at hn1 hl0
  obtain ⟨y0, y1, y2, y3, rfl, q0, q1, q2, q3⟩ : ∃ y0 y1 y2 y3, acc = [y0, y1, y2, y3] ∧ PartIn L y0 (kd, xs) ∧ PartIn L y1 (td, pPy ts) ∧ PartIn L y2 (wd, pPy wt) ∧ PartIn L y3 (sd, pPy ws) := by
    cases hPa1 with
    | cons a t =>
      cases t with
      | cons b t =>
        cases t with
        | cons c t =>
          cases t with
          | cons d t => cases t; exact ⟨_, _, _, _, rfl, a, b, c, d⟩
  obtain ⟨e0, v0, s0, pd0, g0, u0⟩ := q0.seen h1 f1
  obtain ⟨e1, v1, s1, pd1, g1, u1⟩ := q1.seen h3 f2
  obtain ⟨e2, v2, s2, pd2, g2, u2⟩ := q2.seen h4 f3
  obtain ⟨e3, v3, s3, pd3, g3, u3⟩ := q3.seen h5 f4
  have hview : View L (.own N) (.f (.list [e0, e1, e2, e3])) := .rfs hn1 (.cons v0 (.cons v1 (.cons v2 (.cons v3 .nil))))
  obtain ⟨c1, c2, c3⟩ := seen_list (.cons s0 (.cons s1 (.cons s2 (.cons s3 .nil))))
  have r1 := c1.trans hb
  have r2 : L3.wt (unpl (.list [e0, e1, e2, e3])) ≤ 1000000 := Nat.le_trans (Nat.le_of_eq c2) (Nat.le_trans hw (by decide))
  have r3 : (unpl (.list [e0, e1, e2, e3])).depth ≤ 60 := Nat.le_trans (Nat.le_of_eq c3) hd
  have hu : unpl (.tuple [tupP e0, tupP e1, tupP e2, tupP e3]) = unpl (.tuple [kd, td, wd, sd]) := by
    show PyData.tuple [unpl _, unpl _, unpl _, unpl _] = .tuple [unpl _, unpl _, unpl _, unpl _]
    rw [u0, u1, u2, u3]
  refine xs_set (e_cb (a_cons (e_var rfl (a_nil (c_reprV hview r1 r2 r3 ?_)))))
  generalize hk : (unpl (.list [e0, e1, e2, e3])).shown = kept
  refine xs_set (e_callT (a_cons (e_op (e_var rfl (e_int (o_ixR hn1 rfl (a_cons (e_op (e_var rfl (e_int (o_ixR hn1 rfl (a_cons (e_op (e_var rfl (e_int (o_ixR hn1 rfl (a_cons (e_op (e_var rfl (e_int (o_ixR hn1 rfl (a_nil ⟨hnt1, [.f e0, .f e1, .f e2, .f e3], .cons (.zero v0) (.cons (.zero v1) (.cons (.zero v2) (.cons (.zero v3) .nil))), e0, e1, e2, e3, xs, ks, ts, wt, ws, rfl, rfl, pd0, h2, pd1, pd2, pd3, hHS, hN, hgd, _, rfl, ⟨g0, g1, g2, g3, trivial⟩, ?_⟩))))))))))))))))))))))
  show ExS K _ [some (.own 0), some (.f (.tuple [kd, td, wd, sd])), none, some (.own N), some (.f (.str kept)), some (.f (.tuple [tupP e0, tupP e1, tupP e2, tupP e3]))] L _
  have f1 : brief (unpl (.tuple [tupP e0, tupP e1, tupP e2, tupP e3])) = true := by rw [hu]; exact hb
  have f2 : L3.wt (unpl (.tuple [tupP e0, tupP e1, tupP e2, tupP e3])) ≤ 1000000 := by rw [hu]; omega
  have f3 : (unpl (.tuple [tupP e0, tupP e1, tupP e2, tupP e3])).depth ≤ 60 := by rw [hu]; exact hd
  have hw : L3.wt (unpl (.tuple [kd, td, wd, sd])) ≤ 1000000 := by omega
  refine xs_gate ?_ ?_
  · refine t_or (t_test (e_op (e_cb (a_cons (e_var rfl (a_nil (c_reprU f1 f2 f3 (e_cb (a_cons (e_var rfl (a_nil (c_reprU hb hw hd (o_neS ⟨_, rfl, ?_⟩)))))))))))))
    rw [hu, decide_eq_true rfl]
    refine iteNT (t_test (e_op (e_cb (a_cons (e_var rfl (a_nil (c_reprV hview r1 r2 r3 (e_var rfl (o_neS ⟨_, rfl, ?_⟩)))))))))
    rw [hk, decide_eq_true rfl]
    exact iteNT rfl
  obtain ⟨hkl, _, htl, hwl, hsl⟩ := hHS
  have hxl := h2.length
  have grow : ∀ {y : D} {p : PyData × List PyData}, PartIn L y p → TupD p.1 p.2 → p.2.length ≤ 1000 → GrowIn L 0 y := fun h ht hl => by
    rcases h with h | ⟨n, h1, h2, h3⟩
    · exact .inl ⟨_, _, h, ht⟩
    · exact .inr ⟨n, _, h1, h2, h3, hl⟩
  refine xs_mid (fun ρ' l' => ∃ a, ρ' = [some (.own 0), some (.f (.tuple [kd, td, wd, sd])), a, some (.own N), some (.f (.str kept)), some (.f (.tuple [tupP e0, tupP e1, tupP e2, tupP e3]))] ∧ l'[0]? = some o') ?_ ?_
  · refine x_forRf (e_var rfl ⟨N, [y0, y1, y2, y3], rfl, hn1, fun i ρ' l' => ∃ a, ρ' = [some (.own 0), some (.f (.tuple [kd, td, wd, sd])), a, some (.own N), some (.f (.str kept)), some (.f (.tuple [tupP e0, tupP e1, tupP e2, tupP e3]))] ∧ l'[0]? = some o' ∧ l'[N]? = some (.rfs [y0, y1, y2, y3]) ∧ ∀ y ∈ [y0, y1, y2, y3], GrowIn l' i y, ⟨none, rfl, hp1, hn1, ?_⟩, ?_, ?_, ?_⟩)
    · intro y hy
      simp only [List.mem_cons, List.not_mem_nil, or_false] at hy
      rcases hy with rfl | rfl | rfl | rfl
      · exact grow q0 h1 (by show xs.length ≤ 1000; omega)
      · exact grow q1 h3 (by show (pPy ts).length ≤ 1000; rw [pPy_len]; omega)
      · exact grow q2 h4 (by show (pPy wt).length ≤ 1000; rw [pPy_len]; omega)
      · exact grow q3 h5 (by show (pPy ws).length ≤ 1000; rw [pPy_len]; omega)
    · rintro i ρ' l' hi ⟨a, rfl, _, h, _⟩
      exact h
    · rintro i y ρ' l' hy ⟨a, rfl, p0, pn, hg⟩
      have hi4 : i < 4 := (List.getElem?_eq_some_iff.mp hy).1
      have hym := List.mem_of_getElem? hy
      refine g_name ?_
      rcases hg y hym with ⟨x, its, rfl, ht⟩ | ⟨n, its, n1, rfl, hl, hlen⟩
      · refine x_if (t_B (e_isi (e_var rfl ⟨"tuple", false, tyTD ht, kitTL, _, rfl, iteF (x_next ?_)⟩)))
        refine ⟨_, rfl, p0, pn, fun z hz => ?_⟩
        rcases hg z hz with h | ⟨m, is2, m1, h, hm, hml⟩
        · exact .inl h
        · exact .inr ⟨m, is2, m1, h, hm, by omega⟩
      · refine x_if (t_B (e_isi (e_var rfl ⟨"list", true, ⟨_, hl, rfl⟩, kitLL, _, rfl, iteT ?_⟩)))
        refine x_drop (e_bmL (e_var rfl ⟨⟨_, isl_own hl⟩, a_cons (e_tup (a_cons (e_str (a_cons (e_str (a_nil ⟨[.str "zz", .str "zz"], rfl, Nat.le_of_ble_eq_true rfl, a_nil (m_append hl (by omega) ?_)⟩))))))⟩))
        refine ⟨_, rfl, ?_, ?_, fun z hz => ?_⟩
        · rw [List.getElem?_set_ne (by omega)]; exact p0
        · exact set_get_ne hl pn (fun h => by cases h)
        · rcases hg z hz with h | ⟨m, is2, m1, h, hm, hml⟩
          · exact .inl h
          · by_cases c : n = m
            · subst c
              exact .inr ⟨n, _, n1, h, set_get_eq hl, by rw [List.length_append]; show its.length + 1 ≤ _; omega⟩
            · exact .inr ⟨m, is2, m1, h, by rw [List.getElem?_set_ne c]; exact hm, by omega⟩
    · rintro ρ' l' ⟨a, rfl, p0, _, _⟩
      exact ⟨a, rfl, p0⟩
  rintro ρ' l' ⟨a, rfl, p0⟩
  refine x_ret (e_op (e_cb (a_cons (e_var rfl (a_nil (c_reprU f1 f2 f3 (e_cb (a_cons (e_var rfl (a_nil (c_reprU hb hw hd (o_eqS ?_))))))))))))
  rw [hu, decide_eq_true rfl]
  have ht : l'.take [o].length = [o'] := by
    cases l' with
    | nil => cases p0
    | cons a l => cases p0; rfl
  refine Res.dat (by rw [ht]; intro y hy; cases hy with | head => exact p'.under | tail _ h => cases h) ?_
  rw [ht]
  exact z o' p'
def S_law : Spec3 := fun ds g R => ∃ ns, ds = [.sq ns] ∧ g = [] ∧ ns.length ≤ 63 ∧ ∀ l', R (.f (.bool true)) l'
theorem law_in (ns : List Int) (h : ns.length ≤ 63) : S_law [.sq ns] [] (fun d _ => d = .f (.bool true)) := ⟨ns, rfl, rfl, h, fun _ => rfl⟩
abbrev s_law : Stmt := top 60
theorem sc_law : FnScope ["_law_script", "_law_pen_here", "_law_many", "_law_houses", "_law_house_here"] ["_law_script"] (defScope s_law) := ⟨rfl, rfl, rfl, by decide +kernel, rfl, by decide +kernel, by decide +kernel⟩
set_option maxHeartbeats 4000000 in
theorem ok_law (T : Bi K mg) {f : Addr} {fd : FuncData} (F : Fun K "law" "law" s_law f fd) (C__law_right : Cal P w K mg base 9 "_law_right" ["_law_pen_here", "_law_house_here"] S__law_right) (C__law_row : Cal P w K mg base 2 "_law_row" ["_law_pen_here", "_law_units", "_law_deep"] S__law_row) (C__law_names : Cal P w K mg base 2 "_law_names" ["_law_pen_here", "_law_many"] S__law_names) (C__law_draw : Cal P w K mg base 1 "_law_draw" ["_law_pen_here", "_law_most"] S__law_draw) (C__law_full : Cal P w K mg base 2 "_law_full" ["_law_pen_here", "_law_units"] S__law_full) (C__law_house : Cal P w K mg base 5 "_law_house" ["_law_pen_here", "_law_units", "_law_deep"] S__law_house) (C__law_pen : Cal P w K mg base 1 "_law_pen" ["_law_script"] S__law_pen) : FnG P w K mg base CX0 10 f fd ["_law_script"] (P3 K S_law) := by
  refine ok4F F sc_law (fun ds g R h0 => by obtain ⟨_, h, _⟩ := h0; rw [h]; rfl) (fun cdv A outer s H E hr => ?_)
  have hu1 := hu_of hr.r
  have hu64 := hr.units
  have hu65 : (A.deeper (PyProof.Rows.envOfC "law" (defScope s_law) s.heap.objs.size f cdv)).units + 65 < cLine := by have := hr.un; omega
  refine ⟨_, (pss_cons (ps_set (i := 1) sc_law.nd rfl (by first | exact Or.inl rfl | exact Or.inr rfl) (pe_cal (K := K) rfl C__law_pen (hr.mono (by decide)) (by rfl) (pa_cons (pv 0) pa_nil)))
    (pss_cons (ps_set (i := 2) sc_law.nd rfl (by first | exact Or.inl rfl | exact Or.inr rfl) (pe_cal (K := K) rfl C__law_draw (hr.mono (by decide)) (by rfl) (pa_cons (pv 1) (pa_cons pe_int pa_nil))))
    (pss_cons (ps_if (pt_cmpR (u_eq (K := K) rfl hu64) (pe_cal (K := K) rfl C__law_draw (hr.mono (by decide)) (by rfl) (pa_cons (pv 1) (pa_cons pe_int pa_nil))) pe_int (nomark _))
    (pss_one (ps_set (i := 2) sc_law.nd rfl (by first | exact Or.inl rfl | exact Or.inr rfl) (pe_op (u_add (K := K) rfl) pe_int (pe_cal (K := K) rfl C__law_draw (hr.mono (by decide)) (by rfl) (pa_cons (pv 1) (pa_cons pe_int pa_nil))))))
    pss_nil)
    (pss_cons (ps_set (i := 3) sc_law.nd rfl (by first | exact Or.inl rfl | exact Or.inr rfl) (pe_lst (pa_cons (pe_cal (K := K) rfl C__law_house (hr.mono (by decide)) (by rfl) (pa_cons (pv 1) (pa_cons (pe_cal (K := K) rfl C__law_names (hr.mono (by decide)) (by rfl) (pa_cons (pv 1) (pa_cons (pv 2) pa_nil))) (pa_cons (pe_ix (u_ix (K := K) rfl hu1) (pe_lst (pa_cons pe_int (pa_cons pe_int pa_nil))) (pe_cal (K := K) rfl C__law_draw (hr.mono (by decide)) (by rfl) (pa_cons (pv 1) (pa_cons pe_int pa_nil))) (fun _ _ => rfl)) pa_nil)))) pa_nil)))
    (pss_cons (ps_expr (u_bm (K := K) rfl PySem.F.plainAttrs_list PySem.F.slot_list_append PySem.F.type_list_append mt_append (pv 3) (pa_cons (pe_cal (K := K) rfl C__law_row (hr.mono (by decide)) (by rfl) (pa_cons (pv 1) (pa_cons (pe_cal (K := K) rfl C__law_names (hr.mono (by decide)) (by rfl) (pa_cons (pv 1) (pa_cons pe_int pa_nil))) (pa_cons pe_int pa_nil)))) pa_nil)))
    (pss_cons (ps_expr (u_bm (K := K) rfl PySem.F.plainAttrs_list PySem.F.slot_list_append PySem.F.type_list_append mt_append (pv 3) (pa_cons (pe_cal (K := K) rfl C__law_full (hr.mono (by decide)) (by rfl) (pa_cons (pv 1) (pa_cons (pe_cal (K := K) rfl C__law_names (hr.mono (by decide)) (by rfl) (pa_cons (pv 1) (pa_cons pe_int pa_nil))) pa_nil))) pa_nil)))
    (pss_cons (ps_expr (u_bm (K := K) rfl PySem.F.plainAttrs_list PySem.F.slot_list_append PySem.F.type_list_append mt_append (pv 3) (pa_cons (pe_cal (K := K) rfl C__law_row (hr.mono (by decide)) (by rfl) (pa_cons (pv 1) (pa_cons (pe_cal (K := K) rfl C__law_names (hr.mono (by decide)) (by rfl) (pa_cons (pv 1) (pa_cons (pe_op (u_add (K := K) rfl) pe_int (pe_cal (K := K) rfl C__law_draw (hr.mono (by decide)) (by rfl) (pa_cons (pv 1) (pa_cons pe_int pa_nil)))) pa_nil))) (pa_cons pe_int pa_nil)))) pa_nil)))
    (pss_cons (ps_expr (u_bm (K := K) rfl PySem.F.plainAttrs_list PySem.F.slot_list_append PySem.F.type_list_append mt_append (pv 3) (pa_cons (pe_tup (pa_cons (pe_tup (pa_cons (pe_tup (pa_cons pe_str (pa_cons (pe_tup pa_nil) pa_nil))) pa_nil)) (pa_cons (pe_tup pa_nil) (pa_cons (pe_tup pa_nil) (pa_cons (pe_tup pa_nil) pa_nil))))) pa_nil)))
    (pss_cons (ps_if (pt_cmpR (u_ne (K := K) rfl hu64) (pe_callB (u_repr (K := K) rfl hr.g hu64) (by rfl) T.b_repr (by decide +kernel) (pa_cons (pe_gd rfl T.gd_EMPTY rfl) pa_nil)) (pe_callB (u_repr (K := K) rfl hr.g hu64) (by rfl) T.b_repr (by decide +kernel) (pa_cons (pe_ix (u_ix (K := K) rfl hu1) (pv 3) (pe_un un_neg pe_int) (fun _ _ => rfl)) pa_nil)) (nomark _))
    (pss_one (ps_ret pe_bl))
    pss_nil)
    (pss_one (ps_ret (pe_callB (u_all (K := K) rfl rfl) (by rfl) T.b_all (by decide +kernel) (pa_cons (pe_lc (own := [("_law_house_here", 4)]) (by rfl) sc_law.nd (u_seq (K := K) rfl (pv 3)) (blkOk_by (own := [("_law_house_here", 4)]) (N := ["_law_script", "_law_pen_here", "_law_many", "_law_houses", "_law_house_here"]) (sc := defScope s_law) (by decide +kernel)) (fun _ _ _ _ _ => (pg_name (i := 4) sc_law.nd rfl (by first | exact Or.inl rfl | exact Or.inr rfl))) (fun _ _ _ _ _ => pts_nil) (fun _ _ _ _ _ => (pe_cal (K := K) rfl C__law_right (hr.mono (by decide)) (by rfl) (pa_cons (pv 1) (pa_cons (pv 4) pa_nil))))) pa_nil))))))))))))), fun ds g R hS => ?_⟩
  obtain ⟨ns, rfl, rfl, hn, z⟩ := hS
  show ExS K _ [some _, none, none, none, none] _ _
  refine xs_set (e_call0 (a_cons (e_var rfl (a_nil ⟨trivial, ns, rfl, rfl, hn, fun o hp => ?_⟩))))
  show ExS K _ [some (.sq ns), some (.own 0), none, none, none] [o.shift 0] _
  rw [hp.shift]
  refine xs_set (e_draw 0 (a_cons (e_var rfl (a_cons (e_int (a_nil ⟨_, o, rfl, rfl, hp, by decide, by decide, fun r o1 r0 r1 p1 => ?_⟩))))))
  refine xs_mid (fun ρ' l' => ∃ (o' : O) (many : Int), ρ' = [some (.sq ns), some (.own 0), some (.f (.int many)), none, none] ∧ l' = [o'] ∧ IsPen o' ∧ 0 ≤ many ∧ many ≤ 60) ?_ ?_
  · refine x_if (t_test (e_op (e_draw 0 (a_cons (e_var rfl (a_cons (e_int (a_nil ⟨_, o1, rfl, rfl, p1, by decide, by decide, fun r2 o2 r20 r21 p2 => e_int (o_eqI ⟨_, rfl, ?_⟩)⟩))))))))
    refine d_both (fun c1 => ?_) (fun c1 => ?_)
    · refine x_set (e_op (e_int (e_draw 0 (a_cons (e_var rfl (a_cons (e_int (a_nil ⟨_, o2, rfl, rfl, p2, by decide, by decide, fun r3 o3 r30 r31 p3 => o_addI ⟨o3, 30 + r3, rfl, rfl, p3, by omega, by omega⟩⟩))))))))
    · exact x_next ⟨o2, r, rfl, rfl, p2, by omega, by omega⟩
  rintro ρ' l' ⟨o2, many, rfl, rfl, p2, hm0, hm60⟩
  have nmOf : ∀ {n : Int} {us : List Str}, NamesOk n us → ∀ u ∈ us, nmB u = true := fun h u hu => nmB_iff.mpr (h.2.2 u hu)
  refine xs_set (e_lst (a_cons (e_call1 0 (a_cons (e_var rfl (a_cons (e_frz (e_call1 0 (a_cons (e_var rfl (a_cons (e_var rfl (a_nil ⟨_, _, rfl, p2.free, rfl, o2, many, rfl, rfl, p2, hm0, hm60, fun o3 us p3 hN => ⟨_, _, rfl, ?_⟩⟩)))))))))))))
  rw [p3.shift1]
  obtain ⟨hlen, hnd, hlow⟩ := id hN
  have hso : ∀ u ∈ us, 1 ≤ u.length ∧ PyData.strOk u = true := fun u hu => ⟨(hlow u hu).2.1, (hlow u hu).1.ok⟩
  refine ⟨1, _, rfl, rfl, ?_⟩
  refine a_cons (e_op (e_lst (a_cons (e_int (a_cons (e_int (a_nil ⟨[.int 3, .int 6], rfl, Nat.le_of_ble_eq_true rfl, e_draw 0 (a_cons (e_var rfl (a_cons (e_int (a_nil ⟨_, o3, rfl, rfl, p3, by decide, by decide, fun r4 o4 r40 r41 p4 => ?_⟩)))))⟩)))))))
  obtain ⟨deep, hdp, ed⟩ : ∃ deep : Int, (0 ≤ deep ∧ deep ≤ 6) ∧ atI [PyData.int 3, .int 6] r4 = some (.int deep) := by
    have : r4 = 0 ∨ r4 = 1 := by omega
    rcases this with rfl | rfl
    · exact ⟨3, by decide, rfl⟩
    · exact ⟨6, by decide, rfl⟩
  refine o_ixQ (isq_own (n := 2) rfl) ed (a_nil ⟨_, _, rfl, p4.free, rfl, o4, us, deep, rfl, rfl, p4, by omega, hnd, hso, by omega, by omega, fun o5 ks ts wt ws p5 hH hTr => ⟨_, _, rfl, ?_⟩⟩)
  rw [p5.shift1]
  obtain ⟨r5, T5⟩ := hTr
  have G1 : GoodD (houseD ks ts wt ws) := good_house hH T5 (by omega) (nmOf hN)
  generalize houseD ks ts wt ws = d1 at G1
  refine a_nil ⟨[d1], rfl, Nat.le_of_ble_eq_true rfl, ?_⟩
  show ExS K _ [some (.sq ns), some (.own 0), some (.f (.int many)), some (.own 3), none] [o5, .gone, .lst [.int 3, .int 6], .lst [d1]] _
  -- the row
  refine xs_drop (e_bmL (e_var rfl ⟨⟨_, isl_own (n := 3) rfl⟩, a_cons (e_call1 0 (a_cons (e_var rfl (a_cons (e_frz (e_call1 0 (a_cons (e_var rfl (a_cons (e_int (a_nil ⟨_, _, rfl, p5.free, rfl, o5, 60, rfl, rfl, p5, by decide, by decide, fun o6 us2 p6 hN2 => ⟨_, _, rfl, ?_⟩⟩)))))))))))⟩))
  rw [p6.shift1]
  have hl2 := hN2.1
  refine ⟨4, _, rfl, rfl, a_cons (e_int (a_nil ⟨_, _, rfl, p6.free, rfl, o6, us2, 6, rfl, rfl, p6, by omega, hN2.2.1, fun u hu => (hN2.2.2 u hu).2.1, by decide, by omega, fun o7 ks2 r2 p7 T2 => ⟨_, _, rfl, ?_⟩⟩))⟩
  rw [p7.shift1]
  have G2 : GoodD (houseD ks2 [] [] []) := good_row T2 (by omega) (nmOf hN2)
  generalize houseD ks2 [] [] [] = d2 at G2
  refine a_nil (m_append (n := 3) rfl (Nat.le_of_ble_eq_true rfl) ?_)
  show ExS K _ [some (.sq ns), some (.own 0), some (.f (.int many)), some (.own 3), none] [o7, .gone, .lst [.int 3, .int 6], .lst [d1, d2], .gone] _
  -- the full house
  refine xs_drop (e_bmL (e_var rfl ⟨⟨_, isl_own (n := 3) rfl⟩, a_cons (e_call1 0 (a_cons (e_var rfl (a_cons (e_frz (e_call1 0 (a_cons (e_var rfl (a_cons (e_int (a_nil ⟨_, _, rfl, p7.free, rfl, o7, 21, rfl, rfl, p7, by decide, by decide, fun o8 us3 p8 hN3 => ⟨_, _, rfl, ?_⟩⟩)))))))))))⟩))
  rw [p8.shift1]
  have hl3 := hN3.1
  refine ⟨5, _, rfl, rfl, a_nil ⟨_, _, rfl, p8.free, rfl, o8, us3, rfl, rfl, p8, by omega, hN3.2.1, nmOf hN3, fun o9 d3 p9 G3 => ⟨_, _, rfl, ?_⟩⟩⟩
  rw [p9.shift1]
  refine a_nil (m_append (n := 3) rfl (Nat.le_of_ble_eq_true rfl) ?_)
  show ExS K _ [some (.sq ns), some (.own 0), some (.f (.int many)), some (.own 3), none] [o9, .gone, .lst [.int 3, .int 6], .lst [d1, d2, d3], .gone, .gone] _
  -- the flat row
  refine xs_drop (e_bmL (e_var rfl ⟨⟨_, isl_own (n := 3) rfl⟩, a_cons (e_call1 0 (a_cons (e_var rfl (a_cons (e_frz (e_call1 0 (a_cons (e_var rfl (a_cons (e_op (e_int (e_draw 0 (a_cons (e_var rfl (a_cons (e_int (a_nil ⟨_, o9, rfl, rfl, p9, by decide, by decide, fun r10 o10 r100 r101 p10 => o_addI ?_⟩)))))))))))))))))⟩))
  refine a_nil ⟨_, _, rfl, p10.free, rfl, o10, 1 + r10, rfl, rfl, p10, by omega, by omega, fun o11 us4 p11 hN4 => ⟨_, _, rfl, ?_⟩⟩
  rw [p11.shift1]
  have hl4 := hN4.1
  refine ⟨6, _, rfl, rfl, a_cons (e_int (a_nil ⟨_, _, rfl, p11.free, rfl, o11, us4, 0, rfl, rfl, p11, by omega, hN4.2.1, fun u hu => (hN4.2.2 u hu).2.1, by decide, by omega, fun o12 ks4 r4 p12 T4 => ⟨_, _, rfl, ?_⟩⟩))⟩
  rw [p12.shift1]
  have G4 : GoodD (houseD ks4 [] [] []) := good_row T4 (by omega) (nmOf hN4)
  generalize houseD ks4 [] [] [] = d4 at G4
  refine a_nil (m_append (n := 3) rfl (Nat.le_of_ble_eq_true rfl) ?_)
  show ExS K _ [some (.sq ns), some (.own 0), some (.f (.int many)), some (.own 3), none] [o12, .gone, .lst [.int 3, .int 6], .lst [d1, d2, d3, d4], .gone, .gone, .gone] _
  -- the empty house
  refine xs_drop (e_bmL (e_var rfl ⟨⟨_, isl_own (n := 3) rfl⟩, a_cons (e_tup (a_cons (e_tup (a_cons (e_tup (a_cons (e_str (a_cons (e_tup (a_nil ⟨[], rfl, Nat.le_of_ble_eq_true rfl, a_nil ⟨[_, _], rfl, Nat.le_of_ble_eq_true rfl, a_nil ⟨[_], rfl, Nat.le_of_ble_eq_true rfl, ?_⟩⟩⟩))))))))))⟩))
  refine a_cons (e_tup (a_nil ⟨[], rfl, Nat.le_of_ble_eq_true rfl, a_cons (e_tup (a_nil ⟨[], rfl, Nat.le_of_ble_eq_true rfl, a_cons (e_tup (a_nil ⟨[], rfl, Nat.le_of_ble_eq_true rfl, a_nil ⟨[_, _, _, _], rfl, Nat.le_of_ble_eq_true rfl, ?_⟩⟩))⟩))⟩))
  refine a_nil (m_append (n := 3) rfl (Nat.le_of_ble_eq_true rfl) ?_)
  show ExS K _ [some (.sq ns), some (.own 0), some (.f (.int many)), some (.own 3), none] [o12, .gone, .lst [.int 3, .int 6], .lst [d1, d2, d3, d4, emptyD], .gone, .gone, .gone] _
  obtain ⟨_, _, _, _, _, _, _, _, _, _, _, _, _, _, _, _, ⟨eb, ew, ed⟩, _⟩ := id good_empty
  refine xs_gate ?_ ?_
  · refine t_test (e_op (e_cb (a_cons (e_gd T.gd_EMPTY (a_nil (c_reprU eb (Nat.le_trans ew (by decide)) ed (e_cb (a_cons (e_op (e_var rfl (e_un (e_int (o_neg (o_ixQ (isq_own (n := 3) rfl) (atI_m1 (x := emptyD) rfl) (a_nil (c_reprU eb (Nat.le_trans ew (by decide)) ed (o_neS ⟨_, rfl, ?_⟩)))))))))))))))))
    have e : (unpl (PyData.tuple [PyData.tuple [PyData.tuple [PyData.str (Str.ofString ""), PyData.tuple []]], PyData.tuple [], PyData.tuple [], PyData.tuple []])).shown = (unpl emptyD).shown := rfl
    rw [decide_eq_true e]
    exact iteNT rfl
  have hall : ∀ d ∈ [d1, d2, d3, d4, emptyD], GoodD d := fun d hd => by
    simp only [List.mem_cons, List.not_mem_nil, or_false] at hd
    rcases hd with rfl | rfl | rfl | rfl | rfl
    · exact G1
    · exact G2
    · exact G3
    · exact G4
    · exact good_empty
  have hl5 : [d1, d2, d3, d4, emptyD].length = 5 := rfl
  generalize [d1, d2, d3, d4, emptyD] = hs at hall hl5
  refine x_ret (e_cb (a_cons (e_lcQ (gg_name (by decide)) (e_var rfl ⟨hs, isq_own (n := 3) rfl, fun i acc l' => ∃ o', IsPen o' ∧ l' = [o', .gone, .lst [.int 3, .int 6], .lst hs, .gone, .gone, .gone] ∧ acc = bPy (List.replicate i true), ⟨o12, p12, rfl, rfl⟩, ?_, ?_, ?_⟩))))
  · rintro i acc l' hi ⟨o', p', rfl, rfl⟩
    exact ⟨isq_own (n := 3) rfl, by rw [show (bPy (List.replicate i true)).length = i from by unfold bPy; rw [List.length_map, List.length_replicate]]; omega⟩
  · rintro i d acc l' hd ⟨o', p', rfl, rfl⟩
    refine g_name (t_yes (e_call1 0 (a_cons (e_var rfl (a_cons (e_var rfl (a_nil ⟨_, _, rfl, p'.free, rfl, o', d, rfl, rfl, p', hall d (List.mem_of_getElem? hd), fun o2 p2 => ⟨_, _, rfl, ?_⟩⟩)))))))
    rw [p2.shift1]
    refine ⟨.bool true, rfl, o2, p2, rfl, ?_⟩
    rw [List.replicate_succ']
    unfold bPy
    rw [List.map_append]
    rfl
  · rintro acc l' ⟨o', p', rfl, rfl⟩
    rw [hl5]
    exact a_nil (c_all (bs := List.replicate 5 true) (isl_own (n := 7) rfl) (.inl (z _)))
end
def fns_0 : List He.DefD := [dOf ("_law_pen", none) "_law_pen" "_law_pen" s__law_pen, dOf ("_law_draw", none) "_law_draw" "_law_draw" s__law_draw, dOf ("_law_names", none) "_law_names" "_law_names" s__law_names, dOf ("_law_tree", none) "_law_tree" "_law_tree" s__law_tree, dOf ("_law_around", none) "_law_around" "_law_around" s__law_around, dOf ("_law_path", none) "_law_path" "_law_path" s__law_path, dOf ("_law_parting", none) "_law_parting" "_law_parting" s__law_parting, dOf ("_law_edges", none) "_law_edges" "_law_edges" s__law_edges, dOf ("_law_reached", none) "_law_reached" "_law_reached" s__law_reached, dOf ("_law_wants", none) "_law_wants" "_law_wants" s__law_wants, dOf ("_law_kept", none) "_law_kept" "_law_kept" s__law_kept, dOf ("_law_waiting", none) "_law_waiting" "_law_waiting" s__law_waiting, dOf ("_law_house", none) "_law_house" "_law_house" s__law_house, dOf ("is_name", none) "is_name" "is_name" s_is_name, dOf ("children", none) "children" "children" s_children, dOf ("units_of", none) "units_of" "units_of" s_units_of]
def fns_1 : List He.DefD := [dOf ("groups_of", none) "groups_of" "groups_of" s_groups_of, dOf ("knot_of", none) "knot_of" "knot_of" s_knot_of, dOf ("chain", none) "chain" "chain" s_chain, dOf ("parting", none) "parting" "parting" s_parting, dOf ("tie_pairs", none) "tie_pairs" "tie_pairs" s_tie_pairs, dOf ("want_pairs", none) "want_pairs" "want_pairs" s_want_pairs, dOf ("view", none) "view" "view" s_view, dOf ("nexts", none) "nexts" "nexts" s_nexts, dOf ("priors", none) "priors" "priors" s_priors, dOf ("met_by", none) "met_by" "met_by" s_met_by, dOf ("behinds", none) "behinds" "behinds" s_behinds, dOf ("places_of", none) "places_of" "places_of" s_places_of, dOf ("is_order", none) "is_order" "is_order" s_is_order, dOf ("is_knot", none) "is_knot" "is_knot" s_is_knot, dOf ("is_rooted", none) "is_rooted" "is_rooted" s_is_rooted, dOf ("are_knots", none) "are_knots" "are_knots" s_are_knots]
def fns_2 : List He.DefD := [dOf ("is_pair", none) "is_pair" "is_pair" s_is_pair, dOf ("are_ties", none) "are_ties" "are_ties" s_are_ties, dOf ("are_wants", none) "are_wants" "are_wants" s_are_wants, dOf ("closes", none) "closes" "closes" s_closes, dOf ("is_house", none) "is_house" "is_house" s_is_house, dOf ("house_of", none) "house_of" "house_of" s_house_of, dOf ("_law_row", none) "_law_row" "_law_row" s__law_row, dOf ("_law_full", none) "_law_full" "_law_full" s__law_full, dOf ("_law_right", none) "_law_right" "_law_right" s__law_right, dOf ("law", none) "law" "law" s_law]
def fns_ : List He.DefD := fns_0 ++ fns_1 ++ fns_2
def fas_0 : List Fx := [.glo "_law_pen", .glo "_law_draw", .glo "_law_names", .glo "_law_tree", .glo "_law_around", .glo "_law_path", .glo "_law_parting", .glo "_law_edges", .glo "_law_reached", .glo "_law_wants", .glo "_law_kept", .glo "_law_waiting", .glo "_law_house", .glo "is_name", .glo "children", .glo "units_of"]
def fas_1 : List Fx := [.glo "groups_of", .glo "knot_of", .glo "chain", .glo "parting", .glo "tie_pairs", .glo "want_pairs", .glo "view", .glo "nexts", .glo "priors", .glo "met_by", .glo "behinds", .glo "places_of", .glo "is_order", .glo "is_knot", .glo "is_rooted", .glo "are_knots"]
def fas_2 : List Fx := [.glo "is_pair", .glo "are_ties", .glo "are_wants", .glo "closes", .glo "is_house", .glo "house_of", .glo "_law_row", .glo "_law_full", .glo "_law_right", .glo "law", .free "abs", .free "all", .free "dict", .free "enumerate", .free "int", .free "isinstance"]
def fas_3 : List Fx := [.free "len", .free "list", .free "min", .free "range", .free "repr", .free "set", .free "str", .free "tuple", .str "LETTERS" "abcdefghijklmnopqrstuvwxyz", .int "MOST_LETTERS" (8), .int "MOST_TIES" (200), .int "MOST_UNITS" (60), .int "MOST_WITHIN" (6), .str "TOP" "", .tup "WORDS" ["first", "last"], .dat "EMPTY" (.tuple [.tuple [.tuple [.str "", .tuple []]], .tuple [], .tuple [], .tuple []])]
def fas_ : List Fx := fas_0 ++ fas_1 ++ fas_2 ++ fas_3
def loose_0 : List PySem.Str := ["OrderError", "NoHouse", "LETTERS", "MOST_LETTERS", "is_name", "nexts", "priors", "met_by", "behinds", "places_of", "is_order", "TOP", "children", "units_of", "groups_of", "knot_of"]
def loose_1 : List PySem.Str := ["chain", "parting", "tie_pairs", "want_pairs", "view", "MOST_UNITS", "MOST_WITHIN", "MOST_TIES", "WORDS", "EMPTY", "is_knot", "is_rooted", "are_knots", "is_pair", "are_ties", "are_wants"]
def loose_2 : List PySem.Str := ["closes", "is_house", "house_of", "_law_pen", "_law_draw", "_law_names", "_law_tree", "_law_around", "_law_path", "_law_parting", "_law_edges", "_law_reached", "_law_wants", "_law_kept", "_law_waiting", "_law_house"]
def loose_3 : List PySem.Str := ["_law_row", "_law_full", "_law_right"]
def loose_ : List PySem.Str := loose_0 ++ loose_1 ++ loose_2 ++ loose_3
set_option maxHeartbeats 0 in
theorem all_mk {P : Program} {w : World} {K : PySem.W.Frag} {h : Heap} {mg : Str → Option Value} {fa : Addr} (X : K.In h) (G : h.Ns mainGlobals mg) (hfa : mg "law" = some (.ref fa)) (c : SaysL fas_ fns_ K) :
    ∃ fd : FuncData, (∀ (s : Shared) (u : Value), BindsTo s fd ⟨[u], []⟩ [("_law_script", u)]) ∧ ∀ base : Heap, K.In base → base.Ns mainGlobals mg → FnG P w K mg base CX0 10 fa fd ["_law_script"] (P3 K S_law) := by
  have e := hfa.symm.trans (isG_mg X G (c.fact 41 (f := .glo "law") rfl))
  cases e
  have T : Bi K mg := ⟨fx_free X G (c.fact 42 (f := .free "abs") rfl), fx_free X G (c.fact 43 (f := .free "all") rfl), fx_free X G (c.fact 44 (f := .free "dict") rfl), fx_free X G (c.fact 45 (f := .free "enumerate") rfl), fx_free X G (c.fact 46 (f := .free "int") rfl), fx_free X G (c.fact 47 (f := .free "isinstance") rfl), fx_free X G (c.fact 48 (f := .free "len") rfl), fx_free X G (c.fact 49 (f := .free "list") rfl), fx_free X G (c.fact 50 (f := .free "min") rfl), fx_free X G (c.fact 51 (f := .free "range") rfl), fx_free X G (c.fact 52 (f := .free "repr") rfl), fx_free X G (c.fact 53 (f := .free "set") rfl), fx_free X G (c.fact 54 (f := .free "str") rfl), fx_free X G (c.fact 55 (f := .free "tuple") rfl), fx_str X G (c.fact 56 (f := .str "LETTERS" "abcdefghijklmnopqrstuvwxyz") rfl), fx_int X G (c.fact 57 (f := .int "MOST_LETTERS" (8)) rfl), fx_int X G (c.fact 58 (f := .int "MOST_TIES" (200)) rfl), fx_int X G (c.fact 59 (f := .int "MOST_UNITS" (60)) rfl), fx_int X G (c.fact 60 (f := .int "MOST_WITHIN" (6)) rfl), fx_str X G (c.fact 61 (f := .str "TOP" "") rfl), fx_tup X G (c.fact 62 (f := .tup "WORDS" ["first", "last"]) rfl), fx_dat X G (c.fact 63 (f := .dat "EMPTY" (.tuple [.tuple [.tuple [.str "", .tuple []]], .tuple [], .tuple [], .tuple []])) rfl)⟩
  have D0 : DefAt K mg "_law_pen" s__law_pen ["_law_script"] := (c.defAt X G 0 0 (y := "_law_pen") (x := "_law_pen") (st := s__law_pen) (ps := ["_law_script"]) rfl rfl fun _ _ _ _ _ _ us hl => match us, hl with | [_], _ => rfl).at
  have D1 : DefAt K mg "_law_draw" s__law_draw ["_law_pen_here", "_law_most"] := (c.defAt X G 1 1 (y := "_law_draw") (x := "_law_draw") (st := s__law_draw) (ps := ["_law_pen_here", "_law_most"]) rfl rfl fun _ _ _ _ _ _ us hl => match us, hl with | [_, _], _ => rfl).at
  have D2 : DefAt K mg "_law_names" s__law_names ["_law_pen_here", "_law_many"] := (c.defAt X G 2 2 (y := "_law_names") (x := "_law_names") (st := s__law_names) (ps := ["_law_pen_here", "_law_many"]) rfl rfl fun _ _ _ _ _ _ us hl => match us, hl with | [_, _], _ => rfl).at
  have D3 : DefAt K mg "_law_tree" s__law_tree ["_law_pen_here", "_law_names_here", "_law_deep"] := (c.defAt X G 3 3 (y := "_law_tree") (x := "_law_tree") (st := s__law_tree) (ps := ["_law_pen_here", "_law_names_here", "_law_deep"]) rfl rfl fun _ _ _ _ _ _ us hl => match us, hl with | [_, _, _], _ => rfl).at
  have D4 : DefAt K mg "_law_around" s__law_around ["_law_knots"] := (c.defAt X G 4 4 (y := "_law_around") (x := "_law_around") (st := s__law_around) (ps := ["_law_knots"]) rfl rfl fun _ _ _ _ _ _ us hl => match us, hl with | [_], _ => rfl).at
  have D5 : DefAt K mg "_law_path" s__law_path ["_law_around_here", "_law_unit"] := (c.defAt X G 5 5 (y := "_law_path") (x := "_law_path") (st := s__law_path) (ps := ["_law_around_here", "_law_unit"]) rfl rfl fun _ _ _ _ _ _ us hl => match us, hl with | [_, _], _ => rfl).at
  have D6 : DefAt K mg "_law_parting" s__law_parting ["_law_around_here", "_law_one", "_law_other"] := (c.defAt X G 6 6 (y := "_law_parting") (x := "_law_parting") (st := s__law_parting) (ps := ["_law_around_here", "_law_one", "_law_other"]) rfl rfl fun _ _ _ _ _ _ us hl => match us, hl with | [_, _, _], _ => rfl).at
  have D7 : DefAt K mg "_law_edges" s__law_edges ["_law_house_here", "_law_knot"] := (c.defAt X G 7 7 (y := "_law_edges") (x := "_law_edges") (st := s__law_edges) (ps := ["_law_house_here", "_law_knot"]) rfl rfl fun _ _ _ _ _ _ us hl => match us, hl with | [_, _], _ => rfl).at
  have D8 : DefAt K mg "_law_reached" s__law_reached ["_law_edges_here", "_law_one"] := (c.defAt X G 8 8 (y := "_law_reached") (x := "_law_reached") (st := s__law_reached) (ps := ["_law_edges_here", "_law_one"]) rfl rfl fun _ _ _ _ _ _ us hl => match us, hl with | [_, _], _ => rfl).at
  have D9 : DefAt K mg "_law_wants" s__law_wants ["_law_pen_here", "_law_knots"] := (c.defAt X G 9 9 (y := "_law_wants") (x := "_law_wants") (st := s__law_wants) (ps := ["_law_pen_here", "_law_knots"]) rfl rfl fun _ _ _ _ _ _ us hl => match us, hl with | [_, _], _ => rfl).at
  have D10 : DefAt K mg "_law_kept" s__law_kept ["_law_pen_here", "_law_knots", "_law_units", "_law_many"] := (c.defAt X G 10 10 (y := "_law_kept") (x := "_law_kept") (st := s__law_kept) (ps := ["_law_pen_here", "_law_knots", "_law_units", "_law_many"]) rfl rfl fun _ _ _ _ _ _ us hl => match us, hl with | [_, _, _, _], _ => rfl).at
  have D11 : DefAt K mg "_law_waiting" s__law_waiting ["_law_pen_here", "_law_house_here", "_law_units"] := (c.defAt X G 11 11 (y := "_law_waiting") (x := "_law_waiting") (st := s__law_waiting) (ps := ["_law_pen_here", "_law_house_here", "_law_units"]) rfl rfl fun _ _ _ _ _ _ us hl => match us, hl with | [_, _, _], _ => rfl).at
  have D12 : DefAt K mg "_law_house" s__law_house ["_law_pen_here", "_law_units", "_law_deep"] := (c.defAt X G 12 12 (y := "_law_house") (x := "_law_house") (st := s__law_house) (ps := ["_law_pen_here", "_law_units", "_law_deep"]) rfl rfl fun _ _ _ _ _ _ us hl => match us, hl with | [_, _, _], _ => rfl).at
  have D13 : DefAt K mg "is_name" s_is_name ["thing"] := (c.defAt X G 13 13 (y := "is_name") (x := "is_name") (st := s_is_name) (ps := ["thing"]) rfl rfl fun _ _ _ _ _ _ us hl => match us, hl with | [_], _ => rfl).at
  have D14 : DefAt K mg "children" s_children ["house", "knot"] := (c.defAt X G 14 14 (y := "children") (x := "children") (st := s_children) (ps := ["house", "knot"]) rfl rfl fun _ _ _ _ _ _ us hl => match us, hl with | [_, _], _ => rfl).at
  have D15 : DefAt K mg "units_of" s_units_of ["house"] := (c.defAt X G 15 15 (y := "units_of") (x := "units_of") (st := s_units_of) (ps := ["house"]) rfl rfl fun _ _ _ _ _ _ us hl => match us, hl with | [_], _ => rfl).at
  have D16 : DefAt K mg "groups_of" s_groups_of ["house"] := (c.defAt X G 16 16 (y := "groups_of") (x := "groups_of") (st := s_groups_of) (ps := ["house"]) rfl rfl fun _ _ _ _ _ _ us hl => match us, hl with | [_], _ => rfl).at
  have D17 : DefAt K mg "knot_of" s_knot_of ["house", "one"] := (c.defAt X G 17 17 (y := "knot_of") (x := "knot_of") (st := s_knot_of) (ps := ["house", "one"]) rfl rfl fun _ _ _ _ _ _ us hl => match us, hl with | [_, _], _ => rfl).at
  have D18 : DefAt K mg "chain" s_chain ["house", "one"] := (c.defAt X G 18 18 (y := "chain") (x := "chain") (st := s_chain) (ps := ["house", "one"]) rfl rfl fun _ _ _ _ _ _ us hl => match us, hl with | [_, _], _ => rfl).at
  have D19 : DefAt K mg "parting" s_parting ["house", "one", "other"] := (c.defAt X G 19 19 (y := "parting") (x := "parting") (st := s_parting) (ps := ["house", "one", "other"]) rfl rfl fun _ _ _ _ _ _ us hl => match us, hl with | [_, _, _], _ => rfl).at
  have D20 : DefAt K mg "tie_pairs" s_tie_pairs ["house", "knot"] := (c.defAt X G 20 20 (y := "tie_pairs") (x := "tie_pairs") (st := s_tie_pairs) (ps := ["house", "knot"]) rfl rfl fun _ _ _ _ _ _ us hl => match us, hl with | [_, _], _ => rfl).at
  have D21 : DefAt K mg "want_pairs" s_want_pairs ["word", "unit", "some"] := (c.defAt X G 21 21 (y := "want_pairs") (x := "want_pairs") (st := s_want_pairs) (ps := ["word", "unit", "some"]) rfl rfl fun _ _ _ _ _ _ us hl => match us, hl with | [_, _, _], _ => rfl).at
  have D22 : DefAt K mg "view" s_view ["house", "knot"] := (c.defAt X G 22 22 (y := "view") (x := "view") (st := s_view) (ps := ["house", "knot"]) rfl rfl fun _ _ _ _ _ _ us hl => match us, hl with | [_, _], _ => rfl).at
  have D23 : DefAt K mg "nexts" s_nexts ["web", "one"] := (c.defAt X G 23 23 (y := "nexts") (x := "nexts") (st := s_nexts) (ps := ["web", "one"]) rfl rfl fun _ _ _ _ _ _ us hl => match us, hl with | [_, _], _ => rfl).at
  have D24 : DefAt K mg "priors" s_priors ["web", "one"] := (c.defAt X G 24 24 (y := "priors") (x := "priors") (st := s_priors) (ps := ["web", "one"]) rfl rfl fun _ _ _ _ _ _ us hl => match us, hl with | [_, _], _ => rfl).at
  have D25 : DefAt K mg "met_by" s_met_by ["web", "one", "is_back"] := (c.defAt X G 25 25 (y := "met_by") (x := "met_by") (st := s_met_by) (ps := ["web", "one", "is_back"]) rfl rfl fun _ _ _ _ _ _ us hl => match us, hl with | [_, _, _], _ => rfl).at
  have D26 : DefAt K mg "behinds" s_behinds ["web", "one"] := (c.defAt X G 26 26 (y := "behinds") (x := "behinds") (st := s_behinds) (ps := ["web", "one"]) rfl rfl fun _ _ _ _ _ _ us hl => match us, hl with | [_, _], _ => rfl).at
  have D27 : DefAt K mg "places_of" s_places_of ["order"] := (c.defAt X G 27 27 (y := "places_of") (x := "places_of") (st := s_places_of) (ps := ["order"]) rfl rfl fun _ _ _ _ _ _ us hl => match us, hl with | [_], _ => rfl).at
  have D28 : DefAt K mg "is_order" s_is_order ["web", "thing"] := (c.defAt X G 28 28 (y := "is_order") (x := "is_order") (st := s_is_order) (ps := ["web", "thing"]) rfl rfl fun _ _ _ _ _ _ us hl => match us, hl with | [_, _], _ => rfl).at
  have D29 : DefAt K mg "is_knot" s_is_knot ["thing"] := (c.defAt X G 29 29 (y := "is_knot") (x := "is_knot") (st := s_is_knot) (ps := ["thing"]) rfl rfl fun _ _ _ _ _ _ us hl => match us, hl with | [_], _ => rfl).at
  have D30 : DefAt K mg "is_rooted" s_is_rooted ["house", "name"] := (c.defAt X G 30 30 (y := "is_rooted") (x := "is_rooted") (st := s_is_rooted) (ps := ["house", "name"]) rfl rfl fun _ _ _ _ _ _ us hl => match us, hl with | [_, _], _ => rfl).at
  have D31 : DefAt K mg "are_knots" s_are_knots ["thing"] := (c.defAt X G 31 31 (y := "are_knots") (x := "are_knots") (st := s_are_knots) (ps := ["thing"]) rfl rfl fun _ _ _ _ _ _ us hl => match us, hl with | [_], _ => rfl).at
  have D32 : DefAt K mg "is_pair" s_is_pair ["thing", "units"] := (c.defAt X G 32 32 (y := "is_pair") (x := "is_pair") (st := s_is_pair) (ps := ["thing", "units"]) rfl rfl fun _ _ _ _ _ _ us hl => match us, hl with | [_, _], _ => rfl).at
  have D33 : DefAt K mg "are_ties" s_are_ties ["house"] := (c.defAt X G 33 33 (y := "are_ties") (x := "are_ties") (st := s_are_ties) (ps := ["house"]) rfl rfl fun _ _ _ _ _ _ us hl => match us, hl with | [_], _ => rfl).at
  have D34 : DefAt K mg "are_wants" s_are_wants ["house"] := (c.defAt X G 34 34 (y := "are_wants") (x := "are_wants") (st := s_are_wants) (ps := ["house"]) rfl rfl fun _ _ _ _ _ _ us hl => match us, hl with | [_], _ => rfl).at
  have D35 : DefAt K mg "closes" s_closes ["house", "pair"] := (c.defAt X G 35 35 (y := "closes") (x := "closes") (st := s_closes) (ps := ["house", "pair"]) rfl rfl fun _ _ _ _ _ _ us hl => match us, hl with | [_, _], _ => rfl).at
  have D36 : DefAt K mg "is_house" s_is_house ["thing"] := (c.defAt X G 36 36 (y := "is_house") (x := "is_house") (st := s_is_house) (ps := ["thing"]) rfl rfl fun _ _ _ _ _ _ us hl => match us, hl with | [_], _ => rfl).at
  have D37 : DefAt K mg "house_of" s_house_of ["knots", "ties", "waiting", "wants"] := (c.defAt X G 37 37 (y := "house_of") (x := "house_of") (st := s_house_of) (ps := ["knots", "ties", "waiting", "wants"]) rfl rfl fun _ _ _ _ _ _ us hl => match us, hl with | [_, _, _, _], _ => rfl).at
  have D38 : DefAt K mg "_law_row" s__law_row ["_law_pen_here", "_law_units", "_law_deep"] := (c.defAt X G 38 38 (y := "_law_row") (x := "_law_row") (st := s__law_row) (ps := ["_law_pen_here", "_law_units", "_law_deep"]) rfl rfl fun _ _ _ _ _ _ us hl => match us, hl with | [_, _, _], _ => rfl).at
  have D39 : DefAt K mg "_law_full" s__law_full ["_law_pen_here", "_law_units"] := (c.defAt X G 39 39 (y := "_law_full") (x := "_law_full") (st := s__law_full) (ps := ["_law_pen_here", "_law_units"]) rfl rfl fun _ _ _ _ _ _ us hl => match us, hl with | [_, _], _ => rfl).at
  have D40 : DefAt K mg "_law_right" s__law_right ["_law_pen_here", "_law_house_here"] := (c.defAt X G 40 40 (y := "_law_right") (x := "_law_right") (st := s__law_right) (ps := ["_law_pen_here", "_law_house_here"]) rfl rfl fun _ _ _ _ _ _ us hl => match us, hl with | [_, _], _ => rfl).at
  obtain ⟨fd, F, _⟩ := c.fun_ 41 (p := ("law", none)) (x := "law") (q := "law") (st := s_law) rfl
  have bl : ∀ (s : Shared) (u : Value), BindsTo s fd ⟨[u], []⟩ [("_law_script", u)] := by
    obtain ⟨oc, od, kV, doc, pm, an, cdv, ct, osl, rfl, _, _⟩ := F.ex
    exact fun s u => .of_eq rfl
  refine ⟨fd, bl, fun base _ _ => ?_⟩
  have c__law_pen := ok__law_pen (P := P) (w := w) (base := base) T D0
  have c__law_draw := ok__law_draw (P := P) (w := w) (base := base) T D1
  have c__law_names := ok__law_names (P := P) (w := w) (base := base) T D2 c__law_draw
  have c__law_tree := ok__law_tree (P := P) (w := w) (base := base) T D3 c__law_draw
  have c__law_around := ok__law_around (P := P) (w := w) (base := base) T D4
  have c__law_path := ok__law_path (P := P) (w := w) (base := base) T D5
  have c__law_parting := ok__law_parting (P := P) (w := w) (base := base) T D6 c__law_path
  have c__law_edges := ok__law_edges (P := P) (w := w) (base := base) T D7 c__law_parting c__law_around
  have c__law_reached := ok__law_reached (P := P) (w := w) (base := base) T D8
  have c__law_wants := ok__law_wants (P := P) (w := w) (base := base) T D9 c__law_draw
  have c__law_kept := ok__law_kept (P := P) (w := w) (base := base) T D10 c__law_parting c__law_draw c__law_around
  have c__law_waiting := ok__law_waiting (P := P) (w := w) (base := base) T D11 c__law_draw c__law_reached c__law_edges c__law_parting c__law_around
  have c__law_house := ok__law_house (P := P) (w := w) (base := base) T D12 c__law_waiting c__law_kept c__law_draw c__law_wants c__law_tree
  have c_is_name := ok_is_name (P := P) (w := w) (base := base) T D13
  have c_children := ok_children (P := P) (w := w) (base := base) T D14
  have c_units_of := ok_units_of (P := P) (w := w) (base := base) T D15
  have c_groups_of := ok_groups_of (P := P) (w := w) (base := base) T D16
  have c_knot_of := ok_knot_of (P := P) (w := w) (base := base) T D17
  have c_chain := ok_chain (P := P) (w := w) (base := base) T D18 c_knot_of
  have c_parting := ok_parting (P := P) (w := w) (base := base) T D19 c_chain
  have c_tie_pairs := ok_tie_pairs (P := P) (w := w) (base := base) T D20 c_parting
  have c_want_pairs := ok_want_pairs (P := P) (w := w) (base := base) T D21
  have c_view := ok_view (P := P) (w := w) (base := base) T D22 c_want_pairs c_tie_pairs c_children
  have c_nexts := ok_nexts (P := P) (w := w) (base := base) T D23
  have c_priors := ok_priors (P := P) (w := w) (base := base) T D24
  have c_met_by := ok_met_by (P := P) (w := w) (base := base) T D25 c_priors c_nexts
  have c_behinds := ok_behinds (P := P) (w := w) (base := base) T D26 c_met_by
  have c_places_of := ok_places_of (P := P) (w := w) (base := base) T D27
  have c_is_order := ok_is_order (P := P) (w := w) (base := base) T D28 c_places_of
  have c_is_knot := ok_is_knot (P := P) (w := w) (base := base) T D29 c_is_name
  have c_is_rooted := ok_is_rooted (P := P) (w := w) (base := base) T D30 c_knot_of
  have c_are_knots := ok_are_knots (P := P) (w := w) (base := base) T D31 c_is_rooted c_units_of c_groups_of c_is_knot
  have c_is_pair := ok_is_pair (P := P) (w := w) (base := base) T D32
  have c_are_ties := ok_are_ties (P := P) (w := w) (base := base) T D33 c_is_pair c_parting c_units_of
  have c_are_wants := ok_are_wants (P := P) (w := w) (base := base) T D34 c_knot_of c_units_of
  have c_closes := ok_closes (P := P) (w := w) (base := base) T D35 c_behinds c_view c_parting
  have c_is_house := ok_is_house (P := P) (w := w) (base := base) T D36 c_closes c_is_order c_view c_are_ties c_are_wants c_are_knots
  have c_house_of := ok_house_of (P := P) (w := w) (base := base) T D37 c_is_house
  have c__law_row := ok__law_row (P := P) (w := w) (base := base) T D38 c__law_draw
  have c__law_full := ok__law_full (P := P) (w := w) (base := base) T D39 c__law_draw
  have c__law_right := ok__law_right (P := P) (w := w) (base := base) T D40 c_house_of c__law_draw c_is_house
  exact ok_law T F c__law_right c__law_row c__law_names c__law_draw c__law_full c__law_house c__law_pen
theorem hsp (K : PySem.W.Frag) (H : Hp) (a : Addr) (ns : List Int) (hl : ns.length ≤ 63) (hS : SqL K H a (ns.map V.int)) : P3 K S_law [.ref a] H (fun v _ => v = .bl true) fun _ _ _ => False :=
  ⟨[], H, [], [.sq ns], fun d _ => d = .f (.bool true), ⟨Same.refl _, rfl, List.nodup_nil, (fun _ h => by cases h), (fun n a o h => by simp at h)⟩, .cons ⟨a, rfl, hS⟩ .nil, law_in ns hl, fun v m' B' H' d l' s S r hd => by subst hd; exact bl_of r⟩
end Qk37
namespace Hk37
open PySem PySem.W PySem.Calls PyProof.Rows
abbrev R : PySem.W.OpenRow := PySem.W.OpenLaw.row PySem.Challenge.rw_orderkeep_k37_good_houses
abbrev qv : Program := PySem.W.view R.prog [60]
abbrev hk : PySem.W.Hook := L3.hookL 5 Qk37.fas_ Qk37.fns_
def ob (s : PySem.W.SharedT) : He.AlD := L3.obsLG 5 Qk37.fas_ Qk37.fns_ (HandSHeadRun.getT s)
theorem ob_eq (s : PySem.W.SharedT) : ob s = hk.obs s.abs := L3.obsLG_eq (HandSHeadRun.getT_eq s)
set_option maxRecDepth 100000 in
set_option maxHeartbeats 0 in
theorem run (w : World) : HandSHeadRun.RunEq R qv hk ob 20000 Qk37.loose_ w := by
  intro os
  kernel_rfl
end Hk37
open PySem PySem.W PyProof.Rows
set_option maxRecDepth 100000 in
set_option maxHeartbeats 0 in
theorem PySem.Challenge.cw_orderkeep_k37_good_houses_holds : PySem.Challenge.rw_orderkeep_k37_good_houses.Holds := by
  w_on; o_law
  refine HandSHeadRun.head_any (r := PySem.W.OpenLaw.row PySem.Challenge.rw_orderkeep_k37_good_houses) (q := Hk37.qv) (H := Hk37.hk) (ob := Hk37.ob) (M := 20000) (loose := Qk37.loose_) (d := HandSHeadRun.topDef (PySem.W.OpenLaw.row PySem.Challenge.rw_orderkeep_k37_good_houses).prog 60) (kwd := []) Hk37.ob_eq
    (by kernel_rfl) (fun s => by kernel_rfl) Hk37.run (by kernel_rfl) (by kernel_rfl) (by kernel_rfl) (by rfl) (by first | assumption | decide +kernel) (by decide +kernel) ⟨rfl, rfl, rfl, rfl, rfl, by decide +kernel⟩ ?hw ?hc
  case hw => w_witness2
  case hc =>
    refine L3.walkL (l := PySem.Challenge.rw_orderkeep_k37_good_houses) (n := 63) (k := 10) (x := "_law_script") rfl (by decide) (by kernel_rfl) ⟨rfl, by decide, by decide⟩ ?F
    intro w mg fa h Y G hmg0
    obtain ⟨K, KX, c⟩ := Y
    have hmg : mg ("law" : PySem.Str) = some (.ref fa) := by
      have e : (HandSHeadRun.topDef (PySem.W.OpenLaw.row PySem.Challenge.rw_orderkeep_k37_good_houses).prog 60).name = ("law" : PySem.Str) := by kernel_rfl
      rw [← e]
      exact hmg0
    obtain ⟨fd, hb, hF⟩ := Qk37.all_mk (P := (PySem.Challenge.rw_orderkeep_k37_good_houses).prog) (w := w) KX G hmg c
    exact ⟨K, fd, L3.P3 K Qk37.S_law, KX, fun H a ns hl hS => Qk37.hsp K H a ns hl hS, hb, hF⟩
#print axioms PySem.Challenge.cw_orderkeep_k37_good_houses_holds
