import PyProof.Rows.All
import Wide.All
import OpenK.AllK
import Wide.FinOn
import HandS.ForMost
import HandS.IsInst
import HandS.Flow
import HandS.Conv
import HandS.More
import KE.KDictKeyed
import PySem.Challenge.RW_orderkeep_k04_nexts_and_priors
set_option Elab.async false
set_option linter.all false
set_option maxRecDepth 100000
/-! L3: values without addresses over the hand layer -/
namespace L3
open PySem L2

/-! ### frozen data -/
/-- a tuple; one of two is always a tracked one (it can be a key) -/
def TuK (K : PySem.W.Frag) (B : Hp) (a : Addr) (xs : List V) : Prop := B a = some (.tup xs) ∨ (xs.length ≠ 2 ∧ SqT K B a xs)
theorem TuK.sq {K : PySem.W.Frag} {B : Hp} {a : Addr} {xs : List V} (h : TuK K B a xs) : SqT K B a xs := by
  rcases h with h | h
  · exact SqT.of h
  · exact h.2
mutual
inductive FR (K : PySem.W.Frag) (B : Hp) : V → PyData → Prop
  | non : FR K B .non .none
  | bl (b : Bool) : FR K B (.bl b) (.bool b)
  | int (i : Int) : FR K B (.int i) (.int i)
  | str (x : Str) : FR K B (.str x) (.str x)
  | lst {a : Addr} {xs : List V} {ds : List PyData} : B a = some (.lst xs) → FRs K B xs ds → FR K B (.ref a) (.list ds)
  | tup {a : Addr} {xs : List V} {ds : List PyData} : TuK K B a xs → FRs K B xs ds → FR K B (.ref a) (.tuple ds)
inductive FRs (K : PySem.W.Frag) (B : Hp) : List V → List PyData → Prop
  | nil : FRs K B [] []
  | cons {v : V} {vs : List V} {d : PyData} {ds : List PyData} : FR K B v d → FRs K B vs ds → FRs K B (v :: vs) (d :: ds)
end
/-- a value as a frame sees it: data that stays, an own object by its number, a list of ints that is only read -/
inductive D where
  | f (d : PyData) | own (n : Nat) | sq (s : List Int)
/-- an own object: a list of data, a list with references, a tuple with references, dicts, an instance, nothing any more -/
inductive O where
  | lst (ds : List PyData) | rfs (ds : List D) | tpr (ds : List D) | dct (kvs : List (Key × PyData)) | dctT (kvs : List (List Key × PyData))
  | ins (C : Addr) (fs : List (Str × D)) | gone

section
variable {K : PySem.W.Frag} {B B' H H' : Hp}
theorem sqT_same {a : Addr} {xs : List V} (e : Same B B') (h : SqT K B a xs) : SqT K B' a xs := by
  rcases h with (h | ⟨o, h⟩) | h
  · exact .inl (.inl (e _ _ h))
  · exact .inl (.inr ⟨o, e _ _ h⟩)
  · exact .inr h
theorem TuK.same {a : Addr} {xs : List V} (e : Same B B') (h : TuK K B a xs) : TuK K B' a xs := by
  rcases h with h | h
  · exact .inl (e _ _ h)
  · exact .inr ⟨h.1, sqT_same e h.2⟩
mutual
theorem FR.same (e : Same B B') : ∀ (d : PyData) (v : V), FR K B v d → FR K B' v d
  | .none, _, h => by cases h; exact .non
  | .bool _, _, h => by cases h; exact .bl _
  | .int _, _, h => by cases h; exact .int _
  | .str _, _, h => by cases h; exact .str _
  | .list ds, _, h => by
    cases h with
    | lst h1 h2 => exact .lst (e _ _ h1) (FRs.same e ds _ h2)
  | .tuple ds, _, h => by
    cases h with
    | tup h1 h2 => exact .tup (h1.same e) (FRs.same e ds _ h2)
  | .dict _, _, h => by cases h
theorem FRs.same (e : Same B B') : ∀ (ds : List PyData) (vs : List V), FRs K B vs ds → FRs K B' vs ds
  | [], _, h => by cases h; exact .nil
  | d :: ds, _, h => by
    cases h with
    | cons h1 h2 => exact .cons (FR.same e d _ h1) (FRs.same e ds _ h2)
end
mutual
theorem FR.dp : ∀ (d : PyData) (v : V), FR K B v d → Dp K B v d
  | .none, _, h => by cases h; exact .non
  | .bool _, _, h => by cases h; exact .bl _
  | .int _, _, h => by cases h; exact .int _
  | .str _, _, h => by cases h; exact .str _
  | .list ds, _, h => by
    cases h with
    | lst h1 h2 => exact .lst (SqL.of h1) (FRs.dp ds _ h2)
  | .tuple ds, _, h => by
    cases h with
    | tup h1 h2 => exact .tup h1.sq (FRs.dp ds _ h2)
  | .dict _, _, h => by cases h
theorem FRs.dp : ∀ (ds : List PyData) (vs : List V), FRs K B vs ds → DpAll K B vs ds
  | [], _, h => by cases h; exact .nil
  | d :: ds, _, h => by
    cases h with
    | cons h1 h2 => exact .cons (FR.dp d _ h1) (FRs.dp ds _ h2)
end
theorem FRs.length : ∀ {vs : List V} {ds : List PyData}, FRs K B vs ds → vs.length = ds.length
  | _, [], h => by cases h; rfl
  | _, _ :: _, h => by
    cases h with
    | cons h1 h2 => rw [List.length_cons, List.length_cons, FRs.length h2]
theorem FRs.append : ∀ {vs ws : List V} {ds es : List PyData}, FRs K B vs ds → FRs K B ws es → FRs K B (vs ++ ws) (ds ++ es)
  | _, _, [], _, h, h' => by cases h; exact h'
  | _, _, _ :: _, _, h, h' => by
    cases h with
    | cons h1 h2 => exact .cons h1 (FRs.append h2 h')
theorem FRs.one {v : V} {d : PyData} (h : FR K B v d) : FRs K B [v] [d] := .cons h .nil
theorem FRs.get : ∀ {vs : List V} {ds : List PyData} {i : Nat} {d : PyData}, FRs K B vs ds → ds[i]? = some d → ∃ v, vs[i]? = some v ∧ FR K B v d
  | _, [], _, _, h, e => by simp at e
  | _, _ :: _, 0, _, h, e => by
    cases h with
    | cons h1 h2 => simp at e; subst e; exact ⟨_, rfl, h1⟩
  | _, _ :: _, i + 1, _, h, e => by
    cases h with
    | cons h1 h2 =>
      obtain ⟨v, a, b⟩ := FRs.get (i := i) h2 (by simpa using e)
      exact ⟨v, by simpa using a, b⟩
theorem FRs.getV : ∀ {vs : List V} {ds : List PyData} {i : Nat} {v : V}, FRs K B vs ds → vs[i]? = some v → ∃ d, ds[i]? = some d ∧ FR K B v d
  | [], _, _, _, h, e => by simp at e
  | _ :: _, _, 0, _, h, e => by
    cases h with
    | cons h1 h2 => simp at e; subst e; exact ⟨_, rfl, h1⟩
  | _ :: _, _, i + 1, _, h, e => by
    cases h with
    | cons h1 h2 =>
      obtain ⟨v, a, b⟩ := FRs.getV (i := i) h2 (by simpa using e)
      exact ⟨v, by simpa using a, b⟩
theorem FRs.take (n : Nat) : ∀ {vs : List V} {ds : List PyData}, FRs K B vs ds → FRs K B (vs.take n) (ds.take n) := by
  induction n with
  | zero => intro vs ds _; exact .nil
  | succ n ih =>
    intro vs ds h
    cases h with
    | nil => exact .nil
    | cons h1 h2 => exact .cons h1 (ih h2)
theorem FRs.drop (n : Nat) : ∀ {vs : List V} {ds : List PyData}, FRs K B vs ds → FRs K B (vs.drop n) (ds.drop n) := by
  induction n with
  | zero => intro vs ds h; exact h
  | succ n ih =>
    intro vs ds h
    cases h with
    | nil => exact .nil
    | cons h1 h2 => exact ih h2
theorem FRs.set {v : V} {d : PyData} (h : FR K B v d) (n : Nat) : ∀ {vs : List V} {ds : List PyData}, FRs K B vs ds → FRs K B (vs.set n v) (ds.set n d) := by
  induction n with
  | zero =>
    intro vs ds hs
    cases hs with
    | nil => exact .nil
    | cons h1 h2 => exact .cons h h2
  | succ n ih =>
    intro vs ds hs
    cases hs with
    | nil => exact .nil
    | cons h1 h2 => exact .cons h1 (ih h2)
end

/-! ### the frame's view -/
def VR (K : PySem.W.Frag) (m : List Addr) (B : Hp) (v : V) : D → Prop
  | .f d => FR K B v d
  | .own n => ∃ a, v = .ref a ∧ m[n]? = some a
  | .sq s => ∃ a, v = .ref a ∧ SqL K B a (s.map V.int)
def OR (K : PySem.W.Frag) (m : List Addr) (B H : Hp) (a : Addr) : O → Prop
  | .lst ds => ∃ xs, H a = some (.lst xs) ∧ FRs K B xs ds
  | .rfs ds => ∃ xs, H a = some (.lst xs) ∧ Paired (VR K m B) xs ds
  | .tpr ds => ∃ xs, H a = some (.tup xs) ∧ Paired (VR K m B) xs ds
  | .dct kvs => ∃ ks, H a = some (.dK ks) ∧ Paired (fun (p : Key × V) (q : Key × PyData) => p.1 = q.1 ∧ FR K B p.2 q.2) ks kvs
  | .dctT kvs => ∃ ks, H a = some (.dT ks) ∧ Paired (fun (p : List Key × V) (q : List Key × PyData) => p.1 = q.1 ∧ FR K B p.2 q.2) ks kvs
  | .ins C fs => ∃ dx gs, H a = some (.ins C dx gs) ∧ Paired (fun (p : Str × V) (q : Str × D) => p.1 = q.1 ∧ VR K m B p.2 q.2) gs fs
  | .gone => True
/-- no reference within -/
def O.flat : O → Prop
  | .lst _ => True
  | .dct _ => True
  | .dctT _ => True
  | .gone => True
  | _ => False
structure SR (K : PySem.W.Frag) (m : List Addr) (B H : Hp) (l : List O) : Prop where
  sub : Same B H
  len : m.length = l.length
  nd : m.Nodup
  live : ∀ a ∈ m, H a ≠ none
  obj : ∀ (n : Nat) (a : Addr) (o : O), m[n]? = some a → l[n]? = some o → OR K m B H a o ∧ (o ≠ .gone → B a = none)
structure Step (m : List Addr) (B H : Hp) (m' : List Addr) (B' H' : Hp) : Prop where
  sub : Same B B'
  pre : ∃ t, m' = m ++ t
  keep : ∀ a o, H a = some o → a ∉ m → H' a = some o
  live : ∀ a, H a ≠ none → H' a ≠ none
  sep : ∀ a, H a ≠ none → B a = none → a ∉ m → B' a = none
  new : ∀ a ∈ m', a ∈ m ∨ H a = none
def ER (K : PySem.W.Frag) (m : List Addr) (B : Hp) (σ : St) (ρ : List (Option D)) : Prop :=
  σ.length = ρ.length ∧ ∀ (i : Nat) (d : D), ρ[i]? = some (some d) → ∃ v, σ[i]? = some (some v) ∧ VR K m B v d

section
variable {K : PySem.W.Frag} {m m' m2 : List Addr} {B B' B2 H H' H2 : Hp} {l : List O} {σ : St} {ρ : List (Option D)}
theorem Step.refl (B H : Hp) (m : List Addr) : Step m B H m B H :=
  ⟨Same.refl _, ⟨[], by simp⟩, fun _ _ h _ => h, fun _ h => h, fun _ _ h _ => h, fun _ h => .inl h⟩
theorem Step.trans (s : Step m B H m' B' H') (t : Step m' B' H' m2 B2 H2) : Step m B H m2 B2 H2 where
  sub := s.sub.trans t.sub
  pre := by
    obtain ⟨a, rfl⟩ := s.pre
    obtain ⟨b, rfl⟩ := t.pre
    exact ⟨a ++ b, by simp⟩
  keep := fun a o h hn => t.keep a o (s.keep a o h hn) fun hm => by
    rcases s.new a hm with z | z
    · exact hn z
    · rw [z] at h; cases h
  live := fun a h => t.live a (s.live a h)
  sep := fun a h hb hn => t.sep a (s.live a h) (s.sep a h hb hn) fun hm => by
    rcases s.new a hm with z | z
    · exact hn z
    · exact h z
  new := fun a h => by
    rcases t.new a h with z | z
    · exact s.new a z
    · refine .inr ?_
      cases e : H a with
      | none => rfl
      | some o => exact absurd z (s.live a (by rw [e]; simp))
theorem get_pre {n : Nat} {a : Addr} (h : ∃ t, m' = m ++ t) (e : m[n]? = some a) : m'[n]? = some a := by
  obtain ⟨t, rfl⟩ := h
  rw [List.getElem?_append_left (List.getElem?_eq_some_iff.mp e).1]
  exact e
theorem VR.up {v : V} {d : D} (hs : Same B B') (hp : ∃ t, m' = m ++ t) (h : VR K m B v d) : VR K m' B' v d := by
  cases d with
  | f d => exact FR.same hs d v h
  | own n =>
    obtain ⟨a, e, h⟩ := h
    exact ⟨a, e, get_pre hp h⟩
  | sq q =>
    obtain ⟨a, e, h⟩ := h
    exact ⟨a, e, hs.seq h⟩
theorem VR.step {v : V} {d : D} (s : Step m B H m' B' H') (h : VR K m B v d) : VR K m' B' v d := h.up s.sub s.pre
theorem ER.step (s : Step m B H m' B' H') (h : ER K m B σ ρ) : ER K m' B' σ ρ :=
  ⟨h.1, fun i d e => let ⟨v, a, b⟩ := h.2 i d e; ⟨v, a, b.step s⟩⟩
theorem ER.set {v : V} {d : D} (i : Nat) (h : ER K m B σ ρ) (hv : VR K m B v d) : ER K m B (σ.set i (some v)) (ρ.set i (some d)) := by
  refine ⟨by simp [h.1], fun j e hj => ?_⟩
  by_cases hij : i = j
  · subst hij
    have hl : i < ρ.length := by
      have := (List.getElem?_eq_some_iff.mp hj).1
      simpa using this
    rw [List.getElem?_set_self hl] at hj
    cases hj
    exact ⟨v, by rw [List.getElem?_set_self (by rw [h.1]; exact hl)], hv⟩
  · rw [List.getElem?_set_ne hij] at hj
    obtain ⟨w, a, b⟩ := h.2 j e hj
    exact ⟨w, by rw [List.getElem?_set_ne hij]; exact a, b⟩
theorem Paired.up {α β : Type} {R R' : α → β → Prop} : ∀ {xs : List α} {ys : List β}, Paired R xs ys → (∀ x y, R x y → R' x y) → Paired R' xs ys
  | _, _, .nil, _ => .nil
  | _, _, .cons h t, f => .cons (f _ _ h) (Paired.up t f)
/-- an object keeps its content where it stands as it was -/
theorem OR.up {a : Addr} {o : O} (hs : Same B B') (hp : ∃ t, m' = m ++ t) (hH : ∀ u, H a = some u → H' a = some u) (h : OR K m B H a o) : OR K m' B' H' a o := by
  cases o with
  | lst ds => obtain ⟨xs, e, r⟩ := h; exact ⟨xs, hH _ e, FRs.same hs ds xs r⟩
  | rfs ds => obtain ⟨xs, e, r⟩ := h; exact ⟨xs, hH _ e, Paired.up r fun _ _ z => z.up hs hp⟩
  | tpr ds => obtain ⟨xs, e, r⟩ := h; exact ⟨xs, hH _ e, Paired.up r fun _ _ z => z.up hs hp⟩
  | dct kvs => obtain ⟨xs, e, r⟩ := h; exact ⟨xs, hH _ e, Paired.up r fun _ _ z => ⟨z.1, FR.same hs _ _ z.2⟩⟩
  | dctT kvs => obtain ⟨xs, e, r⟩ := h; exact ⟨xs, hH _ e, Paired.up r fun _ _ z => ⟨z.1, FR.same hs _ _ z.2⟩⟩
  | ins C fs => obtain ⟨dx, gs, e, r⟩ := h; exact ⟨dx, gs, hH _ e, Paired.up r fun _ _ z => ⟨z.1, z.2.up hs hp⟩⟩
  | gone => trivial
theorem upd_live {a b : Addr} {o : HO} (h : H b ≠ none) : upd H a o b ≠ none := by
  by_cases e : b = a
  · subst e; rw [upd_same]; simp
  · rw [upd_ne e]; exact h
theorem same_new {p : Addr} {o : HO} (h : H p = none) : Same H (upd H p o) := fun b u e => by
  rw [upd_ne (ne_of_none e h)]; exact e
theorem SR.notin (S : SR K m B H l) {p : Addr} (h : H p = none) : p ∉ m := fun z => S.live p z h
theorem SR.bnone (S : SR K m B H l) {p : Addr} (h : H p = none) : B p = none := S.sub.free h
theorem SR.get (S : SR K m B H l) {n : Nat} {o : O} (h : l[n]? = some o) : ∃ a, m[n]? = some a ∧ OR K m B H a o ∧ (o ≠ .gone → B a = none) := by
  have hl : n < m.length := by rw [S.len]; exact (List.getElem?_eq_some_iff.mp h).1
  exact ⟨m[n], by simp [hl], S.obj n _ o (by simp [hl]) h⟩
/-- what stands at another own number is another object -/
theorem SR.ne (S : SR K m B H l) {i j : Nat} {a b : Addr} (hi : m[i]? = some a) (hj : m[j]? = some b) (h : i ≠ j) : a ≠ b := fun e => by
  subst e
  obtain ⟨h1, e1⟩ := List.getElem?_eq_some_iff.mp hi
  obtain ⟨h2, e2⟩ := List.getElem?_eq_some_iff.mp hj
  exact h ((List.getElem_inj S.nd).mp (e1.trans e2.symm))
/-- a new own object -/
theorem SR.alloc (S : SR K m B H l) {p : Addr} {u : HO} {o : O} (hp : H p = none) (ho : OR K (m ++ [p]) B (upd H p u) p o) :
    SR K (m ++ [p]) B (upd H p u) (l ++ [o]) ∧ Step m B H (m ++ [p]) B (upd H p u) ∧ VR K (m ++ [p]) B (.ref p) (.own l.length) := by
  have hn := S.notin hp
  refine ⟨⟨S.sub.trans (same_new hp), by simp [S.len], ?_, fun a ha => ?_, fun n a x h1 h2 => ?_⟩, ⟨Same.refl _, ⟨_, rfl⟩, fun a o' h _ => same_new hp a o' h, fun a h => upd_live h, fun a _ h _ => h, fun a ha => ?_⟩, ⟨p, rfl, ?_⟩⟩
  · rw [List.nodup_append]
    exact ⟨S.nd, by simp, fun a ha b hb => by
      have : b = p := by simpa using hb
      subst this
      intro e; subst e; exact hn ha⟩
  · rcases List.mem_append.mp ha with z | z
    · exact upd_live (S.live a z)
    · have : a = p := by simpa using z
      subst this; rw [upd_same]; simp
  · by_cases hlt : n < m.length
    · rw [List.getElem?_append_left hlt] at h1
      rw [List.getElem?_append_left (by rw [← S.len]; exact hlt)] at h2
      obtain ⟨r, b⟩ := S.obj n a x h1 h2
      refine ⟨r.up (Same.refl _) ⟨_, rfl⟩ fun u' e => same_new hp a u' e, b⟩
    · have hm : n = m.length := by
        have := (List.getElem?_eq_some_iff.mp h1).1
        rw [List.length_append] at this
        simp at this
        omega
      subst hm
      have e1 : a = p := by
        rw [List.getElem?_append_right (Nat.le_refl _)] at h1
        simpa using h1.symm
      have e2 : x = o := by
        rw [S.len, List.getElem?_append_right (Nat.le_refl _)] at h2
        simpa using h2.symm
      subst e1 e2
      exact ⟨ho, fun _ => S.bnone hp⟩
  · rcases List.mem_append.mp ha with z | z
    · exact .inl z
    · have : a = p := by simpa using z
      subst this; exact .inr hp
  · rw [← S.len]
    simp
/-- a new frozen object -/
theorem SR.allocF (S : SR K m B H l) {p : Addr} {u : HO} (hp : H p = none) : SR K m (upd B p u) (upd H p u) l ∧ Step m B H m (upd B p u) (upd H p u) ∧ upd B p u p = some u := by
  have hn := S.notin hp
  have hb := S.bnone hp
  refine ⟨⟨fun a o e => ?_, S.len, S.nd, fun a ha => upd_live (S.live a ha), fun n a o h1 h2 => ?_⟩, ⟨same_new hb, ⟨[], by simp⟩, fun a o h _ => same_new hp a o h, fun a h => upd_live h, fun a h1 h2 _ => ?_, fun a h => .inl h⟩, upd_same⟩
  · by_cases z : a = p
    · subst z; rw [upd_same] at e ⊢; exact e
    · rw [upd_ne z] at e ⊢; exact S.sub a o e
  · obtain ⟨r, b⟩ := S.obj n a o h1 h2
    have hne : a ≠ p := fun z => hn (z ▸ List.mem_of_getElem? h1)
    exact ⟨r.up (same_new hb) ⟨[], by simp⟩ fun u' e => same_new hp a u' e, fun q => by rw [upd_ne hne]; exact b q⟩
  · have hne : a ≠ p := fun z => h1 (z ▸ hp)
    rw [upd_ne hne]; exact h2
/-- an own object is written -/
theorem SR.write (S : SR K m B H l) {n : Nat} {a : Addr} {u : HO} {o : O} (hn : m[n]? = some a) (hb : B a = none) (ho : OR K m B (upd H a u) a o) :
    SR K m B (upd H a u) (l.set n o) ∧ Step m B H m B (upd H a u) := by
  have ha : a ∈ m := List.mem_of_getElem? hn
  refine ⟨⟨fun b x e => ?_, by simp [S.len], S.nd, fun b hb => upd_live (S.live b hb), fun j b x h1 h2 => ?_⟩, ⟨Same.refl _, ⟨[], by simp⟩, fun b x h hm => ?_, fun b h => upd_live h, fun _ _ h _ => h, fun _ h => .inl h⟩⟩
  · have hne : b ≠ a := fun z => by subst z; rw [hb] at e; cases e
    rw [upd_ne hne]; exact S.sub b x e
  · by_cases hj : n = j
    · subst hj
      rw [hn] at h1; cases h1
      have hl : n < l.length := by rw [← S.len]; exact (List.getElem?_eq_some_iff.mp hn).1
      rw [List.getElem?_set_self hl] at h2
      cases h2
      exact ⟨ho, fun _ => hb⟩
    · rw [List.getElem?_set_ne hj] at h2
      obtain ⟨r, q⟩ := S.obj j b x h1 h2
      have hne : b ≠ a := fun z => S.ne hn h1 hj z.symm
      exact ⟨r.up (Same.refl _) ⟨[], by simp⟩ fun u' e => by rw [upd_ne hne]; exact e, q⟩
  · have hne : b ≠ a := fun z => hm (z ▸ ha)
    rw [upd_ne hne]; exact h
end
end L3

/-! L3b: the judgements, and the rules for names, operators, arguments, statements, loops, comprehensions, calls -/
namespace L3
open PySem L2

def Post (K : PySem.W.Frag) (m : List Addr) (B H : Hp) (R : D → List O → Prop) (Q : VK) : Prop :=
  ∀ v m' B' H' d l', Step m B H m' B' H' → SR K m' B' H' l' → VR K m' B' v d → R d l' → Q v H'
def EvS (K : PySem.W.Frag) (te : TE) (ρ : List (Option D)) (l : List O) (R : D → List O → Prop) : Prop :=
  ∀ m B H σ, SR K m B H l → ER K m B σ ρ → ∀ Q : VK, Post K m B H R Q → te σ H Q
def EvT (K : PySem.W.Frag) (tt : TT) (ρ : List (Option D)) (l : List O) (R : Bool → List O → Prop) : Prop :=
  ∀ m B H σ, SR K m B H l → ER K m B σ ρ → ∀ Q : Bool → Hp → Prop, (∀ m' B' H' b l', Step m B H m' B' H' → SR K m' B' H' l' → R b l' → Q b H') → tt σ H Q
def EvA (K : PySem.W.Frag) (ta : TA) (ρ : List (Option D)) (l : List O) (R : List D → List O → Prop) : Prop :=
  ∀ m B H σ, SR K m B H l → ER K m B σ ρ → ∀ Q : List V → Hp → Prop, (∀ vs m' B' H' ds l', Step m B H m' B' H' → SR K m' B' H' l' → Paired (VR K m' B') vs ds → R ds l' → Q vs H') → ta σ H Q
def EvO (K : PySem.W.Frag) (to : TO) (ρ : List (Option D)) (l : List O) (R : Option Int → List O → Prop) : Prop :=
  ∀ m B H σ, SR K m B H l → ER K m B σ ρ → ∀ Q : Option Int → Hp → Prop, (∀ m' B' H' b l', Step m B H m' B' H' → SR K m' B' H' l' → R b l' → Q b H') → to σ H Q
def OpS (K : PySem.W.Frag) (r : R2) (x y : D) (l : List O) (R : D → List O → Prop) : Prop :=
  ∀ m B H vx vy, SR K m B H l → VR K m B vx x → VR K m B vy y → ∀ Q : VK, Post K m B H R Q → r vx vy H Q
def UnS (K : PySem.W.Frag) (r : V → Hp → VK → Prop) (x : D) (l : List O) (R : D → List O → Prop) : Prop :=
  ∀ m B H vx, SR K m B H l → VR K m B vx x → ∀ Q : VK, Post K m B H R Q → r vx H Q
def CaS (K : PySem.W.Frag) (r : List V → Hp → VK → Prop) (ds : List D) (l : List O) (R : D → List O → Prop) : Prop :=
  ∀ m B H vs, SR K m B H l → Paired (VR K m B) vs ds → ∀ Q : VK, Post K m B H R Q → r vs H Q
def MeS (K : PySem.W.Frag) (r : V → List V → Hp → VK → Prop) (x : D) (ds : List D) (l : List O) (R : D → List O → Prop) : Prop :=
  ∀ m B H vx vs, SR K m B H l → VR K m B vx x → Paired (VR K m B) vs ds → ∀ Q : VK, Post K m B H R Q → r vx vs H Q
def AsS (K : PySem.W.Frag) (g : TG) (d : D) (ρ : List (Option D)) (l : List O) (R : List (Option D) → List O → Prop) : Prop :=
  ∀ m B H σ v, SR K m B H l → ER K m B σ ρ → VR K m B v d → ∀ Q : St → Hp → Prop, (∀ σ' ρ' m' B' H' l', Step m B H m' B' H' → SR K m' B' H' l' → ER K m' B' σ' ρ' → R ρ' l' → Q σ' H') → g v σ H Q
def AssS (K : PySem.W.Frag) (g : TGs) (ds : List D) (ρ : List (Option D)) (l : List O) (R : List (Option D) → List O → Prop) : Prop :=
  ∀ m B H σ vs, SR K m B H l → ER K m B σ ρ → Paired (VR K m B) vs ds → ∀ Q : St → Hp → Prop, (∀ σ' ρ' m' B' H' l', Step m B H m' B' H' → SR K m' B' H' l' → ER K m' B' σ' ρ' → R ρ' l' → Q σ' H') → g vs σ H Q
structure E3 where
  nx : List (Option D) → List O → Prop
  rt : D → List O → Prop
  bk : List (Option D) → List O → Prop := fun _ _ => False
  ct : List (Option D) → List O → Prop := fun _ _ => False
structure Fin3 (K : PySem.W.Frag) (m : List Addr) (B H : Hp) (E : E3) (Dn : Ends) : Prop where
  nx : ∀ σ' ρ' m' B' H' l', Step m B H m' B' H' → SR K m' B' H' l' → ER K m' B' σ' ρ' → E.nx ρ' l' → Dn.nx σ' H'
  rt : ∀ v m' B' H' d l', Step m B H m' B' H' → SR K m' B' H' l' → VR K m' B' v d → E.rt d l' → Dn.rt v H'
  bk : ∀ σ' ρ' m' B' H' l', Step m B H m' B' H' → SR K m' B' H' l' → ER K m' B' σ' ρ' → E.bk ρ' l' → Dn.bk σ' H'
  ct : ∀ σ' ρ' m' B' H' l', Step m B H m' B' H' → SR K m' B' H' l' → ER K m' B' σ' ρ' → E.ct ρ' l' → Dn.ct σ' H'
def ExS (K : PySem.W.Frag) (ts : TS) (ρ : List (Option D)) (l : List O) (E : E3) : Prop :=
  ∀ m B H σ, SR K m B H l → ER K m B σ ρ → ∀ Dn : Ends, Fin3 K m B H E Dn → ts Dn σ H

section
variable {K : PySem.W.Frag} {m m' m2 : List Addr} {B B' B2 H H' H2 : Hp} {l : List O} {σ : St} {ρ : List (Option D)} {R R' : D → List O → Prop} {E E' : E3} {ta tb te tc : TE} {tt tu : TT} {t u : TS} {ty tz : TA}
theorem Post.step {Q : VK} (s : Step m B H m' B' H') (h : Post K m B H R Q) : Post K m' B' H' R Q := fun v m2 B2 H2 d l2 s2 S r q => h v m2 B2 H2 d l2 (s.trans s2) S r q
theorem Fin3.step {Dn : Ends} (s : Step m B H m' B' H') (h : Fin3 K m B H E Dn) : Fin3 K m' B' H' E Dn :=
  ⟨fun a b c d e f s2 => h.nx a b c d e f (s.trans s2), fun a b c d e f s2 => h.rt a b c d e f (s.trans s2), fun a b c d e f s2 => h.bk a b c d e f (s.trans s2), fun a b c d e f s2 => h.ct a b c d e f (s.trans s2)⟩
theorem EvS.imp (h : EvS K te ρ l R) (hR : ∀ d l, R d l → R' d l) : EvS K te ρ l R' := fun m B H σ S e Q q => h m B H σ S e Q fun v m' B' H' d l' s S' r z => q v m' B' H' d l' s S' r (hR _ _ z)
theorem EvT.imp {R R' : Bool → List O → Prop} (h : EvT K tt ρ l R) (hR : ∀ d l, R d l → R' d l) : EvT K tt ρ l R' := fun m B H σ S e Q q => h m B H σ S e Q fun m' B' H' d l' s S' z => q m' B' H' d l' s S' (hR _ _ z)
theorem ExS.imp (h : ExS K t ρ l E) (h1 : ∀ a b, E.nx a b → E'.nx a b) (h2 : ∀ a b, E.rt a b → E'.rt a b) (h3 : ∀ a b, E.bk a b → E'.bk a b) (h4 : ∀ a b, E.ct a b → E'.ct a b) : ExS K t ρ l E' :=
  fun m B H σ S e Dn F => h m B H σ S e Dn ⟨fun a b c d x f s S e z => F.nx a b c d x f s S e (h1 _ _ z), fun a b c d x f s S e z => F.rt a b c d x f s S e (h2 _ _ z), fun a b c d x f s S e z => F.bk a b c d x f s S e (h3 _ _ z), fun a b c d x f s S e z => F.ct a b c d x f s S e (h4 _ _ z)⟩

/-! ### names, constants -/
theorem e_var {i : Nat} {d : D} (h : ρ[i]? = some (some d)) (r : R d l) : EvS K (tVar i) ρ l R := fun m B H σ S e Q q => by
  obtain ⟨v, e1, hv⟩ := e.2 i d h
  exact ⟨v, e1, q v m B H d l (Step.refl _ _ _) S hv r⟩
theorem e_cst {v : V} {d : D} (h : ∀ m B, VR K m B v d) (r : R d l) : EvS K (tC v) ρ l R := fun m B H σ S e Q q => q v m B H d l (Step.refl _ _ _) S (h m B) r
theorem e_int {i : Int} (r : R (.f (.int i)) l) : EvS K (tC (.int i)) ρ l R := e_cst (d := .f (.int i)) (fun _ _ => FR.int i) r
theorem e_str {x : Str} (r : R (.f (.str x)) l) : EvS K (tC (.str x)) ρ l R := e_cst (d := .f (.str x)) (fun _ _ => FR.str x) r
theorem e_bl {b : Bool} (r : R (.f (.bool b)) l) : EvS K (tC (.bl b)) ρ l R := e_cst (d := .f (.bool b)) (fun _ _ => FR.bl b) r
theorem e_non (r : R (.f .none) l) : EvS K (tC .non) ρ l R := e_cst (d := .f .none) (fun _ _ => FR.non) r

/-! ### operators, tests -/
theorem e_op {r : R2} (h : EvS K ta ρ l fun x l1 => EvS K tb ρ l1 fun y l2 => OpS K r x y l2 R) : EvS K (tOp r ta tb) ρ l R := fun m B H σ S e Q q => by
  refine h m B H σ S e _ fun vx m1 B1 H1 x l1 s1 S1 r1 h1 => ?_
  refine h1 m1 B1 H1 σ S1 (e.step s1) _ fun vy m2 B2 H2 y l2 s2 S2 r2 h2 => ?_
  exact h2 m2 B2 H2 vx vy S2 (r1.step s2) r2 Q (q.step (s1.trans s2))
theorem e_un {r : V → Hp → VK → Prop} (h : EvS K ta ρ l fun x l1 => UnS K r x l1 R) : EvS K (tUn r ta) ρ l R := fun m B H σ S e Q q => by
  refine h m B H σ S e _ fun vx m1 B1 H1 x l1 s1 S1 r1 h1 => ?_
  exact h1 m1 B1 H1 vx S1 r1 Q (q.step s1)
theorem e_tIf (h : EvT K tt ρ l fun b l1 => if b = true then EvS K ta ρ l1 R else EvS K tb ρ l1 R) : EvS K (tIf tt ta tb) ρ l R := fun m B H σ S e Q q => by
  refine h m B H σ S e _ fun m1 B1 H1 b l1 s1 S1 h1 => ?_
  cases b with
  | true => exact h1 m1 B1 H1 σ S1 (e.step s1) Q (q.step s1)
  | false => exact h1 m1 B1 H1 σ S1 (e.step s1) Q (q.step s1)
theorem bl_of {v : V} {b : Bool} (h : VR K m B v (.f (.bool b))) : v = .bl b := by cases h; rfl
theorem int_of {v : V} {b : Int} (h : VR K m B v (.f (.int b))) : v = .int b := by cases h; rfl
theorem str_of {v : V} {b : Str} (h : VR K m B v (.f (.str b))) : v = .str b := by cases h; rfl
theorem non_of {v : V} (h : VR K m B v (.f .none)) : v = .non := by cases h; rfl
theorem t_test {R : Bool → List O → Prop} (h : EvS K te ρ l fun d l1 => ∃ b, d = .f (.bool b) ∧ R b l1) : EvT K (tTest te) ρ l R := fun m B H σ S e Q q => by
  refine h m B H σ S e _ fun v m1 B1 H1 d l1 s1 S1 r1 h1 => ?_
  obtain ⟨b, rfl, h1⟩ := h1
  exact ⟨b, bl_of r1, q m1 B1 H1 b l1 s1 S1 h1⟩
theorem t_B {R : Bool → List O → Prop} (h : EvS K te ρ l fun d l1 => ∃ b, d = .f (.bool b) ∧ R b l1) : EvT K (tB te) ρ l R := t_test h
theorem t_and {R : Bool → List O → Prop} (h : EvT K tt ρ l fun b l1 => if b = true then EvT K tu ρ l1 R else R false l1) : EvT K (tAnd tt tu) ρ l R := fun m B H σ S e Q q => by
  refine h m B H σ S e _ fun m1 B1 H1 b l1 s1 S1 h1 => ?_
  cases b with
  | true => exact h1 m1 B1 H1 σ S1 (e.step s1) Q fun m2 B2 H2 c l2 s2 S2 z => q m2 B2 H2 c l2 (s1.trans s2) S2 z
  | false => exact q m1 B1 H1 false l1 s1 S1 h1
theorem t_or {R : Bool → List O → Prop} (h : EvT K tt ρ l fun b l1 => if b = true then R true l1 else EvT K tu ρ l1 R) : EvT K (tOr tt tu) ρ l R := fun m B H σ S e Q q => by
  refine h m B H σ S e _ fun m1 B1 H1 b l1 s1 S1 h1 => ?_
  cases b with
  | false => exact h1 m1 B1 H1 σ S1 (e.step s1) Q fun m2 B2 H2 c l2 s2 S2 z => q m2 B2 H2 c l2 (s1.trans s2) S2 z
  | true => exact q m1 B1 H1 true l1 s1 S1 h1
theorem t_not {R : Bool → List O → Prop} (h : EvT K tt ρ l fun b l1 => R (!b) l1) : EvT K (tNot tt) ρ l R := fun m B H σ S e Q q => by
  refine h m B H σ S e _ fun m1 B1 H1 b l1 s1 S1 h1 => ?_
  exact q m1 B1 H1 _ l1 s1 S1 h1
theorem e_andV (h : EvS K ta ρ l fun d l1 => ∃ b, d = .f (.bool b) ∧ if b = true then EvS K tb ρ l1 R else R (.f (.bool false)) l1) : EvS K (tAndV ta tb) ρ l R := fun m B H σ S e Q q => by
  refine h m B H σ S e _ fun v m1 B1 H1 d l1 s1 S1 r1 h1 => ?_
  obtain ⟨b, rfl, h1⟩ := h1
  refine ⟨b, bl_of r1, ?_⟩
  cases b with
  | true => exact h1 m1 B1 H1 σ S1 (e.step s1) Q (q.step s1)
  | false => exact q _ m1 B1 H1 (.f (.bool false)) l1 s1 S1 (FR.bl false) h1
theorem e_orV (h : EvS K ta ρ l fun d l1 => ∃ b, d = .f (.bool b) ∧ if b = true then R (.f (.bool true)) l1 else EvS K tb ρ l1 R) : EvS K (tOrV ta tb) ρ l R := fun m B H σ S e Q q => by
  refine h m B H σ S e _ fun v m1 B1 H1 d l1 s1 S1 r1 h1 => ?_
  obtain ⟨b, rfl, h1⟩ := h1
  refine ⟨b, bl_of r1, ?_⟩
  cases b with
  | false => exact h1 m1 B1 H1 σ S1 (e.step s1) Q (q.step s1)
  | true => exact q _ m1 B1 H1 (.f (.bool true)) l1 s1 S1 (FR.bl true) h1
theorem e_notV (h : EvS K ta ρ l fun d l1 => ∃ b, d = .f (.bool b) ∧ R (.f (.bool (!b))) l1) : EvS K (tNotV ta) ρ l R := fun m B H σ S e Q q => by
  refine h m B H σ S e _ fun v m1 B1 H1 d l1 s1 S1 r1 h1 => ?_
  obtain ⟨b, rfl, h1⟩ := h1
  exact ⟨b, bl_of r1, q _ m1 B1 H1 (.f (.bool _)) l1 s1 S1 (FR.bl _) h1⟩

/-! ### arguments, displays -/
theorem a_nil {R : List D → List O → Prop} (r : R [] l) : EvA K tNil ρ l R := fun m B H σ S e Q q => q [] m B H [] l (Step.refl _ _ _) S .nil r
theorem a_cons {R : List D → List O → Prop} (h : EvS K te ρ l fun x l1 => EvA K ty ρ l1 fun xs l2 => R (x :: xs) l2) : EvA K (tCons te ty) ρ l R := fun m B H σ S e Q q => by
  refine h m B H σ S e _ fun vx m1 B1 H1 x l1 s1 S1 r1 h1 => ?_
  refine h1 m1 B1 H1 σ S1 (e.step s1) _ fun vs m2 B2 H2 xs l2 s2 S2 r2 h2 => ?_
  exact q (vx :: vs) m2 B2 H2 (x :: xs) l2 (s1.trans s2) S2 (.cons (r1.step s2) r2) h2
theorem frs_of : ∀ {vs : List V} {fs : List PyData}, Paired (VR K m B) vs (fs.map D.f) → FRs K B vs fs
  | _, [], h => by cases h; exact .nil
  | _, _ :: _, h => by
    cases h with
    | cons h1 h2 => exact .cons h1 (frs_of h2)
theorem of_frs : ∀ {vs : List V} {fs : List PyData}, FRs K B vs fs → Paired (VR K m B) vs (fs.map D.f)
  | _, [], h => by cases h; exact .nil
  | _, _ :: _, h => by
    cases h with
    | cons h1 h2 => exact .cons h1 (of_frs h2)
theorem pair_len {α β : Type} {R : α → β → Prop} {xs : List α} {ys : List β} (h : Paired R xs ys) : xs.length = ys.length := h.length
theorem small {n : Nat} (h : n ≤ 100000) : n ≤ sizeLine := Nat.le_trans h (by decide)
theorem small' {n : Nat} (h : n ≤ 100000) : n < sizeLine := Nat.lt_of_le_of_lt h (by decide)
def unF : List D → Option (List PyData)
  | [] => some []
  | .f d :: r => match unF r with
    | some fs => some (d :: fs)
    | none => none
  | _ :: _ => none
theorem unF_eq : ∀ {ds : List D} {fs : List PyData}, unF ds = some fs → ds = fs.map D.f
  | [], fs, h => by
    have e : [] = fs := Option.some.inj h
    subst e; rfl
  | .f d :: r, fs, h => by
    cases e : unF r with
    | none =>
      simp only [unF, e] at h
      cases h
    | some gs =>
      simp only [unF, e] at h
      have e2 : d :: gs = fs := Option.some.inj h
      subst e2
      rw [List.map_cons, ← unF_eq e]
  | .own _ :: _, _, h => by cases h
  | .sq _ :: _, _, h => by cases h
/-- a tuple of data -/
theorem e_tup (h : EvA K ty ρ l fun ds l1 => ∃ fs : List PyData, unF ds = some fs ∧ fs.length ≤ 100000 ∧ R (.f (.tuple fs)) l1) : EvS K (tTup ty) ρ l R := fun m B H σ S e Q q => by
  refine h m B H σ S e _ fun vs m1 B1 H1 ds l1 s1 S1 r1 h1 => ?_
  obtain ⟨fs, hun, hl, h1⟩ := h1
  have eds := unF_eq hun
  subst eds
  have hf := frs_of r1
  refine ⟨small (by rw [hf.length]; exact hl), fun p hp => ?_⟩
  obtain ⟨S2, s2, e2⟩ := S1.allocF (u := .tup vs) hp
  exact q _ m1 _ _ (.f (.tuple fs)) l1 (s1.trans s2) S2 (FR.tup (.inl e2) (FRs.same s2.sub fs vs hf)) h1
/-- a tuple with references -/
theorem e_tpr (h : EvA K ty ρ l fun ds l1 => ds.length ≤ 100000 ∧ R (.own l1.length) (l1 ++ [.tpr ds])) : EvS K (tTup ty) ρ l R := fun m B H σ S e Q q => by
  refine h m B H σ S e _ fun vs m1 B1 H1 ds l1 s1 S1 r1 h1 => ?_
  obtain ⟨hl, h1⟩ := h1
  refine ⟨small (by rw [pair_len r1]; exact hl), fun p hp => ?_⟩
  obtain ⟨S2, s2, r2⟩ := S1.alloc (u := .tup vs) (o := .tpr ds) hp ⟨vs, upd_same, Paired.up r1 fun _ _ z => z.up (Same.refl _) ⟨_, rfl⟩⟩
  exact q _ _ _ _ _ _ (s1.trans s2) S2 r2 h1
/-- a list: an own object -/
theorem e_lst (h : EvA K ty ρ l fun ds l1 => ∃ fs : List PyData, unF ds = some fs ∧ fs.length ≤ 100000 ∧ R (.own l1.length) (l1 ++ [.lst fs])) : EvS K (tLst ty) ρ l R := fun m B H σ S e Q q => by
  refine h m B H σ S e _ fun vs m1 B1 H1 ds l1 s1 S1 r1 h1 => ?_
  obtain ⟨fs, hun, hl, h1⟩ := h1
  have eds := unF_eq hun
  subst eds
  have hf := frs_of r1
  refine ⟨small (by rw [hf.length]; exact hl), fun p hp => ?_⟩
  obtain ⟨S2, s2, r2⟩ := S1.alloc (u := .lst vs) (o := .lst fs) hp ⟨vs, upd_same, hf⟩
  exact q _ _ _ _ _ _ (s1.trans s2) S2 r2 h1
/-- a list that stays as it is -/
theorem e_lstF (h : EvA K ty ρ l fun ds l1 => ∃ fs : List PyData, unF ds = some fs ∧ fs.length ≤ 100000 ∧ R (.f (.list fs)) l1) : EvS K (tLst ty) ρ l R := fun m B H σ S e Q q => by
  refine h m B H σ S e _ fun vs m1 B1 H1 ds l1 s1 S1 r1 h1 => ?_
  obtain ⟨fs, hun, hl, h1⟩ := h1
  have eds := unF_eq hun
  subst eds
  have hf := frs_of r1
  refine ⟨small (by rw [hf.length]; exact hl), fun p hp => ?_⟩
  obtain ⟨S2, s2, e2⟩ := S1.allocF (u := .lst vs) hp
  exact q _ m1 _ _ (.f (.list fs)) l1 (s1.trans s2) S2 (FR.lst e2 (FRs.same s2.sub fs vs hf)) h1
/-- a list with references -/
theorem e_rfs (h : EvA K ty ρ l fun ds l1 => ds.length ≤ 100000 ∧ R (.own l1.length) (l1 ++ [.rfs ds])) : EvS K (tLst ty) ρ l R := fun m B H σ S e Q q => by
  refine h m B H σ S e _ fun vs m1 B1 H1 ds l1 s1 S1 r1 h1 => ?_
  obtain ⟨hl, h1⟩ := h1
  refine ⟨small (by rw [pair_len r1]; exact hl), fun p hp => ?_⟩
  obtain ⟨S2, s2, r2⟩ := S1.alloc (u := .lst vs) (o := .rfs ds) hp ⟨vs, upd_same, Paired.up r1 fun _ _ z => z.up (Same.refl _) ⟨_, rfl⟩⟩
  exact q _ _ _ _ _ _ (s1.trans s2) S2 r2 h1
theorem e_dK (r : R (.own l.length) (l ++ [.dct []])) : EvS K tDNewK ρ l R := fun m B H σ S e Q q => fun p hp => by
  obtain ⟨S2, s2, r2⟩ := S.alloc (u := .dK []) (o := .dct []) hp ⟨[], upd_same, .nil⟩
  exact q _ _ _ _ _ _ s2 S2 r2 r
theorem e_dT (r : R (.own l.length) (l ++ [.dctT []])) : EvS K tDNewT ρ l R := fun m B H σ S e Q q => fun p hp => by
  obtain ⟨S2, s2, r2⟩ := S.alloc (u := .dT []) (o := .dctT []) hp ⟨[], upd_same, .nil⟩
  exact q _ _ _ _ _ _ s2 S2 r2 r
theorem e_cb {r : List V → Hp → VK → Prop} (h : EvA K ty ρ l fun ds l1 => CaS K r ds l1 R) : EvS K (tCB r ty) ρ l R := fun m B H σ S e Q q => by
  refine h m B H σ S e _ fun vs m1 B1 H1 ds l1 s1 S1 r1 h1 => ?_
  exact h1 m1 B1 H1 vs S1 r1 Q (q.step s1)
theorem o_none {R : Option Int → List O → Prop} (r : R none l) : EvO K tNoPart ρ l R := fun m B H σ S e Q q => q m B H none l (Step.refl _ _ _) S r
theorem o_some {R : Option Int → List O → Prop} (h : EvS K te ρ l fun d l1 => ∃ i, d = .f (.int i) ∧ R (some i) l1) : EvO K (tPart te) ρ l R := fun m B H σ S e Q q => by
  refine h m B H σ S e _ fun v m1 B1 H1 d l1 s1 S1 r1 h1 => ?_
  obtain ⟨i, rfl, h1⟩ := h1
  exact ⟨i, int_of r1, q m1 B1 H1 _ l1 s1 S1 h1⟩

/-! ### a result kept, what was made on the way forgotten -/
def D.under (k : Nat) : D → Prop
  | .own n => n < k
  | _ => True
def O.under (k : Nat) : O → Prop
  | .rfs ds => ∀ d ∈ ds, d.under k
  | .tpr ds => ∀ d ∈ ds, d.under k
  | .ins _ fs => ∀ p ∈ fs, p.2.under k
  | _ => True
theorem VR.cut {k : Nat} {v : V} {d : D} (h : VR K m B v d) (hb : d.under k) : VR K (m.take k) B v d := by
  cases d with
  | f d => exact h
  | own n =>
    obtain ⟨a, e, z⟩ := h
    refine ⟨a, e, ?_⟩
    rw [List.getElem?_take_of_lt hb]
    exact z
  | sq s => exact h
theorem Paired.upm {α β : Type} {R R' : α → β → Prop} : ∀ {xs : List α} {ys : List β}, Paired R xs ys → (∀ x y, y ∈ ys → R x y → R' x y) → Paired R' xs ys
  | _, _, .nil, _ => .nil
  | _, _, .cons h t, f => .cons (f _ _ List.mem_cons_self h) (Paired.upm t fun x y hy => f x y (List.mem_cons_of_mem _ hy))
theorem OR.cut {k : Nat} {a : Addr} {o : O} (h : OR K m B H a o) (hb : o.under k) : OR K (m.take k) B H a o := by
  cases o with
  | lst ds => exact h
  | rfs ds => obtain ⟨xs, e, r⟩ := h; exact ⟨xs, e, Paired.upm r fun x y hy z => z.cut (hb y hy)⟩
  | tpr ds => obtain ⟨xs, e, r⟩ := h; exact ⟨xs, e, Paired.upm r fun x y hy z => z.cut (hb y hy)⟩
  | dct kvs => exact h
  | dctT kvs => exact h
  | ins C fs => obtain ⟨dx, gs, e, r⟩ := h; exact ⟨dx, gs, e, Paired.upm r fun x y hy z => ⟨z.1, z.2.cut (hb y hy)⟩⟩
  | gone => trivial
theorem SR.cut (S : SR K m B H l) (k : Nat) (hb : ∀ o ∈ l.take k, o.under k) : SR K (m.take k) B H (l.take k) := by
  refine ⟨S.sub, by simp [S.len], S.nd.sublist (List.take_sublist _ _), fun a ha => S.live a (List.mem_of_mem_take ha), fun n a o h1 h2 => ?_⟩
  have hn : n < k := by
    have := (List.getElem?_eq_some_iff.mp h1).1
    rw [List.length_take] at this
    omega
  have ho := hb o (List.mem_of_getElem? h2)
  rw [List.getElem?_take_of_lt hn] at h1 h2
  obtain ⟨r, q⟩ := S.obj n a o h1 h2
  exact ⟨r.cut ho, q⟩
theorem Step.cut (s : Step m B H m' B' H') (S : SR K m' B' H' l) {k : Nat} (hk : m.length ≤ k) : Step m B H (m'.take k) B' H' := by
  refine ⟨s.sub, ?_, s.keep, s.live, s.sep, fun a ha => s.new a (List.mem_of_mem_take ha)⟩
  obtain ⟨t, rfl⟩ := s.pre
  exact ⟨t.take (k - m.length), by rw [List.take_append, List.take_of_length_le hk]⟩
theorem e_cut (k : Nat) (hk : l.length ≤ k) (h : EvS K te ρ l fun d l1 => d.under k ∧ (∀ o ∈ l1.take k, o.under k) ∧ R d (l1.take k)) : EvS K te ρ l R := fun m B H σ S e Q q => by
  refine h m B H σ S e _ fun v m1 B1 H1 d l1 s1 S1 r1 ⟨hd, hb, h1⟩ => ?_
  exact q v _ B1 H1 d _ (s1.cut S1 (by rw [S.len]; exact hk)) (S1.cut k hb) (r1.cut hd) h1
theorem t_cut {R : Bool → List O → Prop} (k : Nat) (hk : l.length ≤ k) (h : EvT K tt ρ l fun d l1 => (∀ o ∈ l1.take k, o.under k) ∧ R d (l1.take k)) : EvT K tt ρ l R := fun m B H σ S e Q q => by
  refine h m B H σ S e _ fun m1 B1 H1 d l1 s1 S1 ⟨hb, h1⟩ => ?_
  exact q _ B1 H1 d _ (s1.cut S1 (by rw [S.len]; exact hk)) (S1.cut k hb) h1
end
end L3

/-! L3c: targets, statements, loops, comprehensions, calls of defs, the promise of a def -/
namespace L3
open PySem L2
section
variable {K : PySem.W.Frag} {m m' m2 : List Addr} {B B' B2 H H' H2 : Hp} {l : List O} {σ : St} {ρ : List (Option D)} {R R' : D → List O → Prop} {E E' : E3} {ta tb te tc : TE} {tt tu : TT} {t u : TS} {ty tz : TA} {g : TG} {gs : TGs}

/-! ### targets -/
theorem g_name {i : Nat} {d : D} {R : List (Option D) → List O → Prop} (r : R (ρ.set i (some d)) l) : AsS K (gName i) d ρ l R := fun m B H σ v S e hv Q q =>
  q _ _ m B H l (Step.refl _ _ _) S (e.set i hv) r
theorem g_nil {R : List (Option D) → List O → Prop} (r : R ρ l) : AssS K gNil [] ρ l R := fun m B H σ vs S e hv Q q => by
  cases hv
  exact ⟨rfl, q σ ρ m B H l (Step.refl _ _ _) S e r⟩
theorem g_cons {d : D} {ds : List D} {R : List (Option D) → List O → Prop} (h : AsS K g d ρ l fun ρ1 l1 => AssS K gs ds ρ1 l1 R) : AssS K (gCons g gs) (d :: ds) ρ l R := fun m B H σ vs S e hv Q q => by
  cases hv with
  | cons h1 h2 =>
    refine ⟨_, _, rfl, ?_⟩
    refine h m B H σ _ S e h1 _ fun σ1 ρ1 m1 B1 H1 l1 s1 S1 e1 z => ?_
    exact z m1 B1 H1 σ1 _ S1 e1 (Paired.up h2 fun _ _ w => w.step s1) Q fun σ2 ρ2 m2 B2 H2 l2 s2 => q σ2 ρ2 m2 B2 H2 l2 (s1.trans s2)
/-- a, b = a tuple of data -/
theorem g_tup {n : Nat} {ds : List PyData} {R : List (Option D) → List O → Prop} (hn : ds.length = n) (h : AssS K gs (ds.map D.f) ρ l R) : AsS K (gTup K n gs) (.f (.tuple ds)) ρ l R := fun m B H σ v S e hv Q q => by
  cases hv with
  | tup h1 h2 =>
    exact ⟨_, _, rfl, sqT_same S.sub h1.sq, by rw [h2.length]; exact hn, h m B H σ _ S e (of_frs h2) Q q⟩
/-- a, b = a tuple with references -/
theorem g_tpr {n k : Nat} {ds : List D} {R : List (Option D) → List O → Prop} (ho : l[k]? = some (.tpr ds)) (hn : ds.length = n) (h : AssS K gs ds ρ l R) : AsS K (gTup K n gs) (.own k) ρ l R := fun m B H σ v S e hv Q q => by
  obtain ⟨a, rfl, ha⟩ := hv
  obtain ⟨⟨xs, e1, r⟩, _⟩ := S.obj k a _ ha ho
  exact ⟨_, xs, rfl, SqT.of e1, by rw [pair_len r]; exact hn, h m B H σ _ S e r Q q⟩

/-! ### statements -/
theorem x_next (r : E.nx ρ l) : ExS K tNext ρ l E := fun m B H σ S e Dn F => F.nx σ ρ m B H l (Step.refl _ _ _) S e r
theorem x_brk (r : E.bk ρ l) : ExS K tBreak ρ l E := fun m B H σ S e Dn F => F.bk σ ρ m B H l (Step.refl _ _ _) S e r
theorem x_ct (r : E.ct ρ l) : ExS K tCont ρ l E := fun m B H σ S e Dn F => F.ct σ ρ m B H l (Step.refl _ _ _) S e r
theorem x_seq (h : ExS K t ρ l ⟨fun ρ1 l1 => ExS K u ρ1 l1 E, E.rt, E.bk, E.ct⟩) : ExS K (tSeq t u) ρ l E := fun m B H σ S e Dn F =>
  h m B H σ S e { Dn with nx := u Dn } ⟨fun σ1 ρ1 m1 B1 H1 l1 s1 S1 e1 z => z m1 B1 H1 σ1 S1 e1 Dn (F.step s1), F.rt, F.bk, F.ct⟩
theorem x_asg (h : EvS K te ρ l fun d l1 => AsS K g d ρ l1 E.nx) : ExS K (tAsg te g) ρ l E := fun m B H σ S e Dn F => by
  refine h m B H σ S e _ fun v m1 B1 H1 d l1 s1 S1 r1 h1 => ?_
  exact h1 m1 B1 H1 σ v S1 (e.step s1) r1 _ fun σ2 ρ2 m2 B2 H2 l2 s2 S2 e2 z => F.nx σ2 ρ2 m2 B2 H2 l2 (s1.trans s2) S2 e2 z
theorem x_drop (h : EvS K te ρ l fun _ l1 => E.nx ρ l1) : ExS K (tDrop te) ρ l E := fun m B H σ S e Dn F => by
  refine h m B H σ S e _ fun v m1 B1 H1 d l1 s1 S1 r1 h1 => ?_
  exact F.nx σ ρ m1 B1 H1 l1 s1 S1 (e.step s1) h1
theorem x_ret (h : EvS K te ρ l E.rt) : ExS K (tRet te) ρ l E := fun m B H σ S e Dn F =>
  h m B H σ S e _ fun v m1 B1 H1 d l1 s1 S1 r1 h1 => F.rt v m1 B1 H1 d l1 s1 S1 r1 h1
theorem x_retN (r : E.rt (.f .none) l) : ExS K tRetN ρ l E := fun m B H σ S e Dn F => F.rt .non m B H (.f .none) l (Step.refl _ _ _) S FR.non r
theorem x_if (h : EvT K tt ρ l fun b l1 => if b = true then ExS K t ρ l1 E else ExS K u ρ l1 E) : ExS K (tIfS tt t u) ρ l E := fun m B H σ S e Dn F => by
  refine h m B H σ S e _ fun m1 B1 H1 b l1 s1 S1 h1 => ?_
  cases b with
  | true => exact h1 m1 B1 H1 σ S1 (e.step s1) Dn (F.step s1)
  | false => exact h1 m1 B1 H1 σ S1 (e.step s1) Dn (F.step s1)
theorem x_aug {i : Nat} {ti : TIp} {d : D} (hd : ρ[i]? = some (some d)) (h : EvS K te ρ l fun y l1 => OpS K ti d y l1 fun z l2 => E.nx (ρ.set i (some z)) l2) : ExS K (tAug i te ti) ρ l E := fun m B H σ S e Dn F => by
  obtain ⟨v, e1, hv⟩ := e.2 i d hd
  refine ⟨v, e1, h m B H σ S e _ fun w m1 B1 H1 y l1 s1 S1 r1 h1 => ?_⟩
  exact h1 m1 B1 H1 v w S1 (hv.step s1) r1 _ fun z m2 B2 H2 dz l2 s2 S2 r2 h2 => F.nx _ _ m2 B2 H2 l2 (s1.trans s2) S2 ((e.step (s1.trans s2)).set i r2) h2
theorem x_par {i j : Nat} (h : EvA K ty ρ l fun ds l1 => ∃ x y, ds = [x, y] ∧ E.nx ((ρ.set i (some x)).set j (some y)) l1) : ExS K (tPar i j ty) ρ l E := fun m B H σ S e Dn F => by
  refine h m B H σ S e _ fun vs m1 B1 H1 ds l1 s1 S1 r1 h1 => ?_
  obtain ⟨x, y, rfl, h1⟩ := h1
  cases r1 with
  | cons r1 r2 =>
    cases r2 with
    | cons r2 r3 =>
      cases r3
      exact ⟨_, _, rfl, F.nx _ _ m1 B1 H1 l1 s1 S1 (((e.step s1).set i r1).set j r2) h1⟩
/-- forget what was made -/
theorem x_cut (k : Nat) (hk : l.length ≤ k) (h : ExS K t ρ l ⟨fun ρ1 l1 => (∀ (i : Nat) (d : D), ρ1[i]? = some (some d) → d.under k) ∧ (∀ o ∈ l1.take k, o.under k) ∧ E.nx ρ1 (l1.take k), E.rt,
    fun ρ1 l1 => (∀ (i : Nat) (d : D), ρ1[i]? = some (some d) → d.under k) ∧ (∀ o ∈ l1.take k, o.under k) ∧ E.bk ρ1 (l1.take k), fun ρ1 l1 => (∀ (i : Nat) (d : D), ρ1[i]? = some (some d) → d.under k) ∧ (∀ o ∈ l1.take k, o.under k) ∧ E.ct ρ1 (l1.take k)⟩) : ExS K t ρ l E := fun m B H σ S e Dn F => by
  have key : ∀ {σ' : St} {ρ' : List (Option D)} {m' : List Addr} {B' H' : Hp} {l' : List O}, Step m B H m' B' H' → SR K m' B' H' l' → ER K m' B' σ' ρ' → (∀ (i : Nat) (d : D), ρ'[i]? = some (some d) → d.under k) → (∀ o ∈ l'.take k, o.under k) →
      Step m B H (m'.take k) B' H' ∧ SR K (m'.take k) B' H' (l'.take k) ∧ ER K (m'.take k) B' σ' ρ' := fun s S' e' hd hb =>
    ⟨s.cut S' (by rw [S.len]; exact hk), S'.cut k hb, e'.1, fun i d z => let ⟨v, a, b⟩ := e'.2 i d z; ⟨v, a, b.cut (hd i d z)⟩⟩
  refine h m B H σ S e Dn ⟨fun σ' ρ' m' B' H' l' s S' e' ⟨hd, hb, z⟩ => ?_, F.rt, fun σ' ρ' m' B' H' l' s S' e' ⟨hd, hb, z⟩ => ?_, fun σ' ρ' m' B' H' l' s S' e' ⟨hd, hb, z⟩ => ?_⟩
  · obtain ⟨a, b, c⟩ := key s S' e' hd hb
    exact F.nx _ _ _ _ _ _ a b c z
  · obtain ⟨a, b, c⟩ := key s S' e' hd hb
    exact F.bk _ _ _ _ _ _ a b c z
  · obtain ⟨a, b, c⟩ := key s S' e' hd hb
    exact F.ct _ _ _ _ _ _ a b c z

/-! ### what is walked -/
def ItOk (K : PySem.W.Frag) (m : List Addr) (B : Hp) (J : It) (P : List O → Prop) (n : Nat) (it : Nat → D) : Prop :=
  ∀ i m' B' H l, Same B B' → (∃ t, m' = m ++ t) → SR K m' B' H l → P l → (i < n → J.go i H ∧ ∀ x H', J.yld i H x H' → ∃ B'', Step m' B' H m' B'' H' ∧ SR K m' B'' H' l ∧ VR K m' B'' x (it i)) ∧ (i = n → J.stop i H)
def EvI (K : PySem.W.Frag) (wi : TI) (ρ : List (Option D)) (l : List O) (R : (List O → Prop) → Nat → (Nat → D) → List O → Prop) : Prop :=
  ∀ m B H σ, SR K m B H l → ER K m B σ ρ → ∀ Rt : It → Hp → Prop, (∀ J m' B' H' l' P n it, Step m B H m' B' H' → SR K m' B' H' l' → ItOk K m' B' J P n it → R P n it l' → Rt J H') → wi σ H Rt
theorem ItOk.step {J : It} {P : List O → Prop} {n : Nat} {it : Nat → D} (h : ItOk K m B J P n it) (s : Step m B H m' B' H') : ItOk K m' B' J P n it := fun i m2 B2 H2 l2 a b => h i m2 B2 H2 l2 (s.sub.trans a) (by
  obtain ⟨t, rfl⟩ := b
  obtain ⟨u, rfl⟩ := s.pre
  exact ⟨u ++ t, by simp⟩)
/-- FOR: the word I over the turn, the slots, the store -/
theorem x_for {wi : TI} (h : EvI K wi ρ l fun P n it l1 => ∃ I : Nat → List (Option D) → List O → Prop, I 0 ρ l1 ∧ (∀ i ρ' l', i ≤ n → I i ρ' l' → P l') ∧
      (∀ i ρ' l', i < n → I i ρ' l' → AsS K g (it i) ρ' l' fun ρ2 l2 => ExS K t ρ2 l2 ⟨I (i + 1), E.rt, E.nx, I (i + 1)⟩) ∧ ∀ ρ' l', I n ρ' l' → E.nx ρ' l') : ExS K (tFor wi g t) ρ l E := fun m B H σ S e Dn F => by
  refine h m B H σ S e _ fun J m1 B1 H1 l1 P n it s1 S1 ok ⟨I, h0, hP, hs, hd⟩ => ?_
  refine ⟨fun i k σ' H' => k = n - i ∧ i ≤ n ∧ ∃ ρ' m' B' l', Step m1 B1 H1 m' B' H' ∧ SR K m' B' H' l' ∧ ER K m' B' σ' ρ' ∧ I i ρ' l', ⟨n, by simp, Nat.zero_le _, ρ, m1, B1, l1, Step.refl _ _ _, S1, e.step s1, h0⟩, ?_⟩
  rintro i k σ' H' ⟨rfl, hi, ρ', m', B', l', s2, S2, e2, z⟩
  have o2 := ok i m' B' H' l' s2.sub s2.pre S2 (hP i ρ' l' hi z)
  by_cases hlt : i < n
  · obtain ⟨go, yl⟩ := o2.1 hlt
    refine .inr ⟨go, fun σ3 H3 => ∃ ρ' m' B' l', Step m1 B1 H1 m' B' H3 ∧ SR K m' B' H3 l' ∧ ER K m' B' σ3 ρ' ∧ I (i + 1) ρ' l', fun σ3 H3 ⟨ρ3, m3, B3, l3, a, b, c, d⟩ => ⟨n - (i + 1), by omega, rfl, hlt, ρ3, m3, B3, l3, a, b, c, d⟩, fun x H3 hy => ?_⟩
    obtain ⟨B3, s3, S3, r3⟩ := yl x H3 hy
    refine hs i ρ' l' hlt z m' B3 H3 σ' x S3 (e2.step s3) r3 _ fun σ4 ρ4 m4 B4 H4 l4 s4 S4 e4 z4 => ?_
    have s14 : Step m1 B1 H1 m4 B4 H4 := (s2.trans s3).trans s4
    refine z4 m4 B4 H4 σ4 S4 e4 _ ⟨fun σ5 ρ5 m5 B5 H5 l5 s5 S5 e5 z5 => ?_, fun v m5 B5 H5 d l5 s5 S5 r5 z5 => ?_, fun σ5 ρ5 m5 B5 H5 l5 s5 S5 e5 z5 => ?_, fun σ5 ρ5 m5 B5 H5 l5 s5 S5 e5 z5 => ?_⟩
    · exact ⟨ρ5, m5, B5, l5, s14.trans s5, S5, e5, z5⟩
    · exact F.rt v m5 B5 H5 d l5 ((s1.trans s14).trans s5) S5 r5 z5
    · exact F.nx σ5 ρ5 m5 B5 H5 l5 ((s1.trans s14).trans s5) S5 e5 z5
    · exact ⟨ρ5, m5, B5, l5, s14.trans s5, S5, e5, z5⟩
  · have e0 : i = n := by omega
    subst e0
    exact .inl ⟨o2.2 rfl, F.nx σ' ρ' m' B' H' l' (s1.trans s2) S2 e2 (hd ρ' l' z)⟩
/-- WHILE: the word I, the measure μ -/
theorem x_while (I : List (Option D) → List O → Prop) (μ : List (Option D) → List O → Nat) (h0 : I ρ l)
    (hs : ∀ ρ' l', I ρ' l' → EvT K tt ρ' l' fun b l1 => if b = true then ExS K t ρ' l1 ⟨fun ρ2 l2 => I ρ2 l2 ∧ μ ρ2 l2 < μ ρ' l', E.rt, E.nx, fun ρ2 l2 => I ρ2 l2 ∧ μ ρ2 l2 < μ ρ' l'⟩ else E.nx ρ' l1) : ExS K (tWhile tt t) ρ l E := fun m B H σ S e Dn F => by
  refine ⟨fun k σ' H' => ∃ ρ' m' B' l', k = μ ρ' l' ∧ Step m B H m' B' H' ∧ SR K m' B' H' l' ∧ ER K m' B' σ' ρ' ∧ I ρ' l', ⟨_, ρ, m, B, l, rfl, Step.refl _ _ _, S, e, h0⟩, ?_⟩
  rintro k σ' H' ⟨ρ', m', B', l', rfl, s1, S1, e1, z⟩
  refine hs ρ' l' z m' B' H' σ' S1 e1 _ fun m2 B2 H2 b l2 s2 S2 z2 => ?_
  have s12 := s1.trans s2
  cases b with
  | false =>
    show Dn.nx σ' H2
    exact F.nx σ' ρ' m2 B2 H2 l2 s12 S2 (e1.step s2) z2
  | true =>
    refine ⟨fun σ3 H3 => ∃ ρ3 m3 B3 l3, Step m B H m3 B3 H3 ∧ SR K m3 B3 H3 l3 ∧ ER K m3 B3 σ3 ρ3 ∧ I ρ3 l3 ∧ μ ρ3 l3 < μ ρ' l', fun σ3 H3 ⟨ρ3, m3, B3, l3, a, b, c, d, lt⟩ => ⟨_, lt, ρ3, m3, B3, l3, rfl, a, b, c, d⟩, ?_⟩
    refine z2 m2 B2 H2 σ' S2 (e1.step s2) _ ⟨fun σ5 ρ5 m5 B5 H5 l5 s5 S5 e5 z5 => ?_, fun v m5 B5 H5 d l5 s5 S5 r5 z5 => ?_, fun σ5 ρ5 m5 B5 H5 l5 s5 S5 e5 z5 => ?_, fun σ5 ρ5 m5 B5 H5 l5 s5 S5 e5 z5 => ?_⟩
    · exact ⟨ρ5, m5, B5, l5, s12.trans s5, S5, e5, z5.1, z5.2⟩
    · exact F.rt v m5 B5 H5 d l5 (s12.trans s5) S5 r5 z5
    · exact F.nx σ5 ρ5 m5 B5 H5 l5 (s12.trans s5) S5 e5 z5
    · exact ⟨ρ5, m5, B5, l5, s12.trans s5, S5, e5, z5.1, z5.2⟩

/-! ### comprehensions -/
def wipe3 (ρ : List (Option D)) : List Nat → List (Option D)
  | [] => ρ
  | i :: vs => (wipe3 ρ vs).set i none
theorem wipe3_len (ρ : List (Option D)) : ∀ vs : List Nat, (wipe3 ρ vs).length = ρ.length
  | [] => rfl
  | i :: vs => by unfold wipe3; rw [List.length_set, wipe3_len ρ vs]
theorem ER.setn {i : Nat} (h : ER K m B σ ρ) : ER K m B (σ.set i none) (ρ.set i none) := by
  refine ⟨by simp [h.1], fun j d e => ?_⟩
  by_cases hij : i = j
  · subst hij
    have hl : i < ρ.length := by simpa using (List.getElem?_eq_some_iff.mp e).1
    rw [List.getElem?_set_self hl] at e
    cases e
  · rw [List.getElem?_set_ne hij] at e ⊢
    exact h.2 j d e
theorem ER.wipe (h : ER K m B σ ρ) : ∀ vs : List Nat, ER K m B (wipe σ vs) (wipe3 ρ vs)
  | [] => h
  | i :: vs => by unfold L2.wipe wipe3; exact (ER.wipe h vs).setn
/-- an object that no one here holds is written -/
theorem SR.off (S : SR K m B H l) {p : Addr} {u : HO} (hm : p ∉ m) (hb : B p = none) : SR K m B (upd H p u) l := by
  refine ⟨fun a o e => ?_, S.len, S.nd, fun a ha => upd_live (S.live a ha), fun n a o h1 h2 => ?_⟩
  · have ne : a ≠ p := fun z => by subst z; rw [hb] at e; cases e
    rw [upd_ne ne]; exact S.sub a o e
  · obtain ⟨r, b⟩ := S.obj n a o h1 h2
    have ne : a ≠ p := fun z => hm (z ▸ List.mem_of_getElem? h1)
    exact ⟨r.up (Same.refl _) ⟨[], by simp⟩ fun u' e => by rw [upd_ne ne]; exact e, b⟩
/-- an object that stands already becomes an own one -/
theorem SR.join (S : SR K m B H l) {p : Addr} {o : O} (hm : p ∉ m) (hb : B p = none) (hl : H p ≠ none) (ho : OR K (m ++ [p]) B H p o) : SR K (m ++ [p]) B H (l ++ [o]) ∧ VR K (m ++ [p]) B (.ref p) (.own l.length) := by
  refine ⟨⟨S.sub, by simp [S.len], ?_, fun a ha => ?_, fun n a x h1 h2 => ?_⟩, ⟨p, rfl, by rw [← S.len]; simp⟩⟩
  · rw [List.nodup_append]
    exact ⟨S.nd, by simp, fun a ha b hb => by
      have : b = p := by simpa using hb
      subst this
      intro e; subst e; exact hm ha⟩
  · rcases List.mem_append.mp ha with z | z
    · exact S.live a z
    · have : a = p := by simpa using z
      subst this; exact hl
  · by_cases hlt : n < m.length
    · rw [List.getElem?_append_left hlt] at h1
      rw [List.getElem?_append_left (by rw [← S.len]; exact hlt)] at h2
      obtain ⟨r, b⟩ := S.obj n a x h1 h2
      exact ⟨r.up (Same.refl _) ⟨_, rfl⟩ fun u' e => e, b⟩
    · have hm' : n = m.length := by
        have := (List.getElem?_eq_some_iff.mp h1).1
        rw [List.length_append] at this
        simp at this
        omega
      subst hm'
      have e1 : a = p := by
        rw [List.getElem?_append_right (Nat.le_refl _)] at h1
        simpa using h1.symm
      have e2 : x = o := by
        rw [S.len, List.getElem?_append_right (Nat.le_refl _)] at h2
        simpa using h2.symm
      subst e1 e2
      exact ⟨ho, fun _ => hb⟩
theorem Step.off (s : Step m B H m' B' H') {p : Addr} {u : HO} (hp : H p = none) : Step m B H m' B' (upd H' p u) := by
  refine ⟨s.sub, s.pre, fun a o z1 z2 => ?_, fun a z1 => upd_live (s.live a z1), s.sep, s.new⟩
  have ne : a ≠ p := fun z => by subst z; rw [hp] at z1; cases z1
  rw [upd_ne ne]; exact s.keep a o z1 z2
theorem Step.join (s : Step m B H m' B' H') {p : Addr} (hp : H p = none) : Step m B H (m' ++ [p]) B' H' := by
  obtain ⟨t, e⟩ := s.pre
  refine ⟨s.sub, ⟨t ++ [p], by rw [e, List.append_assoc]⟩, s.keep, s.live, s.sep, fun a ha => ?_⟩
  rcases List.mem_append.mp ha with z | z
  · exact s.new a z
  · have : a = p := by simpa using z
    subst this; exact .inr hp
/-- the slots that a target sets are those that the block wipes -/
def GoodG (g : TG) (vs : List Nat) : Prop := ∀ (v : V) (σ : St) (H : Hp) (Q : St → Hp → Prop), g v (wipe σ vs) H Q → g v (wipe σ vs) H fun σ' H' => wipe σ' vs = wipe σ vs ∧ Q σ' H'
/-- a list comprehension: the word I over the turn, the items so far, the store -/
theorem e_lc {wi : TI} {vs : List Nat} (hg : GoodG g vs) (h : EvI K wi ρ l fun P n it l1 => ∃ I : Nat → List PyData → List O → Prop, I 0 [] l1 ∧ (∀ i acc l', i ≤ n → I i acc l' → P l' ∧ acc.length ≤ 100000) ∧
      (∀ i acc l', i < n → I i acc l' → AsS K g (it i) (wipe3 ρ vs) l' fun ρ2 l2 => EvT K tt ρ2 l2 fun b l3 => if b = true then EvS K te ρ2 l3 fun d l4 => ∃ x, d = .f x ∧ I (i + 1) (acc ++ [x]) l4 else I (i + 1) acc l3) ∧
      ∀ acc l', I n acc l' → R (.own l'.length) (l' ++ [.lst acc])) : EvS K (tLc wi g tt te vs) ρ l R := fun m B H σ S e Q q => by
  refine h m B H σ S e _ fun J m1 B1 H1 l1 P n it s1 S1 ok ⟨I, h0, hP, hs, hd⟩ => ?_
  intro Dd hDn
  have same1 : Same H1 (upd H1 Dd (.lst [])) := same_new hDn
  have hDm1 : Dd ∉ m1 := S1.notin hDn
  have hDB1 : B1 Dd = none := S1.bnone hDn
  have S1' : SR K m1 B1 (upd H1 Dd (.lst [])) l1 := ⟨S1.sub.trans same1, S1.len, S1.nd, fun a ha => upd_live (S1.live a ha), fun k a o x1 x2 => let ⟨r, b⟩ := S1.obj k a o x1 x2; ⟨r.up (Same.refl _) ⟨[], by simp⟩ fun u z => same1 a u z, b⟩⟩
  have s1' : Step m1 B1 H1 m1 B1 (upd H1 Dd (.lst [])) := ⟨Same.refl _, ⟨[], by simp⟩, fun a o z _ => same1 a o z, fun a z => upd_live z, fun _ _ z _ => z, fun _ z => .inl z⟩
  -- how the new list fares through a step
  have fare : ∀ {ma mb : List Addr} {Ba Bb Ha Hb : Hp} {us : List V}, Step ma Ba Ha mb Bb Hb → Dd ∉ ma → Ba Dd = none → Ha Dd = some (.lst us) → Dd ∉ mb ∧ Bb Dd = none ∧ Hb Dd = some (.lst us) := by
    intro ma mb Ba Bb Ha Hb us s n1 n2 n3
    refine ⟨fun zz => ?_, s.sep _ (by rw [n3]; simp) n2 n1, s.keep _ _ n3 n1⟩
    rcases s.new _ zz with w | w
    · exact n1 w
    · rw [w] at n3
      cases n3
  refine ⟨fun i k H' => k = n - i ∧ i ≤ n ∧ ∃ m' B' l' acc xs, Step m1 B1 H1 m' B' H' ∧ SR K m' B' H' l' ∧ Dd ∉ m' ∧ B' Dd = none ∧ H' Dd = some (.lst xs) ∧ FRs K B' xs acc ∧ I i acc l',
    ⟨n, by simp, Nat.zero_le _, m1, B1, l1, [], [], s1', S1', hDm1, hDB1, upd_same, .nil, h0⟩, ?_⟩
  rintro i k H' ⟨rfl, hi, m', B', l', acc, xs, s2, S2, hDm, hDB, hD, hx, z⟩
  obtain ⟨pz, lz⟩ := hP i acc l' hi z
  have o2 := ok i m' B' H' l' s2.sub s2.pre S2 pz
  by_cases hlt : i < n
  · obtain ⟨go, yl⟩ := o2.1 hlt
    refine .inr ⟨go, fun H3 => ∃ m' B' l' acc xs, Step m1 B1 H1 m' B' H3 ∧ SR K m' B' H3 l' ∧ Dd ∉ m' ∧ B' Dd = none ∧ H3 Dd = some (.lst xs) ∧ FRs K B' xs acc ∧ I (i + 1) acc l',
      fun H3 ⟨m3, B3, l3, acc3, xs3, a1, a2, a3, a4, a5, a6, a7⟩ => ⟨n - (i + 1), by omega, rfl, hlt, m3, B3, l3, acc3, xs3, a1, a2, a3, a4, a5, a6, a7⟩, fun x H3 hy => ?_⟩
    obtain ⟨B3, s3, S3, r3⟩ := yl x H3 hy
    obtain ⟨f1, f2, f3⟩ := fare s3 hDm hDB hD
    refine hg x σ H3 _ (hs i acc l' hlt z m' B3 H3 (wipe σ vs) x S3 ((((e.step s1).step s2).step s3).wipe vs) r3 _ fun σ4 ρ4 m4 B4 H4 l4 s4 S4 e4 z4 => ?_)
    obtain ⟨g1, g2, g3⟩ := fare s4 f1 f2 f3
    refine z4 m4 B4 H4 σ4 S4 e4 _ fun m5 B5 H5 b l5 s5 S5 z5 => ?_
    obtain ⟨h1, h2, h3⟩ := fare s5 g1 g2 g3
    have s25 := ((s2.trans s3).trans s4).trans s5
    have hx5 : FRs K B5 xs acc := FRs.same ((s3.trans s4).trans s5).sub acc xs hx
    cases b with
    | false => exact ⟨m5, B5, l5, acc, xs, s25, S5, h1, h2, h3, hx5, z5⟩
    | true =>
      refine z5 m5 B5 H5 σ4 S5 (e4.step s5) _ fun y m6 B6 H6 d l6 s6 S6 r6 ⟨x6, e6, z6⟩ => ?_
      subst e6
      obtain ⟨k1, k2, k3⟩ := fare s6 h1 h2 h3
      have hx6 : FRs K B6 (xs ++ [y]) (acc ++ [x6]) := (FRs.same s6.sub acc xs hx5).append (FRs.one r6)
      have hl := hx5.length
      exact ⟨xs, k3, small' (by rw [hl]; exact lz), m6, B6, l6, acc ++ [x6], xs ++ [y], (s25.trans s6).off hDn, S6.off k1 k2, k1, k2, upd_same, hx6, z6⟩
  · have e0 : i = n := by omega
    subst e0
    have hR := hd acc l' z
    refine .inl ⟨o2.2 rfl, ?_⟩
    obtain ⟨Sj, rj⟩ := S2.join (o := .lst acc) hDm hDB (by rw [hD]; simp) ⟨xs, hD, hx⟩
    exact q _ _ _ _ _ _ (s1.trans (s2.join hDn)) Sj rj hR
theorem wipe_set {i : Nat} {x : Option V} : ∀ {vs : List Nat} {σ : St}, i ∈ vs → wipe (σ.set i x) vs = wipe σ vs
  | [], _, h => by cases h
  | j :: vs, σ, h => by
    unfold L2.wipe
    by_cases hij : i = j
    · subst hij
      by_cases hi : i ∈ vs
      · rw [wipe_set hi]
      · have c : ∀ (vs : List Nat) (σ : St), (wipe (σ.set i x) vs).set i none = (wipe σ vs).set i none := by
          intro vs
          induction vs with
          | nil => intro σ; show (σ.set i x).set i none = σ.set i none; rw [List.set_set]
          | cons k vs ih =>
            intro σ
            unfold L2.wipe
            by_cases hk : k = i
            · subst hk; rw [List.set_set, List.set_set]; exact ih σ
            · rw [List.set_comm _ _ hk, ih σ, List.set_comm _ _ hk]
        exact c vs σ
    · have hi : i ∈ vs := by
        rcases List.mem_cons.mp h with z | z
        · exact absurd z hij
        · exact z
      rw [wipe_set hi]
theorem wipe_wipe (σ : St) : ∀ vs : List Nat, wipe (wipe σ vs) vs = wipe σ vs := by
  have gen : ∀ (us vs : List Nat) (σ : St), (∀ i ∈ us, i ∈ vs) → wipe (wipe σ us) vs = wipe σ vs := by
    intro us
    induction us with
    | nil => intro vs σ _; rfl
    | cons i us ih =>
      intro vs σ h
      show wipe ((wipe σ us).set i none) vs = wipe σ vs
      rw [wipe_set (h i List.mem_cons_self)]
      exact ih vs σ fun j hj => h j (List.mem_cons_of_mem _ hj)
  exact fun vs => gen vs vs σ fun _ h => h
/-- targets within the block's own slots -/
def GG (g : TG) (vs : List Nat) : Prop := ∀ (v : V) (σ : St) (H : Hp) (Q : St → Hp → Prop), g v σ H Q → g v σ H fun σ' H' => wipe σ' vs = wipe σ vs ∧ Q σ' H'
def GGs (g : TGs) (vs : List Nat) : Prop := ∀ (v : List V) (σ : St) (H : Hp) (Q : St → Hp → Prop), g v σ H Q → g v σ H fun σ' H' => wipe σ' vs = wipe σ vs ∧ Q σ' H'
theorem gg_name {i : Nat} {vs : List Nat} (h : i ∈ vs) : GG (gName i) vs := fun v σ H Q q => ⟨wipe_set h, q⟩
theorem gg_nil {vs : List Nat} : GGs gNil vs := fun v σ H Q q => ⟨q.1, rfl, q.2⟩
theorem gg_cons {vs : List Nat} (h1 : GG g vs) (h2 : GGs gs vs) (mono : ∀ v σ H (Q Q' : St → Hp → Prop), (∀ a b, Q a b → Q' a b) → g v σ H Q → g v σ H Q') : GGs (gCons g gs) vs := fun v σ H Q q => by
  obtain ⟨x, r, rfl, q⟩ := q
  refine ⟨x, r, rfl, mono _ _ _ _ _ (fun a b ⟨e, z⟩ => ?_) (h1 x σ H _ q)⟩
  have w := h2 r a b Q z
  rw [e] at w
  exact w
theorem gg_tup {n : Nat} {vs : List Nat} (h : GGs gs vs) : GG (gTup K n gs) vs := fun v σ H Q q => by
  obtain ⟨a, xs, e1, e2, e3, q⟩ := q
  exact ⟨a, xs, e1, e2, e3, h xs σ H Q q⟩
theorem mono_name {i : Nat} : ∀ v σ H (Q Q' : St → Hp → Prop), (∀ a b, Q a b → Q' a b) → gName i v σ H Q → gName i v σ H Q' := fun _ _ _ _ _ h q => h _ _ q
theorem good_of {vs : List Nat} (h : GG g vs) : GoodG g vs := fun v σ H Q q => by
  have w := h v (wipe σ vs) H Q q
  rw [wipe_wipe] at w
  exact w
end
end L3

/-! L3d: calls of defs, the promise of a def -/
namespace L3
open PySem L2
def NoRef : List D → Prop
  | [] => True
  | .own _ :: _ => False
  | _ :: r => NoRef r
def D.shift (k : Nat) : D → D
  | .own n => .own (k + n)
  | d => d
def O.shift (k : Nat) : O → O
  | .rfs ds => .rfs (ds.map (D.shift k))
  | .tpr ds => .tpr (ds.map (D.shift k))
  | .ins C fs => .ins C (fs.map fun p => (p.1, p.2.shift k))
  | o => o
/-- the callee's own 0 is our own i, its further ones stand behind ours -/
def D.shift1 (i k : Nat) : D → D
  | .own 0 => .own i
  | .own (n + 1) => .own (k + n)
  | d => d
def O.shift1 (i k : Nat) : O → O
  | .rfs ds => .rfs (ds.map (D.shift1 i k))
  | .tpr ds => .tpr (ds.map (D.shift1 i k))
  | .ins C fs => .ins C (fs.map fun p => (p.1, p.2.shift1 i k))
  | o => o
def O.free : O → Prop
  | .rfs ds => NoRef ds
  | .tpr ds => NoRef ds
  | .ins _ fs => NoRef (fs.map (·.2))
  | _ => True
abbrev Spec3 := List D → List O → (D → List O → Prop) → Prop
/-- a def's promise -/
def P3 (K : PySem.W.Frag) (S : Spec3) : Sp := fun vs H Q _ => ∃ m B g ds R, SR K m B H g ∧ Paired (VR K m B) vs ds ∧ S ds g R ∧ Post K m B H R Q
def st0 (N : List Str) (ds : List D) : List (Option D) := ds.map some ++ List.replicate (N.length - ds.length) none
section
variable {K : PySem.W.Frag} {m m' m2 : List Addr} {B B' B2 H H' H2 : Hp} {l : List O} {σ : St} {ρ : List (Option D)} {R R' : D → List O → Prop} {E E' : E3} {ta tb te tc : TE} {tt tu : TT} {t u : TS} {ty tz : TA} {g : TG} {gs : TGs}
theorem paired_map {α β γ : Type} {R : α → β → Prop} {R' : α → γ → Prop} {f : β → γ} : ∀ {xs : List α} {ys : List β}, Paired R xs ys → (∀ x y, R x y → R' x (f y)) → Paired R' xs (ys.map f)
  | _, _, .nil, _ => .nil
  | _, _, .cons h t, k => .cons (k _ _ h) (paired_map t k)
theorem noref_any : ∀ {vs : List V} {ds : List D}, NoRef ds → Paired (VR K m B) vs ds → Paired (VR K m' B) vs ds
  | _, [], _, h => by cases h; exact .nil
  | _, .own _ :: _, n, _ => n.elim
  | _, .f d :: _, n, h => by
    cases h with
    | cons h1 h2 => exact .cons h1 (noref_any (show NoRef _ from n) h2)
  | _, .sq d :: _, n, h => by
    cases h with
    | cons h1 h2 => exact .cons h1 (noref_any (show NoRef _ from n) h2)
theorem noref_fs : ∀ {gs : List (Str × V)} {fs : List (Str × D)}, NoRef (fs.map (·.2)) → Paired (fun (p : Str × V) (q : Str × D) => p.1 = q.1 ∧ VR K m B p.2 q.2) gs fs → Paired (fun (p : Str × V) (q : Str × D) => p.1 = q.1 ∧ VR K m' B p.2 q.2) gs fs
  | _, [], _, h => by cases h; exact .nil
  | _, (x, .own _) :: _, n, _ => n.elim
  | _, (x, .f d) :: _, n, h => by
    cases h with
    | cons h1 h2 => exact .cons h1 (noref_fs (show NoRef _ from n) h2)
  | _, (x, .sq d) :: _, n, h => by
    cases h with
    | cons h1 h2 => exact .cons h1 (noref_fs (show NoRef _ from n) h2)
theorem OR.free_any {a : Addr} {o : O} (hf : o.free) (h : OR K m B H a o) : OR K m' B H a o := by
  cases o with
  | lst ds => exact h
  | rfs ds => obtain ⟨xs, e, r⟩ := h; exact ⟨xs, e, noref_any hf r⟩
  | tpr ds => obtain ⟨xs, e, r⟩ := h; exact ⟨xs, e, noref_any hf r⟩
  | dct kvs => exact h
  | dctT kvs => exact h
  | ins C fs => obtain ⟨dx, gs, e, r⟩ := h; exact ⟨dx, gs, e, noref_fs hf r⟩
  | gone => trivial
theorem VR.shift {v : V} {d : D} (h : VR K m' B v d) : VR K (m ++ m') B v (d.shift m.length) := by
  cases d with
  | f d => exact h
  | sq d => exact h
  | own n =>
    obtain ⟨a, e, z⟩ := h
    refine ⟨a, e, ?_⟩
    rw [List.getElem?_append_right (by omega)]
    rw [show m.length + n - m.length = n by omega]
    exact z
theorem OR.shift {a : Addr} {o : O} (h : OR K m' B H a o) : OR K (m ++ m') B H a (o.shift m.length) := by
  cases o with
  | lst ds => exact h
  | rfs ds => obtain ⟨xs, e, r⟩ := h; exact ⟨xs, e, paired_map r fun x y z => z.shift⟩
  | tpr ds => obtain ⟨xs, e, r⟩ := h; exact ⟨xs, e, paired_map r fun x y z => z.shift⟩
  | dct kvs => exact h
  | dctT kvs => exact h
  | ins C fs => obtain ⟨dx, gs, e, r⟩ := h; exact ⟨dx, gs, e, paired_map r fun x y z => ⟨z.1, z.2.shift⟩⟩
  | gone => trivial
theorem VR.shift1 {v : V} {d : D} {i : Nat} {a : Addr} {tm : List Addr} (hi : m[i]? = some a) (h : VR K (a :: tm) B v d) : VR K (m ++ tm) B v (d.shift1 i m.length) := by
  cases d with
  | f d => exact h
  | sq d => exact h
  | own n =>
    obtain ⟨b, e, z⟩ := h
    cases n with
    | zero =>
      refine ⟨b, e, ?_⟩
      have z' : a = b := by simpa using z
      subst z'
      exact get_pre ⟨tm, rfl⟩ hi
    | succ n =>
      refine ⟨b, e, ?_⟩
      rw [List.getElem?_append_right (by omega)]
      rw [show m.length + n - m.length = n by omega]
      simpa using z
theorem OR.shift1 {a b : Addr} {o : O} {i : Nat} {tm : List Addr} (hi : m[i]? = some a) (h : OR K (a :: tm) B H b o) : OR K (m ++ tm) B H b (o.shift1 i m.length) := by
  cases o with
  | lst ds => exact h
  | rfs ds => obtain ⟨xs, e, r⟩ := h; exact ⟨xs, e, paired_map r fun x y z => z.shift1 hi⟩
  | tpr ds => obtain ⟨xs, e, r⟩ := h; exact ⟨xs, e, paired_map r fun x y z => z.shift1 hi⟩
  | dct kvs => exact h
  | dctT kvs => exact h
  | ins C fs => obtain ⟨dx, gs, e, r⟩ := h; exact ⟨dx, gs, e, paired_map r fun x y z => ⟨z.1, z.2.shift1 hi⟩⟩
  | gone => trivial
theorem shift_gone {o : O} {k : Nat} : o.shift k ≠ .gone → o ≠ .gone := fun h e => h (by rw [e]; rfl)
theorem shift1_gone {o : O} {i k : Nat} : o.shift1 i k ≠ .gone → o ≠ .gone := fun h e => h (by rw [e]; rfl)
/-- behind a callee that was handed no object -/
theorem SR.back0 (S : SR K m B H l) {l' : List O} (s : Step [] B H m' B' H') (S' : SR K m' B' H' l') : SR K (m ++ m') B' H' (l ++ l'.map (O.shift l.length)) ∧ Step m B H (m ++ m') B' H' := by
  have nn : ∀ a : Addr, a ∉ ([] : List Addr) := fun a => by simp
  have new : ∀ a ∈ m', H a = none := fun a ha => by
    rcases s.new a ha with z | z
    · exact absurd z (nn a)
    · exact z
  refine ⟨⟨S'.sub, by simp [S.len, S'.len], ?_, fun a ha => ?_, fun n a o h1 h2 => ?_⟩, ⟨s.sub, ⟨m', rfl⟩, fun a o h _ => s.keep a o h (nn a), s.live, fun a h1 h2 _ => s.sep a h1 h2 (nn a), fun a ha => ?_⟩⟩
  · rw [List.nodup_append]
    exact ⟨S.nd, S'.nd, fun a ha b hb e => S.live a ha (e ▸ new b hb)⟩
  · rcases List.mem_append.mp ha with z | z
    · exact s.live a (S.live a z)
    · exact S'.live a z
  · by_cases hlt : n < m.length
    · rw [List.getElem?_append_left hlt] at h1
      rw [List.getElem?_append_left (by rw [← S.len]; exact hlt)] at h2
      obtain ⟨r, b⟩ := S.obj n a o h1 h2
      have lv := S.live a (List.mem_of_getElem? h1)
      exact ⟨r.up s.sub ⟨m', rfl⟩ fun u e => s.keep a u e (nn a), fun q => s.sep a lv (b q) (nn a)⟩
    · rw [List.getElem?_append_right (by omega)] at h1
      rw [List.getElem?_append_right (by rw [← S.len]; omega), ← S.len, List.getElem?_map] at h2
      cases e : l'[n - m.length]? with
      | none => rw [e] at h2; cases h2
      | some o' =>
        rw [e] at h2
        cases h2
        obtain ⟨r, b⟩ := S'.obj _ a o' h1 e
        exact ⟨r.shift, fun q => b (shift_gone q)⟩
  · rcases List.mem_append.mp ha with z | z
    · exact .inl z
    · exact .inr (new a z)
/-- behind a callee that was handed our own object i -/
theorem SR.back1 (S : SR K m B H l) {i : Nat} {a : Addr} {o' : O} {l' : List O} (hi : m[i]? = some a) (s : Step [a] B H m' B' H') (S' : SR K m' B' H' (o' :: l')) :
    ∃ tm, m' = a :: tm ∧ SR K (m ++ tm) B' H' (l.set i (o'.shift1 i l.length) ++ l'.map (O.shift1 i l.length)) ∧ Step m B H (m ++ tm) B' H' := by
  obtain ⟨tm, rfl⟩ := s.pre
  have ham := List.mem_of_getElem? hi
  have new : ∀ b ∈ tm, H b = none := fun b hb => by
    rcases s.new b (List.mem_append_right _ hb) with z | z
    · have e : b = a := by simpa using z
      have nd := S'.nd
      rw [List.singleton_append, List.nodup_cons] at nd
      exact absurd (e ▸ hb) nd.1
    · exact z
  have nin : ∀ b, b ∉ m → b ∉ [a] := fun b h z => by
    have e : b = a := by simpa using z
    exact h (e ▸ ham)
  refine ⟨tm, rfl, ⟨S'.sub, ?_, ?_, fun b hb => ?_, fun n b o h1 h2 => ?_⟩, ⟨s.sub, ⟨tm, rfl⟩, fun b o h hn => s.keep b o h (nin b hn), s.live, fun b h1 h2 hn => s.sep b h1 h2 (nin b hn), fun b hb => ?_⟩⟩
  · have e := S'.len
    simp only [List.singleton_append, List.length_cons] at e
    simp [S.len]
    omega
  · have nd := S'.nd
    rw [List.singleton_append, List.nodup_cons] at nd
    rw [List.nodup_append]
    exact ⟨S.nd, nd.2, fun b hb c hc e => S.live b hb (e ▸ new c hc)⟩
  · rcases List.mem_append.mp hb with z | z
    · exact s.live b (S.live b z)
    · exact S'.live b (List.mem_append_right _ z)
  · by_cases hlt : n < m.length
    · rw [List.getElem?_append_left hlt] at h1
      rw [List.getElem?_append_left (by simp [← S.len]; exact hlt)] at h2
      by_cases hni : i = n
      · subst hni
        rw [hi] at h1; cases h1
        rw [List.getElem?_set_self (by rw [← S.len]; exact hlt)] at h2
        cases h2
        obtain ⟨r, bb⟩ := S'.obj 0 a o' (by simp) (by simp)
        have r' : OR K (a :: tm) B' H' a o' := r
        exact ⟨by rw [← S.len]; exact OR.shift1 hi r', fun q => bb (shift1_gone q)⟩
      · rw [List.getElem?_set_ne hni] at h2
        obtain ⟨r, bb⟩ := S.obj n b o h1 h2
        have lv := S.live b (List.mem_of_getElem? h1)
        have ne : b ∉ [a] := fun z => by
          have e : b = a := by simpa using z
          exact S.ne hi h1 hni e.symm
        exact ⟨r.up s.sub ⟨tm, rfl⟩ fun u e => s.keep b u e ne, fun q => s.sep b lv (bb q) ne⟩
    · rw [List.getElem?_append_right (by omega)] at h1
      rw [List.getElem?_append_right (by simp [← S.len]; omega), List.length_set, ← S.len, List.getElem?_map] at h2
      cases e : l'[n - m.length]? with
      | none => rw [e] at h2; cases h2
      | some o2 =>
        rw [e] at h2
        cases h2
        obtain ⟨r, bb⟩ := S'.obj (n - m.length + 1) b o2 (by simpa using h1) (by simpa using e)
        have r' : OR K (a :: tm) B' H' b o2 := r
        exact ⟨OR.shift1 hi r', fun q => bb (shift1_gone q)⟩
  · rcases List.mem_append.mp hb with z | z
    · exact .inl z
    · exact .inr (new b z)
/-- a def is called with data alone -/
theorem e_call0 {S : Spec3} {X : XK} (h : EvA K ty ρ l fun ds l1 => NoRef ds ∧ S ds [] fun d l' => R (d.shift l1.length) (l1 ++ l'.map (O.shift l1.length))) : EvS K (tCall (P3 K S) [] X ty) ρ l R := fun m B H σ Sr e Q q => by
  refine h m B H σ Sr e _ fun vs m1 B1 H1 ds l1 s1 S1 r1 ⟨hn, h1⟩ => ?_
  rw [List.append_nil]
  refine ⟨[], B1, [], ds, _, ⟨S1.sub, rfl, List.nodup_nil, fun a ha => by simp at ha, fun n a o z => by simp at z⟩, noref_any hn r1, h1, fun v m2 B2 H2 d l2 s2 S2 r2 z => ?_⟩
  obtain ⟨S3, s3⟩ := S1.back0 s2 S2
  refine q v _ _ _ _ _ (s1.trans s3) S3 ?_ z
  rw [← S1.len]
  exact r2.shift
/-- the arguments as the callee sees them -/
def backs (i : Nat) : List D → Option (List D)
  | [] => some []
  | d :: r => match backs i r with
    | none => none
    | some xs => match d with
      | .own n => if n = i then some (.own 0 :: xs) else none
      | .f x => some (.f x :: xs)
      | .sq s => some (.sq s :: xs)
theorem backs_eq (i k : Nat) : ∀ {ds es : List D}, backs i ds = some es → ds = es.map (D.shift1 i k) ∧ ∀ d ∈ es, d = .own 0 ∨ NoRef [d]
  | [], es, h => by
    have e : [] = es := Option.some.inj h
    subst e; exact ⟨rfl, fun _ h => by cases h⟩
  | d :: r, es, h => by
    cases e : backs i r with
    | none =>
      simp only [backs, e] at h
      cases h
    | some gs =>
      simp only [backs, e] at h
      obtain ⟨h1, h2⟩ := backs_eq i k e
      have step : ∀ (x : D), some (x :: gs) = some es → d = x.shift1 i k → (x = .own 0 ∨ NoRef [x]) → (d :: r) = es.map (D.shift1 i k) ∧ ∀ d ∈ es, d = .own 0 ∨ NoRef [d] := fun x hx e1 e2 => by
        have e3 : x :: gs = es := Option.some.inj hx
        subst e3
        refine ⟨by rw [List.map_cons, ← e1, ← h1], fun y hy => ?_⟩
        rcases List.mem_cons.mp hy with rfl | hy
        · exact e2
        · exact h2 y hy
      cases d with
      | own n =>
        simp only at h
        by_cases hn : n = i
        · rw [if_pos hn] at h
          exact step (.own 0) h (by subst hn; rfl) (.inl rfl)
        · rw [if_neg hn] at h; cases h
      | f x => exact step (.f x) h rfl (.inr trivial)
      | sq s => exact step (.sq s) h rfl (.inr trivial)
/-- a def is called with data, and with our own object i as its own 0 -/
theorem e_call1 (i : Nat) {S : Spec3} {X : XK} (h : EvA K ty ρ l fun ds l1 => ∃ o ds', l1[i]? = some o ∧ o.free ∧ backs i ds = some ds' ∧
      S ds' [o] fun d l' => ∃ o' t', l' = o' :: t' ∧ R (d.shift1 i l1.length) (l1.set i (o'.shift1 i l1.length) ++ t'.map (O.shift1 i l1.length))) : EvS K (tCall (P3 K S) [] X ty) ρ l R := fun m B H σ Sr e Q q => by
  refine h m B H σ Sr e _ fun vs m1 B1 H1 ds l1 s1 S1 r1 ⟨o, ds', ho, hf, hbk, h1⟩ => ?_
  obtain ⟨hds, hd⟩ := backs_eq i l1.length hbk
  subst hds
  rw [List.append_nil]
  obtain ⟨a, ha, ro, hb⟩ := S1.get ho
  have pv : ∀ {us : List V} {es : List D}, (∀ d ∈ es, d = .own 0 ∨ NoRef [d]) → Paired (VR K m1 B1) us (es.map (D.shift1 i l1.length)) → Paired (VR K [a] B1) us es := by
    intro us es
    induction es generalizing us with
    | nil => intro _ h; cases h; exact .nil
    | cons d es ih =>
      intro hd h
      cases h with
      | cons h1 h2 =>
        refine .cons ?_ (ih (fun x hx => hd x (List.mem_cons_of_mem _ hx)) h2)
        rcases hd d List.mem_cons_self with rfl | hn
        · obtain ⟨b, e1, e2⟩ := h1
          have e3 : m1[i]? = some b := e2
          rw [ha] at e3; cases e3
          exact ⟨a, e1, rfl⟩
        · cases d with
          | own n => exact hn.elim
          | f d => exact h1
          | sq s => exact h1
  refine ⟨[a], B1, [o], ds', _, ⟨S1.sub, rfl, by simp, fun b hb => ?_, fun n b x z1 z2 => ?_⟩, pv hd r1, h1, fun v m2 B2 H2 d l2 s2 S2 r2 ⟨o', t', e2, z⟩ => ?_⟩
  · have e : b = a := by simpa using hb
    subst e; exact S1.live b (List.mem_of_getElem? ha)
  · have hn : n = 0 := by
      have := (List.getElem?_eq_some_iff.mp z1).1
      simp at this
      exact this
    subst hn
    have e1 : a = b := by simpa using z1
    have e2 : o = x := by simpa using z2
    subst e1 e2
    exact ⟨OR.free_any hf ro, hb⟩
  · subst e2
    obtain ⟨tm, rfl, S3, s3⟩ := S1.back1 ha s2 S2
    refine q v _ _ _ _ _ (s1.trans s3) S3 ?_ z
    rw [← S1.len]
    exact r2.shift1 ha
theorem er_start {N : List Str} {vs : List V} {ds : List D} (h : Paired (VR K m B) vs ds) : ER K m B (L2.start N vs) (st0 N ds) := by
  have hl := pair_len h
  refine ⟨by simp [L2.start, st0, hl], fun i d e => ?_⟩
  unfold st0 at e
  by_cases hi : i < ds.length
  · rw [List.getElem?_append_left (by simpa using hi), List.getElem?_map] at e
    have go : ∀ {vs : List V} {ds : List D} {i : Nat}, Paired (VR K m B) vs ds → (ds[i]?).map some = some (some d) → ∃ v, vs[i]? = some v ∧ VR K m B v d := by
      intro vs ds
      induction ds generalizing vs with
      | nil => intro i _ e; simp at e
      | cons x ds ih =>
        intro i h e
        cases h with
        | cons h1 h2 =>
          cases i with
          | zero => simp at e; subst e; exact ⟨_, rfl, h1⟩
          | succ i => obtain ⟨v, a, b⟩ := ih h2 (by simpa using e); exact ⟨v, by simpa using a, b⟩
    obtain ⟨v, a, b⟩ := go h e
    refine ⟨v, ?_, b⟩
    unfold L2.start
    rw [List.getElem?_append_left (by simpa using (List.getElem?_eq_some_iff.mp a).1), List.getElem?_map, a]
    rfl
  · rw [List.getElem?_append_right (by simpa using hi), List.getElem?_replicate] at e
    split at e <;> simp at e
theorem ok3 {P : Program} {w : World} {mg : Str → Option Value} {base : Heap} {x qual : Str} {st : Stmt} {f : Addr} {fd : FuncData} {N ps : List Str} {k : Nat} {S : Spec3} (F : Fun K x qual st f fd) (sc : FnScope N ps (defScope st))
    (len : ∀ ds g R, S ds g R → ds.length = ps.length)
    (h : ∀ (cdv : Value) (A : Around) (outer : List Env) (s : Shared) (H : Hp) (E : XK), Room k (A.deeper (PyProof.Rows.envOfC qual (defScope st) s.heap.objs.size f cdv)) →
      ∃ t, PSs (cxOf CX0 P w K mg base N qual (defScope st) f cdv A outer s H E).nox (defBody st) t ∧ ∀ ds g R, S ds g R → ExS K t (st0 N ds) g ⟨fun _ l => R (.f .none) l, R, fun _ _ => False, fun _ _ => False⟩) :
    FnOk P w K mg base CX0 (k + 1) f fd ps (P3 K S) := by
  refine F.ok sc (fun vs H Q E ⟨m, B, g, ds, R, h1, h2, h3, h4⟩ => by rw [pair_len h2]; exact len ds g R h3) (fun cdv A outer s H vs Q E hr ⟨m, B, g, ds, R, h1, h2, h3, h4⟩ => ?_)
  obtain ⟨t, ht, hx⟩ := h cdv A outer s H E hr
  refine ⟨t, ht, hx ds g R h3 m B H _ h1 (er_start h2) _ ⟨fun σ' ρ' m' B' H' l' s S' e z => h4 .non m' B' H' (.f .none) l' s S' FR.non z, fun v m' B' H' d l' s S' r z => h4 v m' B' H' d l' s S' r z, fun _ _ _ _ _ _ _ _ _ z => z.elim, fun _ _ _ _ _ _ _ _ _ z => z.elim⟩⟩
end
end L3

/-! L3e: operators that serve every kind of value, and what they do in a frame's view -/
namespace L3
open PySem L2

/-! ### operators whatever the operands are -/
section
variable {X : Cx}
theorem OpR.or {f : Value → Value → Sem Value} {r r' : R2} (h : OpR X f r) (h' : OpR X f r') : OpR X f (fun x y H Q => r x y H Q ∨ r' x y H Q) := by
  intro pins s σ H x y v u Q I rx ry q
  rcases q with q | q
  · exact h pins s σ H x y v u Q I rx ry q
  · exact h' pins s σ H x y v u Q I rx ry q
def rAddS : R2 := fun x y H Q => ∃ i j, x = .str i ∧ y = .str j ∧ i.length + j.length ≤ sizeLine ∧ Q (.str (i ++ j)) H
def rAddU (K : PySem.W.Frag) : R2 := fun x y H Q => rI0 (fun i j => .int (i + j)) x y H Q ∨ rAddS x y H Q ∨ rCat x y H Q ∨ rCatT K x y H Q
theorem u_add {K : PySem.W.Frag} (hK : X.K = K) : OpR X (binaryOp .Add) (rAddU K) := by
  subst hK
  exact OpR.or op_add (OpR.or op_add_str (OpR.or op_cat op_catT))
def rMulU : R2 := fun x y H Q => rI CMul (fun i j => .int (i * j)) x y H Q ∨ rRep x y H Q
theorem u_mul : OpR X (binaryOp .Mult) rMulU := OpR.or op_mul op_rep
def rEqU (K : PySem.W.Frag) : R2 := fun x y H Q => rEq x y H Q ∨ rEqD K x y H Q
def rNeU (K : PySem.W.Frag) : R2 := fun x y H Q => rNe x y H Q ∨ rNeD K x y H Q
theorem u_eq {K : PySem.W.Frag} (hK : X.K = K) (hu : X.A.units + 64 < cLine) : OpR X (compareOp .Eq) (rEqU K) := by
  subst hK
  exact OpR.or op_eq (op_eqD hu)
theorem u_ne {K : PySem.W.Frag} (hK : X.K = K) (hu : X.A.units + 64 < cLine) : OpR X (compareOp .NotEq) (rNeU K) := by
  subst hK
  exact OpR.or op_ne (op_neD hu)
/-- x in d, d a dict -/
def rInD (neg : Bool) : R2 := fun y x H Q => ∃ a o, x = .ref a ∧ DGet H a y o ∧ Q (.bl (if neg then !o.isSome else o.isSome)) H
theorem op_inD (hu : X.A.units + 1 < cLine) : OpR X (compareOp .In) (rInD false) := by
  intro pins s σ H y x v u Q I ry rx ⟨a, o, ex, g, q⟩
  subst ex
  obtain rfl : u = Value.ref a := rx
  exact d_in hu I g ry fun s3 I3 => ⟨.bl o.isSome, H, I3, rfl, q⟩
theorem op_notInD (hu : X.A.units + 1 < cLine) : OpR X (compareOp .NotIn) (rInD true) := by
  intro pins s σ H y x v u Q I ry rx ⟨a, o, ex, g, q⟩
  subst ex
  obtain rfl : u = Value.ref a := rx
  exact d_notIn hu I g ry fun s3 I3 => ⟨.bl (!o.isSome), H, I3, rfl, q⟩
/-- x in xs, data of any depth -/
def rInP (K : PySem.W.Frag) (neg : Bool) : R2 := fun x y H Q => ∃ d ds, Dp K H x d ∧ (Dp K H y (.list ds) ∨ Dp K H y (.tuple ds)) ∧ SeqAt.shaped d = true ∧ PyData.canLayAll0 ds = true ∧
  Q (.bl (if neg then !(ds.any fun e => PyData.eqv e d) else ds.any fun e => PyData.eqv e d)) H
theorem room_p {A : Around} {xs : List PyData} {d : PyData} (hd : SeqAt.shaped d = true) (hu : A.units + 65 < cLine) : A.units + 1 + min (PyData.depthAll xs) d.depth < cLine := by
  have h1 := SeqAt.depth_of_shaped hd
  have h2 : min (PyData.depthAll xs) d.depth ≤ d.depth := Nat.min_le_right _ _
  omega
theorem op_inP (hu : X.A.units + 65 < cLine) : OpR X (compareOp .In) (rInP X.K false) := by
  intro pins s σ H x y v u Q I rx ry ⟨d, ds, hd, hs, h1, h2, q⟩
  obtain ⟨as, r1⟩ := Dp.reads I d x v hd rx
  rcases hs with hs | hs
  · obtain ⟨bs, r2⟩ := Dp.reads I _ y u hs ry
    exact SeqAt.in_list_reads r2 r1 h2 (SeqAt.canLay_of_shaped h1) (room_p h1 hu) ⟨.bl _, H, I, rfl, q⟩
  · obtain ⟨bs, r2⟩ := Dp.reads I _ y u hs ry
    exact SeqAt.in_tuple_reads r2 r1 h2 (SeqAt.canLay_of_shaped h1) (room_p h1 hu) ⟨.bl _, H, I, rfl, q⟩
theorem op_notInP (hu : X.A.units + 65 < cLine) : OpR X (compareOp .NotIn) (rInP X.K true) := by
  intro pins s σ H x y v u Q I rx ry ⟨d, ds, hd, hs, h1, h2, q⟩
  obtain ⟨as, r1⟩ := Dp.reads I d x v hd rx
  rcases hs with hs | hs
  · obtain ⟨bs, r2⟩ := Dp.reads I _ y u hs ry
    exact SeqAt.notIn_list_reads r2 r1 h2 (SeqAt.canLay_of_shaped h1) (room_p h1 hu) ⟨.bl _, H, I, rfl, q⟩
  · obtain ⟨bs, r2⟩ := Dp.reads I _ y u hs ry
    exact SeqAt.notIn_tuple_reads r2 r1 h2 (SeqAt.canLay_of_shaped h1) (room_p h1 hu) ⟨.bl _, H, I, rfl, q⟩
def rInS (neg : Bool) : R2 := fun x y H Q => ∃ i j, x = .str i ∧ y = .str j ∧ Q (.bl (if neg then !(!(Builtin.Str.occurrences j i 0 j.length 1).isEmpty) else !(Builtin.Str.occurrences j i 0 j.length 1).isEmpty)) H
def rInU (K : PySem.W.Frag) (neg : Bool) : R2 := fun x y H Q => rIn K neg x y H Q ∨ rInD neg x y H Q ∨ rInP K neg x y H Q ∨ rInS neg x y H Q
theorem u_in {K : PySem.W.Frag} (hK : X.K = K) (hu : X.A.units + 65 < cLine) : OpR X (compareOp .In) (rInU K false) := by
  subst hK
  exact OpR.or op_in_seq (OpR.or (op_inD (by omega)) (OpR.or (op_inP hu) op_in_str))
theorem u_notIn {K : PySem.W.Frag} (hK : X.K = K) (hu : X.A.units + 65 < cLine) : OpR X (compareOp .NotIn) (rInU K true) := by
  subst hK
  exact OpR.or op_notIn_seq (OpR.or (op_notInD (by omega)) (OpR.or (op_notInP hu) op_notIn_str))
/-- d[y] as a subscript -/
def rIxD : R2 := fun x y H Q => ∃ a v, x = .ref a ∧ DGet H a y (some v) ∧ Q v H
theorem ix_dict (hu : X.A.units + 1 < cLine) : IxR X rIxD := by
  intro value slice pins s σ H x y v u Q I rx ry ⟨a, w, ex, g, q⟩ hs
  subst ex
  obtain rfl : v = Value.ref a := rx
  exact PyProof.Rows.tail_any (dict_typeIs I g) PySem.F.slot_dict_getitem.lookup (d_getItem hu I g ry fun w' s3 I3 rw' => ⟨w, H, I3, rw', q⟩) hs
def rIxU (K : PySem.W.Frag) : R2 := fun x y H Q => rIx K x y H Q ∨ rIxD x y H Q
theorem u_ix {K : PySem.W.Frag} (hK : X.K = K) (hu : X.A.units + 1 < cLine) : IxR X (rIxU K) := by
  subst hK
  exact ix_seq.or (ix_dict hu)
/-- len of a list, a tuple, a text, a dict -/
def rLenU (K : PySem.W.Frag) : List V → Hp → VK → Prop := fun xs H Q => (∃ p ys, xs = [.ref p] ∧ (SqL K H p ys ∨ SqT K H p ys) ∧ Q (.int ys.length) H) ∨ (∃ z, xs = [.str z] ∧ z.length ≤ sizeLine ∧ Q (.int z.length) H) ∨ ∃ a kvs, xs = [V.ref a] ∧ H a = some (.dK kvs) ∧ Q (.int kvs.length) H
theorem u_len {K : PySem.W.Frag} (hK : X.K = K) : CallR X (.builtin "len") (rLenU K) := by
  subst hK
  exact CallR.or call_len_seq (CallR.or call_len_str call_lenD)
end

/-! ### in a frame's view -/
section
variable {K : PySem.W.Frag} {m m' m2 : List Addr} {B B' B2 H H' H2 : Hp} {l : List O} {σ : St} {ρ : List (Option D)} {R R' : D → List O → Prop} {E E' : E3} {ta tb te tc : TE} {tt tu : TT} {t u : TS} {ty tz : TA} {g : TG} {gs : TGs}
/-- x is a list of the data ds | a list or a tuple -/
def IsL (l : List O) (x : D) (ds : List PyData) : Prop := x = .f (.list ds) ∨ ∃ n, x = .own n ∧ l[n]? = some (.lst ds)
def IsQ (l : List O) (x : D) (ds : List PyData) : Prop := IsL l x ds ∨ x = .f (.tuple ds)
theorem IsL.at (S : SR K m B H l) {v : V} {x : D} {ds : List PyData} (r : VR K m B v x) (h : IsL l x ds) : ∃ a xs, v = .ref a ∧ H a = some (.lst xs) ∧ FRs K B xs ds := by
  rcases h with rfl | ⟨n, rfl, hn⟩
  · cases r with
    | lst h1 h2 => exact ⟨_, _, rfl, S.sub _ _ h1, h2⟩
  · obtain ⟨a, rfl, ha⟩ := r
    obtain ⟨⟨xs, e, q⟩, _⟩ := S.obj n a _ ha hn
    exact ⟨a, xs, rfl, e, q⟩
theorem IsQ.at (S : SR K m B H l) {v : V} {x : D} {ds : List PyData} (r : VR K m B v x) (h : IsQ l x ds) : ∃ a xs, v = .ref a ∧ (SqL K H a xs ∨ SqT K H a xs) ∧ FRs K B xs ds := by
  rcases h with h | rfl
  · obtain ⟨a, xs, e, e1, q⟩ := h.at S r
    exact ⟨a, xs, e, .inl (SqL.of e1), q⟩
  · cases r with
    | tup h1 h2 => exact ⟨_, _, rfl, .inr (sqT_same S.sub h1.sq), h2⟩
/-- what a frame's view of a value is as plain data -/
def Asd (l : List O) (x : D) (d : PyData) : Prop := x = .f d ∨ (∃ n ds, x = .own n ∧ l[n]? = some (.lst ds) ∧ d = .list ds)
theorem Asd.dp (S : SR K m B H l) {v : V} {x : D} {d : PyData} (r : VR K m B v x) (h : Asd l x d) : Dp K H v d := by
  rcases h with rfl | ⟨n, ds, rfl, hn, rfl⟩
  · exact FR.dp d v (FR.same S.sub d v r)
  · obtain ⟨a, xs, rfl, e, q⟩ := (show IsL l (.own n) ds from .inr ⟨n, rfl, hn⟩).at S r
    exact .lst (SqL.of e) (FRs.dp ds xs (FRs.same S.sub ds xs q))
theorem ret0 {Q : VK} {v : V} {d : D} (S : SR K m B H l) (q : Post K m B H R Q) (r : VR K m B v d) (z : R d l) : Q v H := q v m B H d l (Step.refl _ _ _) S r z
theorem retF {Q : VK} {v : V} {d : PyData} (S : SR K m B H l) (q : Post K m B H R Q) (r : FR K B v d) (z : R (.f d) l) : Q v H := q v m B H (.f d) l (Step.refl _ _ _) S r z
/-- a new list | the same, left as it is -/
theorem retL {Q : VK} {xs : List V} {ds : List PyData} {p : Addr} (S : SR K m B H l) (q : Post K m B H R Q) (hp : H p = none) (r : FRs K B xs ds) (z : R (.own l.length) (l ++ [.lst ds])) : Q (.ref p) (upd H p (.lst xs)) := by
  obtain ⟨S2, s2, r2⟩ := S.alloc (u := .lst xs) (o := .lst ds) hp ⟨xs, upd_same, r⟩
  exact q _ _ _ _ _ _ s2 S2 r2 z
theorem retLF {Q : VK} {xs : List V} {ds : List PyData} {p : Addr} (S : SR K m B H l) (q : Post K m B H R Q) (hp : H p = none) (r : FRs K B xs ds) (z : R (.f (.list ds)) l) : Q (.ref p) (upd H p (.lst xs)) := by
  obtain ⟨S2, s2, e2⟩ := S.allocF (u := .lst xs) hp
  exact q _ m _ _ (.f (.list ds)) l s2 S2 (FR.lst e2 (FRs.same s2.sub ds xs r)) z
theorem retT {Q : VK} {xs : List V} {ds : List PyData} {p : Addr} (S : SR K m B H l) (q : Post K m B H R Q) (hp : H p = none) (r : FRs K B xs ds) (z : R (.f (.tuple ds)) l) : Q (.ref p) (upd H p (.tup xs)) := by
  obtain ⟨S2, s2, e2⟩ := S.allocF (u := .tup xs) hp
  exact q _ m _ _ (.f (.tuple ds)) l s2 S2 (FR.tup (.inl e2) (FRs.same s2.sub ds xs r)) z

/-! operators -/
theorem o_I0i {g : Int → Int → Int} {i j : Int} (z : R (.f (.int (g i j))) l) : OpS K (rI0 fun i j => .int (g i j)) (.f (.int i)) (.f (.int j)) l R := fun m B H vx vy S r1 r2 Q q =>
  ⟨i, j, int_of r1, int_of r2, retF S q (FR.int _) z⟩
theorem o_I0b {g : Int → Int → Bool} {i j : Int} (z : R (.f (.bool (g i j))) l) : OpS K (rI0 fun i j => .bl (g i j)) (.f (.int i)) (.f (.int j)) l R := fun m B H vx vy S r1 r2 Q q =>
  ⟨i, j, int_of r1, int_of r2, retF S q (FR.bl _) z⟩
theorem o_Ii {C : Int → Int → Prop} {g : Int → Int → Int} {i j : Int} (hc : C i j) (z : R (.f (.int (g i j))) l) : OpS K (rI C fun i j => .int (g i j)) (.f (.int i)) (.f (.int j)) l R := fun m B H vx vy S r1 r2 Q q =>
  ⟨i, j, int_of r1, int_of r2, hc, retF S q (FR.int _) z⟩
theorem o_addI {i j : Int} (z : R (.f (.int (i + j))) l) : OpS K (rAddU K) (.f (.int i)) (.f (.int j)) l R := fun m B H vx vy S r1 r2 Q q => .inl (o_I0i z m B H vx vy S r1 r2 Q q)
theorem o_addS {x y : Str} (hl : x.length + y.length ≤ 100000) (z : R (.f (.str (x ++ y))) l) : OpS K (rAddU K) (.f (.str x)) (.f (.str y)) l R := fun m B H vx vy S r1 r2 Q q =>
  .inr (.inl ⟨x, y, str_of r1, str_of r2, small hl, retF S q (FR.str _) z⟩)
theorem o_addL {x y : D} {ds es : List PyData} (h1 : IsL l x ds) (h2 : IsL l y es) (hl : ds.length + es.length ≤ 100000) (z : R (.own l.length) (l ++ [.lst (ds ++ es)])) : OpS K (rAddU K) x y l R := fun m B H vx vy S r1 r2 Q q => by
  obtain ⟨a, xs, e1, e2, q1⟩ := h1.at S r1
  obtain ⟨b, ys, e3, e4, q2⟩ := h2.at S r2
  refine .inr (.inr (.inl ⟨a, b, xs, ys, e1, e3, e2, e4, by rw [q1.length, q2.length]; exact small hl, fun p hp => ?_⟩))
  exact retL S q hp (q1.append q2) z
theorem o_addLF {x y : D} {ds es : List PyData} (h1 : IsL l x ds) (h2 : IsL l y es) (hl : ds.length + es.length ≤ 100000) (z : R (.f (.list (ds ++ es))) l) : OpS K (rAddU K) x y l R := fun m B H vx vy S r1 r2 Q q => by
  obtain ⟨a, xs, e1, e2, q1⟩ := h1.at S r1
  obtain ⟨b, ys, e3, e4, q2⟩ := h2.at S r2
  refine .inr (.inr (.inl ⟨a, b, xs, ys, e1, e3, e2, e4, by rw [q1.length, q2.length]; exact small hl, fun p hp => ?_⟩))
  exact retLF S q hp (q1.append q2) z
theorem o_addT {ds es : List PyData} (hn : ds ≠ []) (hl : ds.length + es.length ≤ 100000) (z : R (.f (.tuple (ds ++ es))) l) : OpS K (rAddU K) (.f (.tuple ds)) (.f (.tuple es)) l R := fun m B H vx vy S r1 r2 Q q => by
  cases r1 with
  | @tup a xs _ h1 q1 =>
    cases r2 with
    | @tup b ys _ h2 q2 =>
      have h1' := sqT_same S.sub h1.sq
      have h2' := sqT_same S.sub h2.sq
      refine .inr (.inr (.inr ⟨a, b, xs, ys, rfl, rfl, h1', h2', fun e => hn ?_, by rw [q1.length, q2.length]; exact small hl, fun e => ?_, fun _ p hp => retT S q hp (q1.append q2) z⟩))
      · have := q1.length; rw [e] at this; exact List.length_eq_zero_iff.mp this.symm
      · have := q2.length; rw [e] at this
        have e0 : es = [] := List.length_eq_zero_iff.mp this.symm
        subst e0
        rw [List.append_nil] at z
        exact retF S q (FR.tup h1 q1) z
theorem o_mulI {i j : Int} (hc : CMul i j) (z : R (.f (.int (i * j))) l) : OpS K rMulU (.f (.int i)) (.f (.int j)) l R := fun m B H vx vy S r1 r2 Q q => .inl (o_Ii hc z m B H vx vy S r1 r2 Q q)
/-- flat values: ints, texts, truths, None -/
def flatD : PyData → Option V
  | .none => some .non
  | .bool b => some (.bl b)
  | .int i => some (.int i)
  | .str x => some (.str x)
  | _ => none
theorem flat_of {v w : V} {d : PyData} (h : FR K B v d) (e : flatD d = some w) : v = w := by
  cases h with
  | non => simpa [flatD] using e
  | bl b => simpa [flatD] using e
  | int i => simpa [flatD] using e
  | str x => simpa [flatD] using e
  | lst _ _ => simp [flatD] at e
  | tup _ _ => simp [flatD] at e
theorem o_eqI {i j : Int} (z : R (.f (.bool (decide (i = j)))) l) : OpS K (rEqU K) (.f (.int i)) (.f (.int j)) l R := fun m B H vx vy S r1 r2 Q q => by
  refine .inl ?_
  rw [int_of r1, int_of r2]
  refine ⟨rfl, ?_⟩
  have e : decide (V.int i = V.int j) = decide (i = j) := decide_eq_decide.mpr ⟨fun h => V.int.inj h, fun h => by rw [h]⟩
  rw [e]
  exact retF S q (FR.bl _) z
theorem o_eqS {i j : Str} (z : R (.f (.bool (decide (i = j)))) l) : OpS K (rEqU K) (.f (.str i)) (.f (.str j)) l R := fun m B H vx vy S r1 r2 Q q => by
  refine .inl ?_
  rw [str_of r1, str_of r2]
  refine ⟨rfl, ?_⟩
  have e : decide (V.str i = V.str j) = decide (i = j) := decide_eq_decide.mpr ⟨fun h => V.str.inj h, fun h => by rw [h]⟩
  rw [e]
  exact retF S q (FR.bl _) z
theorem o_eqP {x y : D} {d e : PyData} (h1 : Asd l x d) (h2 : Asd l y e) (s1 : SeqAt.shaped d = true) (s2 : SeqAt.shaped e = true) (z : R (.f (.bool (PyData.eqv d e))) l) : OpS K (rEqU K) x y l R := fun m B H vx vy S r1 r2 Q q =>
  .inr ⟨d, e, h1.dp S r1, h2.dp S r2, s1, s2, retF S q (FR.bl _) z⟩
theorem o_neI {i j : Int} (z : R (.f (.bool (!decide (i = j)))) l) : OpS K (rNeU K) (.f (.int i)) (.f (.int j)) l R := fun m B H vx vy S r1 r2 Q q => by
  refine .inl ?_
  rw [int_of r1, int_of r2]
  refine ⟨rfl, ?_⟩
  have e : decide (V.int i = V.int j) = decide (i = j) := decide_eq_decide.mpr ⟨fun h => V.int.inj h, fun h => by rw [h]⟩
  rw [e]
  exact retF S q (FR.bl _) z
theorem o_neS {i j : Str} (z : R (.f (.bool (!decide (i = j)))) l) : OpS K (rNeU K) (.f (.str i)) (.f (.str j)) l R := fun m B H vx vy S r1 r2 Q q => by
  refine .inl ?_
  rw [str_of r1, str_of r2]
  refine ⟨rfl, ?_⟩
  have e : decide (V.str i = V.str j) = decide (i = j) := decide_eq_decide.mpr ⟨fun h => V.str.inj h, fun h => by rw [h]⟩
  rw [e]
  exact retF S q (FR.bl _) z
theorem o_neP {x y : D} {d e : PyData} (h1 : Asd l x d) (h2 : Asd l y e) (s1 : SeqAt.shaped d = true) (s2 : SeqAt.shaped e = true) (z : R (.f (.bool (!PyData.eqv d e))) l) : OpS K (rNeU K) x y l R := fun m B H vx vy S r1 r2 Q q =>
  .inr ⟨d, e, h1.dp S r1, h2.dp S r2, s1, s2, retF S q (FR.bl _) z⟩
/-! in -/
def sPy (xs : List Str) : List PyData := xs.map .str
theorem frs_str : ∀ {vs : List V} {xs : List Str}, FRs K B vs (sPy xs) → vs = xs.map V.str
  | _, [], h => by cases h; rfl
  | _, x :: xs, h => by
    cases h with
    | cons h1 h2 =>
      cases h1
      rw [frs_str (xs := xs) h2]; rfl
theorem inV_str (x : Str) (xs : List Str) : inV (.str x) (xs.map V.str) = decide (x ∈ xs) := by
  unfold inV
  rw [List.any_map]
  induction xs with
  | nil => simp
  | cons y ys ih =>
    rw [List.any_cons, ih]
    have e : ((fun z => eqV z (V.str x)) ∘ V.str) y = decide (y = x) := by
      show (y == x) = _
      by_cases h : y = x
      · subst h; simp
      · rw [decide_eq_false h]; exact beq_eq_false_iff_ne.mpr h
    rw [e]
    by_cases h : x = y
    · subst h; simp
    · have h' : ¬ y = x := fun e => h e.symm
      simp [h, h']
theorem flat_str (xs : List Str) : (xs.map V.str).all flatV = true := by
  induction xs with
  | nil => rfl
  | cons x xs ih => rw [List.map_cons, List.all_cons, ih]; rfl
theorem o_inQS {neg : Bool} {x : Str} {y : D} {xs : List Str} (h : IsQ l y (sPy xs)) (z : R (.f (.bool (if neg then !decide (x ∈ xs) else decide (x ∈ xs)))) l) : OpS K (rInU K neg) (.f (.str x)) y l R := fun m B H vx vy S r1 r2 Q q => by
  obtain ⟨a, us, e1, e2, q1⟩ := h.at S r2
  have eu := frs_str q1
  subst eu
  refine .inl ⟨a, _, e1, e2, by rw [str_of r1]; rfl, flat_str xs, ?_⟩
  rw [str_of r1, inV_str]
  exact retF S q (FR.bl _) z
theorem o_inP {neg : Bool} {x y : D} {d : PyData} {ds : List PyData} (h1 : Asd l x d) (h : IsQ l y ds) (s1 : SeqAt.shaped d = true) (s2 : PyData.canLayAll0 ds = true)
    (z : R (.f (.bool (if neg then !(ds.any fun e => PyData.eqv e d) else ds.any fun e => PyData.eqv e d))) l) : OpS K (rInU K neg) x y l R := fun m B H vx vy S r1 r2 Q q => by
  refine .inr (.inr (.inl ⟨d, ds, h1.dp S r1, ?_, s1, s2, retF S q (FR.bl _) z⟩))
  rcases h with h | rfl
  · refine .inl ?_
    rcases h with rfl | ⟨n, rfl, hn⟩
    · exact (show Asd l (.f (.list ds)) (.list ds) from .inl rfl).dp S r2
    · exact (show Asd l (.own n) (.list ds) from .inr ⟨n, ds, rfl, hn, rfl⟩).dp S r2
  · exact .inr ((show Asd l (.f (.tuple ds)) (.tuple ds) from .inl rfl).dp S r2)
/-! dicts: keys by value -/
def keyD : Key → PyData
  | .inl i => .int i
  | .inr x => .str x
theorem kv_of {v : V} {k : Key} (h : FR K B v (keyD k)) : v = kV k := by
  cases k with
  | inl i => cases h; rfl
  | inr x => cases h; rfl
def lookD {κ : Type} [DecidableEq κ] (kvs : List (κ × PyData)) (k : κ) : Option PyData := (kvs.find? fun p => decide (p.1 = k)).map (·.2)
theorem look_of {κ : Type} [DecidableEq κ] {ks : List (κ × V)} {kvs : List (κ × PyData)} (h : Paired (fun (p : κ × V) (q : κ × PyData) => p.1 = q.1 ∧ FR K B p.2 q.2) ks kvs) (k : κ) :
    (valV ks k = none ∧ lookD kvs k = none) ∨ ∃ v d, valV ks k = some v ∧ lookD kvs k = some d ∧ FR K B v d := by
  induction h with
  | nil => exact .inl ⟨rfl, rfl⟩
  | @cons p q ps qs h t ih =>
    by_cases e : p.1 = k
    · refine .inr ⟨p.2, q.2, valV_pos e, ?_, h.2⟩
      unfold lookD
      rw [List.find?_cons, decide_eq_true (h.1.symm.trans e)]
      rfl
    · have e' : ¬ q.1 = k := fun z => e (h.1.trans z)
      rw [valV_neg e]
      have : lookD (q :: qs) k = lookD qs k := by
        unfold lookD
        rw [List.find?_cons, decide_eq_false e']
      rw [this]
      exact ih
theorem o_inDk {neg : Bool} {n : Nat} {k : Key} {kvs : List (Key × PyData)} (h : l[n]? = some (.dct kvs)) (z : R (.f (.bool (if neg then !(lookD kvs k).isSome else (lookD kvs k).isSome))) l) : OpS K (rInU K neg) (.f (keyD k)) (.own n) l R := fun m B H vx vy S r1 r2 Q q => by
  obtain ⟨a, rfl, ha⟩ := r2
  obtain ⟨⟨ks, e, pr⟩, _⟩ := S.obj n a _ ha h
  rw [kv_of (k := k) r1]
  refine .inr (.inl ⟨a, _, rfl, DGet.k e, ?_⟩)
  have e3 : (valV ks k).isSome = (lookD kvs k).isSome := by
    rcases look_of pr k with ⟨e1, e2⟩ | ⟨v, d, e1, e2, _⟩ <;> rw [e1, e2] <;> rfl
  rw [e3]
  exact retF S q (FR.bl _) z
theorem o_ixDk {n : Nat} {k : Key} {d : PyData} {kvs : List (Key × PyData)} (h : l[n]? = some (.dct kvs)) (hk : lookD kvs k = some d) (z : R (.f d) l) : OpS K (rIxU K) (.own n) (.f (keyD k)) l R := fun m B H vx vy S r1 r2 Q q => by
  obtain ⟨a, rfl, ha⟩ := r1
  obtain ⟨⟨ks, e, pr⟩, _⟩ := S.obj n a _ ha h
  rw [kv_of (k := k) r2]
  rcases look_of pr k with ⟨e1, e2⟩ | ⟨v, d', e1, e2, r⟩
  · rw [hk] at e2; cases e2
  · rw [hk] at e2; cases e2
    exact .inr ⟨a, v, rfl, by rw [← e1]; exact DGet.k e, ret0 S q (show VR K m B v (.f d) from r) z⟩
/-! subscripts -/
theorem frs_at {vs : List V} {ds : List PyData} {i : Int} {d : PyData} (h : FRs K B vs ds) (e : atI ds i = some d) : ∃ v, atI vs i = some v ∧ FR K B v d := by
  unfold atI at e ⊢
  rw [h.length]
  cases e2 : ixN ds.length i with
  | none => rw [e2] at e; cases e
  | some j =>
    rw [e2] at e
    exact h.get e
theorem o_ixQ {x : D} {ds : List PyData} {i : Int} {d : PyData} (h : IsQ l x ds) (hd : atI ds i = some d) (z : R (.f d) l) : OpS K (rIxU K) x (.f (.int i)) l R := fun m B H vx vy S r1 r2 Q q => by
  obtain ⟨a, us, e1, e2, q1⟩ := h.at S r1
  obtain ⟨v, ev, rv⟩ := frs_at q1 hd
  have fin := ret0 (d := .f d) S q rv z
  rcases e2 with e2 | e2
  · exact .inl (.inl ⟨a, us, i, v, e1, int_of r2, e2, ev, fin⟩)
  · exact .inl (.inr (.inl ⟨a, us, i, v, e1, int_of r2, e2, ev, fin⟩))
theorem o_ixSq {s : List Int} {i : Int} {k : Int} (hd : atI s i = some k) (z : R (.f (.int k)) l) : OpS K (rIxU K) (.sq s) (.f (.int i)) l R := fun m B H vx vy S r1 r2 Q q => by
  obtain ⟨a, e, h⟩ := r1
  have h' := S.sub.seq h
  have ev : atI (s.map V.int) i = some (.int k) := by
    unfold atI at hd ⊢
    rw [List.length_map]
    cases e2 : ixN s.length i with
    | none => rw [e2] at hd; cases hd
    | some j =>
      rw [e2] at hd
      show (s.map V.int)[j]? = _
      rw [List.getElem?_map, show s[j]? = some k from hd]
      rfl
  exact .inl (.inl ⟨a, _, i, .int k, e, int_of r2, h', ev, retF S q (FR.int k) z⟩)
theorem pair_get : ∀ {vs : List V} {ds : List D} {j : Nat} {d : D}, Paired (VR K m B) vs ds → ds[j]? = some d → ∃ v, vs[j]? = some v ∧ VR K m B v d
  | _, [], _, _, h, e => by simp at e
  | _, _ :: _, 0, _, h, e => by
    cases h with
    | cons h1 h2 => simp at e; subst e; exact ⟨_, rfl, h1⟩
  | _, _ :: _, j + 1, _, h, e => by
    cases h with
    | cons h1 h2 =>
      obtain ⟨v, a, b⟩ := pair_get (j := j) h2 (by simpa using e)
      exact ⟨v, by simpa using a, b⟩
theorem pair_at {vs : List V} {ds : List D} {i : Int} {d : D} (h : Paired (VR K m B) vs ds) (e : atI ds i = some d) : ∃ v, atI vs i = some v ∧ VR K m B v d := by
  unfold atI at e ⊢
  rw [pair_len h]
  cases e2 : ixN ds.length i with
  | none => rw [e2] at e; cases e
  | some j =>
    rw [e2] at e
    exact pair_get h e
theorem o_ixR {n : Nat} {ds : List D} {i : Int} {d : D} (h : l[n]? = some (.rfs ds)) (hd : atI ds i = some d) (z : R d l) : OpS K (rIxU K) (.own n) (.f (.int i)) l R := fun m B H vx vy S r1 r2 Q q => by
  obtain ⟨a, rfl, ha⟩ := r1
  obtain ⟨⟨xs, e, pr⟩, _⟩ := S.obj n a _ ha h
  obtain ⟨v, ev, rv⟩ := pair_at pr hd
  exact .inl (.inl ⟨a, xs, i, v, rfl, int_of r2, SqL.of e, ev, ret0 S q rv z⟩)
theorem o_ixTr {n : Nat} {ds : List D} {i : Int} {d : D} (h : l[n]? = some (.tpr ds)) (hd : atI ds i = some d) (z : R d l) : OpS K (rIxU K) (.own n) (.f (.int i)) l R := fun m B H vx vy S r1 r2 Q q => by
  obtain ⟨a, rfl, ha⟩ := r1
  obtain ⟨⟨xs, e, pr⟩, _⟩ := S.obj n a _ ha h
  obtain ⟨v, ev, rv⟩ := pair_at pr hd
  exact .inl (.inr (.inl ⟨a, xs, i, v, rfl, int_of r2, SqT.of e, ev, ret0 S q rv z⟩))
theorem o_ixS {x : Str} {i : Int} {c : Nat} (hl : x.length ≤ 100000) (hd : atI x.cps.toList i = some c) (z : R (.f (.str ⟨#[c]⟩)) l) : OpS K (rIxU K) (.f (.str x)) (.f (.int i)) l R := fun m B H vx vy S r1 r2 Q q =>
  .inl (.inr (.inr ⟨x, i, c, str_of r1, int_of r2, small hl, hd, retF S q (FR.str _) z⟩))
/-! len -/
theorem c_lenQ {x : D} {ds : List PyData} (h : IsQ l x ds) (z : R (.f (.int ds.length)) l) : CaS K (rLenU K) [x] l R := fun m B H vs S r Q q => by
  cases r with
  | cons r1 r2 =>
    cases r2
    obtain ⟨a, us, e1, e2, q1⟩ := h.at S r1
    refine .inl ⟨a, us, by rw [e1], e2, ?_⟩
    rw [q1.length]
    exact retF S q (FR.int _) z
theorem c_lenS {x : Str} (hl : x.length ≤ 100000) (z : R (.f (.int x.length)) l) : CaS K (rLenU K) [.f (.str x)] l R := fun m B H vs S r Q q => by
  cases r with
  | cons r1 r2 =>
    cases r2
    exact .inr (.inl ⟨x, by rw [str_of r1], small hl, retF S q (FR.int _) z⟩)
theorem c_lenSq {s : List Int} (z : R (.f (.int s.length)) l) : CaS K (rLenU K) [.sq s] l R := fun m B H vs S r Q q => by
  cases r with
  | cons r1 r2 =>
    cases r2
    obtain ⟨a, e, h⟩ := r1
    refine .inl ⟨a, _, by rw [e], .inl (S.sub.seq h), ?_⟩
    rw [List.length_map]
    exact retF S q (FR.int _) z
theorem pairK_len {α β γ : Type} {R : (α × β) → (α × γ) → Prop} {xs : List (α × β)} {ys : List (α × γ)} (h : Paired R xs ys) : xs.length = ys.length := h.length
theorem c_lenD {n : Nat} {kvs : List (Key × PyData)} (h : l[n]? = some (.dct kvs)) (z : R (.f (.int kvs.length)) l) : CaS K (rLenU K) [.own n] l R := fun m B H vs S r Q q => by
  cases r with
  | cons r1 r2 =>
    cases r2
    obtain ⟨a, e1, ha⟩ := r1
    obtain ⟨⟨ks, e, pr⟩, _⟩ := S.obj n a _ ha h
    refine .inr (.inr ⟨a, ks, by rw [e1], e, ?_⟩)
    rw [pr.length]
    exact retF S q (FR.int _) z
end
end L3

/-! L3f: what is walked, methods, slices, built-in calls -/
namespace L3
open PySem L2

/-! ### a list or a tuple is walked -/
section
variable {X : Cx} {tg : Expr}
def iSeq (K : PySem.W.Frag) (tl : TE) : TI := fun σ H R => tl σ H fun x H1 => ∃ a, x = .ref a ∧ (((∃ xs, SqL K H1 a xs) ∧ R (Itl K a) H1) ∨ ((∃ xs, SqT K H1 a xs) ∧ R (Itt K a) H1))
theorem u_seq {K : PySem.W.Frag} (hK : X.K = K) {e : Expr} {tl : TE} (he : PE X e tl) : PI X tg e (iSeq K tl) := by
  subst hK
  refine ⟨fun pins st σ H R I h => thn (he.run pins st σ H _ I h) fun v s1 ⟨x, H1, I1, r1, a, ex, q1⟩ => ?_⟩
  subst ex
  cases r1
  have fp : ∀ b ∈ [s1.heap.objs.size], FpOk X pins H1 b := fun b hb => by
    have eb : b = s1.heap.objs.size := by simpa using hb
    rw [eb]
    exact I1.fpOk (Nat.le_refl _) (I1.hok.fresh (Nat.le_refl _))
  rcases q1 with ⟨⟨xs, hq⟩, q1⟩ | ⟨⟨xs, hq⟩, q1⟩
  · obtain ⟨its, _, pl, _⟩ := I1.list hq
    exact wpAny_pyIter_list pl.isList ⟨_, _, _, _, H1, rfl, I1.kept (t' := s1.toks) fun _ _ z => Heap.get?_push_of_some _ z, turn_list a _, ⟨_, Heap.get?_push_size _ rfl, rfl, rfl⟩, fp, q1⟩
  · obtain ⟨its, _, pl, _⟩ := I1.tuple hq
    exact wpAny_pyIter_tuple (show s1.heap.IsTuple a its.toArray from pl) ⟨_, _, _, _, H1, rfl, I1.kept (t' := s1.toks) fun _ _ z => Heap.get?_push_of_some _ z, turn_tuple a _, ⟨_, Heap.get?_push_size _ rfl, rfl, rfl⟩, fp, q1⟩
/-- slices of lists, texts, tuples (a tuple's not the whole) -/
def rSlU (K : PySem.W.Frag) : V → Option Int → Option Int → Hp → VK → Prop := fun x lo hi H Q => rSlL K x lo hi H Q ∨ rSlS x lo hi H Q ∨ rSlT K x lo hi H Q
theorem u_sl {K : PySem.W.Frag} (hK : X.K = K) : SlR X (rSlU K) := by
  subst hK
  exact SlR.or sl_list (SlR.or sl_str sl_tup)
theorem u_tup {K : PySem.W.Frag} (hK : X.K = K) {es : List Expr} {k : Nat} {t : TGs} {n : Nat} {pos : Pos} (hc : X.calm = true) (h : PGs X es t)
    (hn : (assignEach es X.env).length = n := by rfl) (hst : (assignEach es X.env).findIdx? (·.1) = none := by rfl) : PG X (.Tuple es k pos) (gTup K n t) := by
  subst hK
  exact pg_tup hc h hn hst
theorem u_bm {K : PySem.W.Frag} (hK : X.K = K) {o e : Expr} {es : List Expr} {to : TE} {t : TA} {name : Str} {apos cpos : Pos} {T id : String} {r : V → List V → Hp → VK → Prop} (pa : PlainAttrs T) (slot : Slot T name id) (hty : typeOf (.builtin id) = pure (.type "method_descriptor")) (hm : MtR X id r) (ho : PE X o to) (ha : PA X (e :: es) t)
    (hbase : attributeBase o name X.env (eval o X.env) = eval o X.env := by rfl)
    (hfew : ((backTo cpos (starEach (e :: es) X.env)).all (fun x => !x.1) && (backToKw cpos (keywordEach [] X.env)).all (fun x => x.1.isSome)
      && decide ((e :: es).length + ([] : List Keyword).length + (if ([] : List Keyword).isEmpty then 0 else 1) < 30)) = true := by rfl)
    (hline : (apos.endLine == cpos.line) = true := by rfl) (hs : starEach (e :: es) X.env = (false, eval e X.env) :: starEach es X.env := by rfl) (hplain : (backTo cpos (starEach es X.env)).any (·.1) = false := by rfl) :
    PE X (.Call (.Attribute o name apos) (e :: es) [] cpos) (tBM K T r to t) := by
  subst hK
  exact pe_bm pa slot hty hm ho ha hbase hfew hline hs hplain
theorem u_bm0 {K : PySem.W.Frag} (hK : X.K = K) {o : Expr} {to : TE} {name : Str} {apos cpos : Pos} {T id : String} {r : V → List V → Hp → VK → Prop} (pa : PlainAttrs T) (slot : Slot T name id) (hty : typeOf (.builtin id) = pure (.type "method_descriptor")) (hm : MtR X id r) (ho : PE X o to)
    (hbase : attributeBase o name X.env (eval o X.env) = eval o X.env := by rfl) (hline : (apos.endLine == cpos.line) = true := by rfl) : PE X (.Call (.Attribute o name apos) [] [] cpos) (tBM0 K T r to) := by
  subst hK
  exact pe_bm0 pa slot hty hm ho hbase hline
end
section
variable {K : PySem.W.Frag} {m m' m2 : List Addr} {B B' B2 H H' H2 : Hp} {l : List O} {σ : St} {ρ : List (Option D)} {R R' : D → List O → Prop} {E E' : E3} {ta tb te tc tl : TE} {tt tu : TT} {t u : TS} {ty tz : TA} {g : TG} {gs : TGs}
theorem itok_list {a : Addr} {xs : List V} {x : D} {ds : List PyData} (hx : VR K m B (.ref a) x) : (∀ l', IsL l' x ds → True) → ItOk K m B (Itl K a) (fun l' => IsL l' x ds) ds.length (fun i => .f (ds.getD i .none)) := fun _ i m' B' H' l' hs hp S P => by
  obtain ⟨a', us, e1, e2, q⟩ := P.at S (hx.up hs hp)
  cases e1
  have hl := q.length
  refine ⟨fun hi => ?_, fun hi => ⟨us, SqL.of e2, by omega⟩⟩
  have hd : ds[i]? = some ds[i] := by simp [hi]
  obtain ⟨v, hv, rv⟩ := q.get hd
  refine ⟨⟨us, v, SqL.of e2, hv⟩, fun y H3 ⟨eH, hy⟩ => ?_⟩
  subst eH
  have := hy us (SqL.of e2)
  rw [hv] at this; cases this
  refine ⟨B', Step.refl _ _ _, S, ?_⟩
  show FR K B' v (ds.getD i .none)
  rw [List.getD_eq_getElem?_getD, hd]
  exact rv
theorem itok_tup {a : Addr} {ds : List PyData} (hx : VR K m B (.ref a) (.f (.tuple ds))) : ItOk K m B (Itt K a) (fun l' => True) ds.length (fun i => .f (ds.getD i .none)) := fun i m' B' H' l' hs hp S _ => by
  have hx' := hx.up hs hp
  cases hx' with
  | @tup _ us _ h1 q =>
    have h1' := sqT_same S.sub h1.sq
    have hl := q.length
    refine ⟨fun hi => ?_, fun hi => ⟨us, h1', by omega⟩⟩
    have hd : ds[i]? = some ds[i] := by simp [hi]
    obtain ⟨v, hv, rv⟩ := q.get hd
    refine ⟨⟨us, v, h1', hv⟩, fun y H3 ⟨eH, hy⟩ => ?_⟩
    subst eH
    have := hy us h1'
    rw [hv] at this; cases this
    refine ⟨B', Step.refl _ _ _, S, ?_⟩
    show FR K B' v (ds.getD i .none)
    rw [List.getD_eq_getElem?_getD, hd]
    exact rv
theorem i_seq {R : (List O → Prop) → Nat → (Nat → D) → List O → Prop} (h : EvS K tl ρ l fun x l1 => ∃ ds, IsQ l1 x ds ∧ R (fun l' => IsQ l' x ds) ds.length (fun i => .f (ds.getD i .none)) l1) : EvI K (iSeq K tl) ρ l R := fun m B H σ S e Rt q => by
  refine h m B H σ S e _ fun v m1 B1 H1 x l1 s1 S1 r1 ⟨ds, hq, z⟩ => ?_
  rcases hq with hL | rfl
  · obtain ⟨a, us, rfl, e2, qq⟩ := hL.at S1 r1
    refine ⟨a, rfl, .inl ⟨⟨us, SqL.of e2⟩, q (Itl K a) m1 B1 H1 l1 _ _ _ s1 S1 (fun i m' B' H' l' hs hp S' P => ?_) z⟩⟩
    have P' : IsL l' x ds := by
      rcases P with P | rfl
      · exact P
      · rcases hL with e | ⟨n, e, _⟩ <;> cases e
    exact itok_list (xs := us) r1 (fun _ _ => trivial) i m' B' H' l' hs hp S' P'
  · obtain ⟨a, us, rfl, e2, qq⟩ := (show IsQ l1 (.f (.tuple ds)) ds from .inr rfl).at S1 r1
    refine ⟨a, rfl, .inr ⟨?_, q (Itt K a) m1 B1 H1 l1 _ _ _ s1 S1 (fun i m' B' H' l' hs hp S' P => itok_tup r1 i m' B' H' l' hs hp S' trivial) z⟩⟩
    cases r1 with
    | tup h1 h2 => exact ⟨_, sqT_same S1.sub h1.sq⟩
/-- FOR over a list or tuple of data -/
theorem x_forQ (h : EvS K tl ρ l fun x l1 => ∃ ds, IsQ l1 x ds ∧ ∃ I : Nat → List (Option D) → List O → Prop, I 0 ρ l1 ∧ (∀ i ρ' l', i ≤ ds.length → I i ρ' l' → IsQ l' x ds) ∧
      (∀ i d ρ' l', ds[i]? = some d → I i ρ' l' → AsS K g (.f d) ρ' l' fun ρ2 l2 => ExS K t ρ2 l2 ⟨I (i + 1), E.rt, E.nx, I (i + 1)⟩) ∧ ∀ ρ' l', I ds.length ρ' l' → E.nx ρ' l') : ExS K (tFor (iSeq K tl) g t) ρ l E :=
  x_for (i_seq (h.imp fun x l1 ⟨ds, hq, I, h0, hP, hs, hd⟩ => ⟨ds, hq, I, h0, hP, fun i ρ' l' hi z => by
    have e : ds[i]? = some (ds.getD i .none) := by rw [List.getD_eq_getElem?_getD]; simp [hi]
    exact hs i _ ρ' l' e z, hd⟩))
theorem i_rng1 {R : (List O → Prop) → Nat → (Nat → D) → List O → Prop} (h : EvA K ty ρ l fun ds l1 => ∃ j : Int, ds = [.f (.int j)] ∧ -(2 ^ 62) ≤ j ∧ j < 2 ^ 62 ∧ R (fun _ => True) j.toNat (fun i => .f (.int i)) l1) : EvI K (iRng1 ty) ρ l R := fun m B H σ S e Rt q => by
  refine h m B H σ S e _ fun vs m1 B1 H1 ds l1 s1 S1 r1 ⟨j, eds, h1, h2, z⟩ => ?_
  subst eds
  cases r1 with
  | cons r r' =>
    cases r'
    refine ⟨j, by rw [int_of r], h1, h2, q _ m1 B1 H1 l1 _ _ _ s1 S1 (fun i m' B' H' l' hs hp S' _ => ⟨fun hi => ⟨hi, fun y H3 ⟨eH, hy⟩ => ?_⟩, fun hi => Nat.le_of_eq hi.symm⟩) z⟩
    subst eH hy
    refine ⟨B', Step.refl _ _ _, S', ?_⟩
    rw [Int.zero_add]
    exact FR.int _
theorem i_rng2 {R : (List O → Prop) → Nat → (Nat → D) → List O → Prop} (h : EvA K ty ρ l fun ds l1 => ∃ a j : Int, ds = [.f (.int a), .f (.int j)] ∧ (-(2 ^ 62) ≤ a ∧ a < 2 ^ 62 ∧ -(2 ^ 62) ≤ j ∧ j < 2 ^ 62) ∧ R (fun _ => True) (j - a).toNat (fun i => .f (.int (a + i))) l1) : EvI K (iRng2 ty) ρ l R := fun m B H σ S e Rt q => by
  refine h m B H σ S e _ fun vs m1 B1 H1 ds l1 s1 S1 r1 ⟨a, j, eds, h1, z⟩ => ?_
  subst eds
  cases r1 with
  | cons r r' =>
    cases r' with
    | cons r2 r3 =>
      cases r3
      refine ⟨a, j, by rw [int_of r, int_of r2], h1, q _ m1 B1 H1 l1 _ _ _ s1 S1 (fun i m' B' H' l' hs hp S' _ => ⟨fun hi => ⟨hi, fun y H3 ⟨eH, hy⟩ => ?_⟩, fun hi => Nat.le_of_eq hi.symm⟩) z⟩
      subst eH hy
      exact ⟨B', Step.refl _ _ _, S', FR.int _⟩
/-- FOR over range(n) -/
theorem x_forR (h : EvA K ty ρ l fun ds l1 => ∃ j : Int, ds = [.f (.int j)] ∧ -(2 ^ 62) ≤ j ∧ j < 2 ^ 62 ∧ ∃ I : Nat → List (Option D) → List O → Prop, I 0 ρ l1 ∧
      (∀ (i : Nat) ρ' l', i < j.toNat → I i ρ' l' → AsS K g (.f (.int i)) ρ' l' fun ρ2 l2 => ExS K t ρ2 l2 ⟨I (i + 1), E.rt, E.nx, I (i + 1)⟩) ∧ ∀ ρ' l', I j.toNat ρ' l' → E.nx ρ' l') : ExS K (tFor (iRng1 ty) g t) ρ l E :=
  x_for (i_rng1 fun m B H σ S e Q q => h m B H σ S e Q fun vs m' B' H' ds l' s S' r ⟨j, e1, e2, e3, I, h0, hs, hd⟩ => q vs m' B' H' ds l' s S' r ⟨j, e1, e2, e3, I, h0, fun _ _ _ _ _ => trivial, hs, hd⟩)
/-- a comprehension over a list or tuple of data -/
theorem e_lcQ {vs : List Nat} (hg : GG g vs) (h : EvS K tl ρ l fun x l1 => ∃ ds, IsQ l1 x ds ∧ ∃ I : Nat → List PyData → List O → Prop, I 0 [] l1 ∧ (∀ i acc l', i ≤ ds.length → I i acc l' → IsQ l' x ds ∧ acc.length ≤ 100000) ∧
      (∀ i d acc l', ds[i]? = some d → I i acc l' → AsS K g (.f d) (wipe3 ρ vs) l' fun ρ2 l2 => EvT K tt ρ2 l2 fun b l3 => if b = true then EvS K te ρ2 l3 fun d l4 => ∃ y, d = .f y ∧ I (i + 1) (acc ++ [y]) l4 else I (i + 1) acc l3) ∧
      ∀ acc l', I ds.length acc l' → R (.own l'.length) (l' ++ [.lst acc])) : EvS K (tLc (iSeq K tl) g tt te vs) ρ l R :=
  e_lc (good_of hg) (i_seq (h.imp fun x l1 ⟨ds, hq, I, h0, hP, hs, hd⟩ => ⟨ds, hq, I, h0, hP, fun i acc l' hi z => by
    have e : ds[i]? = some (ds.getD i .none) := by rw [List.getD_eq_getElem?_getD]; simp [hi]
    exact hs i _ acc l' e z, hd⟩))
/-- .. over range(n) -/
theorem e_lcR {vs : List Nat} (hg : GG g vs) (h : EvA K ty ρ l fun ds l1 => ∃ j : Int, ds = [.f (.int j)] ∧ -(2 ^ 62) ≤ j ∧ j < 2 ^ 62 ∧ ∃ I : Nat → List PyData → List O → Prop, I 0 [] l1 ∧ (∀ i acc l', i ≤ j.toNat → I i acc l' → acc.length ≤ 100000) ∧
      (∀ (i : Nat) acc l', i < j.toNat → I i acc l' → AsS K g (.f (.int i)) (wipe3 ρ vs) l' fun ρ2 l2 => EvT K tt ρ2 l2 fun b l3 => if b = true then EvS K te ρ2 l3 fun d l4 => ∃ y, d = .f y ∧ I (i + 1) (acc ++ [y]) l4 else I (i + 1) acc l3) ∧
      ∀ acc l', I j.toNat acc l' → R (.own l'.length) (l' ++ [.lst acc])) : EvS K (tLc (iRng1 ty) g tt te vs) ρ l R :=
  e_lc (good_of hg) (i_rng1 fun m B H σ S e Q q => h m B H σ S e Q fun vs m' B' H' ds l' s S' r ⟨j, e1, e2, e3, I, h0, hP, hs, hd⟩ => q vs m' B' H' ds l' s S' r ⟨j, e1, e2, e3, I, h0, fun i acc l' hi z => ⟨trivial, hP i acc l' hi z⟩, hs, hd⟩)
theorem t_yes {R : Bool → List O → Prop} (r : R true l) : EvT K tYes ρ l R := fun m B H σ S e Q q => q m B H true l (Step.refl _ _ _) S r
theorem take_next {α : Type} {ds : List α} {i : Nat} {d : α} (h : ds[i]? = some d) : ds.take (i + 1) = ds.take i ++ [d] := by
  rw [List.take_succ, h]; rfl
/-- a comprehension that reads alone -/
theorem e_lcF {vs : List Nat} (F : PyData → Option PyData) (hg : GG g vs) (h : EvS K tl ρ l fun x l1 => ∃ ds, IsQ l1 x ds ∧ ds.length ≤ 100000 ∧
      (∀ d, d ∈ ds → AsS K g (.f d) (wipe3 ρ vs) l1 fun ρ2 l2 => EvT K tt ρ2 l2 fun b l3 => if b = true then EvS K te ρ2 l3 fun z l4 => ∃ y, z = .f y ∧ F d = some y ∧ l4 = l1 else F d = none ∧ l3 = l1) ∧
      R (.own l1.length) (l1 ++ [.lst (ds.filterMap F)])) : EvS K (tLc (iSeq K tl) g tt te vs) ρ l R := by
  refine e_lcQ hg (h.imp fun x l1 ⟨ds, hq, hl, hs, hd⟩ => ⟨ds, hq, fun i acc l' => l' = l1 ∧ acc = (ds.take i).filterMap F, ⟨rfl, by simp⟩, ?_, ?_, ?_⟩)
  · rintro i acc l' hi ⟨rfl, rfl⟩
    refine ⟨hq, Nat.le_trans (List.length_filterMap_le _ _) ?_⟩
    rw [List.length_take]; omega
  · rintro i d acc l' hd' ⟨rfl, rfl⟩
    intro m B H σ v S e hv Q q
    refine hs d (List.mem_of_getElem? hd') m B H σ v S e hv Q fun σ' ρ' m' B' H' l2 s S' e' z => q σ' ρ' m' B' H' l2 s S' e' (z.imp fun b l3 w => ?_)
    cases b with
    | true => exact w.imp fun z l4 ⟨y, e1, e2, e3⟩ => ⟨y, e1, e3, by rw [take_next hd', List.filterMap_append]; simp [e2]⟩
    | false =>
      obtain ⟨e1, e2⟩ := w
      exact ⟨e2, by rw [take_next hd', List.filterMap_append]; simp [e1]⟩
  · rintro acc l' ⟨rfl, rfl⟩
    rw [List.take_length]
    exact hd

/-! ### methods -/
theorem e_bmL {r : V → List V → Hp → VK → Prop} {to : TE} (h : EvS K to ρ l fun x l1 => (∃ ds, IsL l1 x ds) ∧ EvA K ty ρ l1 fun es l2 => MeS K r x es l2 R) : EvS K (tBM K "list" r to ty) ρ l R := fun m B H σ S e Q q => by
  refine h m B H σ S e _ fun v m1 B1 H1 x l1 s1 S1 r1 ⟨⟨ds, hL⟩, z⟩ => ?_
  obtain ⟨a, us, rfl, e2, qq⟩ := hL.at S1 r1
  refine ⟨.inl ⟨rfl, us, SqL.of e2⟩, z m1 B1 H1 σ S1 (e.step s1) _ fun vs m2 B2 H2 es l2 s2 S2 r2 z2 => ?_⟩
  exact z2 m2 B2 H2 _ vs S2 (r1.step s2) r2 Q (q.step (s1.trans s2))
theorem e_bmR {r : V → List V → Hp → VK → Prop} {to : TE} (h : EvS K to ρ l fun x l1 => (∃ n ds, x = .own n ∧ l1[n]? = some (.rfs ds)) ∧ EvA K ty ρ l1 fun es l2 => MeS K r x es l2 R) : EvS K (tBM K "list" r to ty) ρ l R := fun m B H σ S e Q q => by
  refine h m B H σ S e _ fun v m1 B1 H1 x l1 s1 S1 r1 ⟨⟨n, ds, ex, hn⟩, z⟩ => ?_
  subst ex
  obtain ⟨a, rfl, ha⟩ := id r1
  obtain ⟨⟨us, e2, _⟩, _⟩ := S1.obj n a _ ha hn
  refine ⟨.inl ⟨rfl, us, SqL.of e2⟩, z m1 B1 H1 σ S1 (e.step s1) _ fun vs m2 B2 H2 es l2 s2 S2 r2 z2 => ?_⟩
  exact z2 m2 B2 H2 _ vs S2 (r1.step s2) r2 Q (q.step (s1.trans s2))
theorem e_bmL0 {r : V → List V → Hp → VK → Prop} {to : TE} (h : EvS K to ρ l fun x l1 => (∃ ds, IsL l1 x ds) ∧ MeS K r x [] l1 R) : EvS K (tBM0 K "list" r to) ρ l R := fun m B H σ S e Q q => by
  refine h m B H σ S e _ fun v m1 B1 H1 x l1 s1 S1 r1 ⟨⟨ds, hL⟩, z⟩ => ?_
  obtain ⟨a, us, rfl, e2, qq⟩ := hL.at S1 r1
  exact ⟨.inl ⟨rfl, us, SqL.of e2⟩, z m1 B1 H1 _ [] S1 r1 .nil Q (q.step s1)⟩
theorem writeL {Q : VK} {n : Nat} {a : Addr} {xs : List V} {ds : List PyData} {v : V} {d : PyData} (S : SR K m B H l) (q : Post K m B H R Q) (hn : m[n]? = some a) (hb : B a = none) (r : FRs K B xs ds) (rv : FR K B v d)
    (z : R (.f d) (l.set n (.lst ds))) : Q v (upd H a (.lst xs)) := by
  obtain ⟨S2, s2⟩ := S.write (u := .lst xs) (o := .lst ds) hn hb ⟨xs, upd_same, r⟩
  exact q _ _ _ _ (.f d) _ s2 S2 rv z
theorem m_append {n : Nat} {ds : List PyData} {d : PyData} (h : l[n]? = some (.lst ds)) (hl : ds.length ≤ 100000) (z : R (.f .none) (l.set n (.lst (ds ++ [d])))) : MeS K rAppend (.own n) [.f d] l R := fun m B H vx vs S r1 r2 Q q => by
  obtain ⟨a, rfl, ha⟩ := r1
  obtain ⟨⟨xs, e, pr⟩, hb⟩ := S.obj n a _ ha h
  cases r2 with
  | cons r2 r3 =>
    cases r3
    exact ⟨a, xs, _, rfl, rfl, e, small' (by rw [pr.length]; exact hl), writeL S q ha (hb (by simp)) (pr.append (FRs.one r2)) FR.non z⟩
/-- a reference put behind a list with references -/
theorem m_appendR {n : Nat} {ds : List D} {d : D} (h : l[n]? = some (.rfs ds)) (hl : ds.length ≤ 100000) (z : R (.f .none) (l.set n (.rfs (ds ++ [d])))) : MeS K rAppend (.own n) [d] l R := fun m B H vx vs S r1 r2 Q q => by
  obtain ⟨a, rfl, ha⟩ := r1
  obtain ⟨⟨xs, e, pr⟩, hb⟩ := S.obj n a _ ha h
  cases r2 with
  | cons r2 r3 =>
    cases r3
    have app : ∀ {us : List V} {es : List D} {w : V}, Paired (VR K m B) us es → VR K m B w d → Paired (VR K m B) (us ++ [w]) (es ++ [d]) := fun {us es w} p r => by
      induction p with
      | nil => exact .cons r .nil
      | cons h t ih => exact .cons h ih
    obtain ⟨S2, s2⟩ := S.write (u := .lst (xs ++ [_])) (o := .rfs (ds ++ [d])) ha (hb (by simp)) ⟨_, upd_same, app pr r2⟩
    exact ⟨a, xs, _, rfl, rfl, e, small' (by rw [pair_len pr]; exact hl), q _ _ _ _ (.f .none) _ s2 S2 FR.non z⟩
def rInsert : V → List V → Hp → VK → Prop := fun x vs H Q => ∃ (l : Addr) (xs : List V) (i : Int) (y : V), x = .ref l ∧ vs = [.int i, y] ∧ H l = some (.lst xs) ∧ xs.length < sizeLine ∧ 0 ≤ i ∧ i < 2 ^ 63 ∧
    Q .non (upd H l (.lst (xs.take i.toNat ++ [y] ++ xs.drop i.toNat)))
theorem u_insert {X : Cx} : MtR X "list.insert" rInsert := mt_insert
theorem m_insert {n : Nat} {ds : List PyData} {i : Int} {d : PyData} (h : l[n]? = some (.lst ds)) (hl : ds.length ≤ 100000) (h0 : 0 ≤ i) (h1 : i < 2 ^ 63) (z : R (.f .none) (l.set n (.lst (ds.take i.toNat ++ [d] ++ ds.drop i.toNat)))) :
    MeS K rInsert (.own n) [.f (.int i), .f d] l R := fun m B H vx vs S r1 r2 Q q => by
  obtain ⟨a, rfl, ha⟩ := r1
  obtain ⟨⟨xs, e, pr⟩, hb⟩ := S.obj n a _ ha h
  cases r2 with
  | cons r2 r3 =>
    cases r3 with
    | cons r3 r4 =>
      cases r4
      exact ⟨a, xs, i, _, rfl, by rw [int_of r2], e, small' (by rw [pr.length]; exact hl), h0, h1, writeL S q ha (hb (by simp)) (((pr.take _).append (FRs.one r3)).append (pr.drop _)) FR.non z⟩
theorem m_extend {n : Nat} {ds es : List PyData} {y : D} (h : l[n]? = some (.lst ds)) (hy : IsL l y es) (hl : ds.length + es.length ≤ 100000) (z : R (.f .none) (l.set n (.lst (ds ++ es)))) : MeS K rExtend (.own n) [y] l R := fun m B H vx vs S r1 r2 Q q => by
  obtain ⟨a, rfl, ha⟩ := r1
  obtain ⟨⟨xs, e, pr⟩, hb⟩ := S.obj n a _ ha h
  cases r2 with
  | cons r2 r3 =>
    cases r3
    obtain ⟨b, us, rfl, e2, pr2⟩ := hy.at S r2
    exact ⟨a, b, xs, us, rfl, rfl, e, e2, small (by rw [pr.length, pr2.length]; exact hl), writeL S q ha (hb (by simp)) (pr.append pr2) FR.non z⟩
theorem m_clear {n : Nat} {ds : List PyData} (h : l[n]? = some (.lst ds)) (z : R (.f .none) (l.set n (.lst []))) : MeS K rClear (.own n) [] l R := fun m B H vx vs S r1 r2 Q q => by
  obtain ⟨a, rfl, ha⟩ := r1
  obtain ⟨⟨xs, e, pr⟩, hb⟩ := S.obj n a _ ha h
  cases r2
  exact ⟨a, xs, rfl, rfl, e, writeL S q ha (hb (by simp)) .nil FR.non z⟩
/-! texts -/
theorem e_m1 {r : V → List V → Hp → VK → Prop} (h : EvS K ta ρ l fun x l1 => (∃ s, x = .f (.str s)) ∧ EvS K tb ρ l1 fun y l2 => MeS K r x [y] l2 R) : EvS K (tM1 r ta tb) ρ l R := fun m B H σ S e Q q => by
  refine h m B H σ S e _ fun v m1 B1 H1 x l1 s1 S1 r1 ⟨⟨s, ex⟩, z⟩ => ?_
  subst ex
  refine ⟨⟨s, str_of r1⟩, z m1 B1 H1 σ S1 (e.step s1) _ fun w m2 B2 H2 y l2 s2 S2 r2 z2 => ?_⟩
  exact z2 m2 B2 H2 v [w] S2 (r1.step s2) (.cons r2 .nil) Q (q.step (s1.trans s2))
def rJoin (K : PySem.W.Frag) : V → List V → Hp → VK → Prop := fun x xs H Q => ∃ a p, ∃ ys : List Str, x = .str a ∧ xs = [.ref p] ∧ (SqL K H p (ys.map V.str) ∨ SqT K H p (ys.map V.str)) ∧
    (ys.map (·.length)).sum + ys.length * a.length ≤ 16777216 ∧ Q (.str (Txt.join a ys)) H
theorem m_join {s : Str} {y : D} {ys : List Str} (hy : IsQ l y (sPy ys)) (hl : (ys.map (·.length)).sum + ys.length * s.length ≤ 16777216) (z : R (.f (.str (Txt.join s ys))) l) : MeS K (rJoin K) (.f (.str s)) [y] l R := fun m B H vx vs S r1 r2 Q q => by
  cases r2 with
  | cons r2 r3 =>
    cases r3
    obtain ⟨a, us, rfl, e2, pr⟩ := hy.at S r2
    have eu := frs_str pr
    subst eu
    exact ⟨s, a, ys, str_of r1, rfl, e2, hl, retF S q (FR.str _) z⟩
/-! ### slices -/
def cutD (ds : List PyData) (lo hi : Option Int) : List PyData := (ds.drop (HT.sIx ds.length 0 lo)).take (HT.sIx ds.length ds.length hi - HT.sIx ds.length 0 lo)
theorem frs_cut {vs : List V} {ds : List PyData} {lo hi : Option Int} (h : FRs K B vs ds) : FRs K B (cutV vs lo hi) (cutD ds lo hi) := by
  unfold cutV cutD
  rw [h.length]
  exact (h.drop _).take _
def SlS (K : PySem.W.Frag) (r : V → Option Int → Option Int → Hp → VK → Prop) (x : D) (lo hi : Option Int) (l : List O) (R : D → List O → Prop) : Prop :=
  ∀ m B H vx, SR K m B H l → VR K m B vx x → ∀ Q : VK, Post K m B H R Q → r vx lo hi H Q
theorem e_sl {r : V → Option Int → Option Int → Hp → VK → Prop} {th tk : TO} (h : EvS K te ρ l fun x l1 => EvO K th ρ l1 fun lo l2 => EvO K tk ρ l2 fun hi l3 => SlS K r x lo hi l3 R) : EvS K (tSl r te th tk) ρ l R := fun m B H σ S e Q q => by
  refine h m B H σ S e _ fun v m1 B1 H1 x l1 s1 S1 r1 z1 => ?_
  refine z1 m1 B1 H1 σ S1 (e.step s1) _ fun m2 B2 H2 lo l2 s2 S2 z2 => ?_
  refine z2 m2 B2 H2 σ S2 (e.step (s1.trans s2)) _ fun m3 B3 H3 hi l3 s3 S3 z3 => ?_
  exact z3 m3 B3 H3 v S3 (r1.step (s2.trans s3)) Q (q.step ((s1.trans s2).trans s3))
theorem s_list {x : D} {ds : List PyData} {lo hi : Option Int} (h : IsL l x ds) (z : R (.own l.length) (l ++ [.lst (cutD ds lo hi)])) : SlS K (rSlU K) x lo hi l R := fun m B H vx S r1 Q q => by
  obtain ⟨a, us, rfl, e2, pr⟩ := h.at S r1
  exact .inl ⟨a, us, rfl, SqL.of e2, fun p hp => retL S q hp (frs_cut pr) z⟩
theorem s_listF {x : D} {ds : List PyData} {lo hi : Option Int} (h : IsL l x ds) (z : R (.f (.list (cutD ds lo hi))) l) : SlS K (rSlU K) x lo hi l R := fun m B H vx S r1 Q q => by
  obtain ⟨a, us, rfl, e2, pr⟩ := h.at S r1
  exact .inl ⟨a, us, rfl, SqL.of e2, fun p hp => retLF S q hp (frs_cut pr) z⟩
theorem s_str {x : Str} {lo hi : Option Int} (hl : x.length ≤ 100000) (z : R (.f (.str (cutS x lo hi))) l) : SlS K (rSlU K) (.f (.str x)) lo hi l R := fun m B H vx S r1 Q q =>
  .inr (.inl ⟨x, str_of r1, small hl, retF S q (FR.str _) z⟩)
theorem s_tup {ds : List PyData} {lo hi : Option Int} (hw : ¬ (HT.sIx ds.length 0 lo = 0 ∧ HT.sIx ds.length ds.length hi = ds.length)) (z : R (.f (.tuple (cutD ds lo hi))) l) : SlS K (rSlU K) (.f (.tuple ds)) lo hi l R := fun m B H vx S r1 Q q => by
  cases r1 with
  | @tup a us _ h1 pr => exact .inr (.inr ⟨a, us, rfl, sqT_same S.sub h1.sq, by rw [pr.length]; exact hw, fun p hp => retT S q hp (frs_cut pr) z⟩)
/-! ### built-in calls -/
def rAbs : List V → Hp → VK → Prop := fun xs H Q => ∃ i, xs = [.int i] ∧ Q (.int (if i < 0 then -i else i)) H
theorem c_abs {i : Int} (z : R (.f (.int (if i < 0 then -i else i))) l) : CaS K rAbs [.f (.int i)] l R := fun m B H vs S r Q q => by
  cases r with
  | cons r1 r2 =>
    cases r2
    exact ⟨i, by rw [int_of r1], retF S q (FR.int _) z⟩
def rMin2 : List V → Hp → VK → Prop := fun xs H Q => ∃ i j, xs = [.int i, .int j] ∧ Q (.int (if j < i then j else i)) H
def rMax2 : List V → Hp → VK → Prop := fun xs H Q => ∃ i j, xs = [.int i, .int j] ∧ Q (.int (if j > i then j else i)) H
theorem c_min2 {i j : Int} (z : R (.f (.int (if j < i then j else i))) l) : CaS K rMin2 [.f (.int i), .f (.int j)] l R := fun m B H vs S r Q q => by
  cases r with
  | cons r1 r2 =>
    cases r2 with
    | cons r2 r3 =>
      cases r3
      exact ⟨i, j, by rw [int_of r1, int_of r2], retF S q (FR.int _) z⟩
theorem c_max2 {i j : Int} (z : R (.f (.int (if j > i then j else i))) l) : CaS K rMax2 [.f (.int i), .f (.int j)] l R := fun m B H vs S r Q q => by
  cases r with
  | cons r1 r2 =>
    cases r2 with
    | cons r2 r3 =>
      cases r3
      exact ⟨i, j, by rw [int_of r1, int_of r2], retF S q (FR.int _) z⟩
def rInt1 : List V → Hp → VK → Prop := fun xs H Q => (∃ i, xs = [.int i] ∧ Q (.int i) H) ∨ ∃ k, xs = [.bl k] ∧ Q (.int (if k then 1 else 0)) H
theorem c_intB {b : Bool} (z : R (.f (.int (if b then 1 else 0))) l) : CaS K rInt1 [.f (.bool b)] l R := fun m B H vs S r Q q => by
  cases r with
  | cons r1 r2 =>
    cases r2
    exact .inr ⟨b, by rw [bl_of r1], retF S q (FR.int _) z⟩
theorem u_join {X : Cx} {K : PySem.W.Frag} (hK : X.K = K) {o e : Expr} {to te : TE} {apos pos : Pos} (ho : PE X o to) (he : PE X e te) (hs : starEach [e] X.env = [(false, eval e X.env)] := by rfl) (hbase : attributeBase o "join" X.env (eval o X.env) = eval o X.env := by rfl) (hline : (apos.endLine == pos.line) = true := by rfl) :
    PE X (.Call (.Attribute o "join" apos) [e] [] pos) (tM1 (rJoin K) to te) := by
  subst hK
  exact pe_join ho he hs hbase hline
def rListOf (K : PySem.W.Frag) : List V → Hp → VK → Prop := fun xs H Q => ∃ p ys, xs = [.ref p] ∧ (SqL K H p ys ∨ SqT K H p ys) ∧ ∀ l, H l = none → Q (.ref l) (upd H l (.lst ys))
def rTupleOf (K : PySem.W.Frag) : List V → Hp → VK → Prop := fun xs H Q => ∃ p ys, xs = [.ref p] ∧ ((SqL K H p ys ∧ ∀ l, H l = none → Q (.ref l) (upd H l (.tup ys))) ∨ (SqT K H p ys ∧ Q (.ref p) H))
theorem u_list {X : Cx} {K : PySem.W.Frag} (hK : X.K = K) : CallR X (.type "list") (rListOf K) := by
  subst hK
  exact call_list_of
theorem u_tuple {X : Cx} {K : PySem.W.Frag} (hK : X.K = K) : CallR X (.type "tuple") (rTupleOf K) := by
  subst hK
  exact call_tuple_of
theorem u_abs {X : Cx} : CallR X (.builtin "abs") rAbs := call_abs
theorem u_min2 {X : Cx} (hc : X.calm = true) : CallR X (.builtin "min") rMin2 := call_min2 hc
theorem u_max2 {X : Cx} (hc : X.calm = true) : CallR X (.builtin "max") rMax2 := call_max2 hc
theorem u_int {X : Cx} : CallR X (.type "int") rInt1 := call_int1
theorem c_list {x : D} {ds : List PyData} (h : IsQ l x ds) (z : R (.own l.length) (l ++ [.lst ds])) : CaS K (rListOf K) [x] l R := fun m B H vs S r Q q => by
  cases r with
  | cons r1 r2 =>
    cases r2
    obtain ⟨a, us, rfl, e2, pr⟩ := h.at S r1
    exact ⟨a, us, rfl, e2, fun p hp => retL S q hp pr z⟩
theorem c_tuple {x : D} {ds : List PyData} (h : IsQ l x ds) (z : R (.f (.tuple ds)) l) : CaS K (rTupleOf K) [x] l R := fun m B H vs S r Q q => by
  cases r with
  | cons r1 r2 =>
    cases r2
    rcases h with h | rfl
    · obtain ⟨a, us, rfl, e2, pr⟩ := h.at S r1
      exact ⟨a, us, rfl, .inl ⟨SqL.of e2, fun p hp => retT S q hp pr z⟩⟩
    · cases r1 with
      | tup h1 h2 => exact ⟨_, _, rfl, .inr ⟨sqT_same S.sub h1.sq, retF S q (FR.tup h1 h2) z⟩⟩
end
end L3

/-! L3g: a def of the text that keeps its promise, and its call -/
namespace L3
open PySem L2
/-- what a def hands back: as it is; one own object, the rest forgotten; data, the rest forgotten; a tuple of two own lists -/
def Res (k : Nat) (R : D → List O → Prop) : D → List O → Prop := fun d l => R d l ∨
  (∃ n o, d = .own n ∧ l[n]? = some o ∧ o.free ∧ o ≠ .gone ∧ k ≤ n ∧ (∀ x ∈ l.take k, x.under k) ∧ R (.own k) (l.take k ++ [o])) ∨
  ((∃ x, d = .f x) ∧ (∀ x ∈ l.take k, x.under k) ∧ R d (l.take k))
theorem Res.own {k n : Nat} {o : O} {R : D → List O → Prop} {l : List O} (h : l[n]? = some o) (hf : o.free) (hg : o ≠ .gone) (hk : k ≤ n) (hu : ∀ x ∈ l.take k, x.under k) (z : R (.own k) (l.take k ++ [o])) : Res k R (.own n) l := .inr (.inl ⟨n, o, rfl, h, hf, hg, hk, hu, z⟩)
theorem Res.dat {k : Nat} {x : PyData} {R : D → List O → Prop} {l : List O} (hu : ∀ x ∈ l.take k, x.under k) (z : R (.f x) (l.take k)) : Res k R (.f x) l := .inr (.inr ⟨⟨x, rfl⟩, hu, z⟩)
section
variable {K : PySem.W.Frag} {m m' : List Addr} {B B' H H' : Hp} {l l' : List O} {R : D → List O → Prop}
theorem res_ok {Q : VK} {v : V} {d : D} (h4 : Post K m B H R Q) (s : Step m B H m' B' H') (S' : SR K m' B' H' l') (r : VR K m' B' v d) (z : Res m.length R d l') : Q v H' := by
  rcases z with z | ⟨n, o, rfl, hn, hf, hg, hk, hu, z⟩ | ⟨⟨x, rfl⟩, hu, z⟩
  · exact h4 v m' B' H' d l' s S' r z
  · obtain ⟨a, rfl, ha⟩ := r
    obtain ⟨ro, hb⟩ := S'.obj n a o ha hn
    have S2 := S'.cut m.length hu
    have s2 := s.cut S' (Nat.le_refl _)
    have hnot : a ∉ m'.take m.length := fun hm => by
      obtain ⟨j, hj⟩ := List.getElem?_of_mem hm
      have hjl : j < m.length := by
        have := (List.getElem?_eq_some_iff.mp hj).1
        rw [List.length_take] at this; omega
      rw [List.getElem?_take_of_lt hjl] at hj
      exact S'.ne hj ha (by omega) rfl
    have hl : H' a ≠ none := S'.live a (List.mem_of_getElem? ha)
    obtain ⟨S3, r3⟩ := S2.join (o := o) hnot (hb hg) hl (OR.free_any hf ro)
    have hH : H a = none := by
      cases e : H a with
      | none => rfl
      | some u =>
        obtain ⟨t, et⟩ := s.pre
        rcases s.new a (List.mem_of_getElem? ha) with w | w
        · exact absurd (by rw [et, List.take_left]; exact w) hnot
        · rw [w] at e; cases e
    have hlen : (l'.take m.length).length = m.length := by
      rw [List.length_take, ← S'.len]
      obtain ⟨t, et⟩ := s.pre
      rw [et, List.length_append]; omega
    refine h4 (.ref a) _ B' H' (.own m.length) _ (s2.join hH) S3 ?_ z
    rw [hlen] at r3
    exact r3
  · have S2 := S'.cut m.length hu
    have s2 := s.cut S' (Nat.le_refl _)
    exact h4 v _ B' H' (.f x) _ s2 S2 r z
end
/-- the def at x keeps the promise S, by at most level k -/
structure Cal (P : Program) (w : World) (K : PySem.W.Frag) (mg : Str → Option Value) (base : Heap) (k : Nat) (x : Str) (ps : List Str) (S : Spec3) : Prop where
  ex : ∃ a fd, mg x = some (.ref a) ∧ PySem.W.keepIn K (.ref a) = true ∧ Binds K fd ps [] ∧ FnOk P w K mg base CX0 k a fd ps (P3 K S)
/-- the def st stands at x -/
structure DefAt (K : PySem.W.Frag) (mg : Str → Option Value) (x : Str) (st : Stmt) (ps : List Str) : Prop where
  ex : ∃ f fd, mg x = some (.ref f) ∧ Fun K x x st f fd ∧ Binds K fd ps []
section
variable {P : Program} {w : World} {K : PySem.W.Frag} {mg : Str → Option Value} {base : Heap}
theorem ok4F {x : Str} {st : Stmt} {f : Addr} {fd : FuncData} {N ps : List Str} {k : Nat} {S : Spec3} (F : Fun K x x st f fd) (sc : FnScope N ps (defScope st)) (len : ∀ ds g R, S ds g R → ds.length = ps.length)
    (h : ∀ (cdv : Value) (A : Around) (outer : List Env) (s : Shared) (H : Hp) (E : XK), Room k (A.deeper (PyProof.Rows.envOfC x (defScope st) s.heap.objs.size f cdv)) →
      ∃ t, PSs (cxOf CX0 P w K mg base N x (defScope st) f cdv A outer s H E).nox (defBody st) t ∧ ∀ ds g R, S ds g R → ExS K t (st0 N ds) g ⟨fun _ l => Res g.length R (.f .none) l, Res g.length R, fun _ _ => False, fun _ _ => False⟩) : FnOk P w K mg base CX0 (k + 1) f fd ps (P3 K S) := by
  refine F.ok sc (fun vs H Q E ⟨m, B, g, ds, R, h1, h2, h3, h4⟩ => by rw [pair_len h2]; exact len ds g R h3) (fun cdv A outer s H vs Q E hr ⟨m, B, g, ds, R, h1, h2, h3, h4⟩ => ?_)
  obtain ⟨t, ht, hx⟩ := h cdv A outer s H E hr
  have hg : g.length = m.length := h1.len.symm
  refine ⟨t, ht, hx ds g R h3 m B H _ h1 (er_start h2) _ ⟨fun σ' ρ' m' B' H' l' s S' e z => ?_, fun v m' B' H' d l' s S' r z => ?_, fun _ _ _ _ _ _ _ _ _ z => z.elim, fun _ _ _ _ _ _ _ _ _ z => z.elim⟩⟩
  · rw [hg] at z
    exact res_ok (d := .f .none) h4 s S' FR.non z
  · rw [hg] at z
    exact res_ok h4 s S' r z
theorem ok4 {x : Str} {st : Stmt} {N ps : List Str} {k : Nat} {S : Spec3} (Df : DefAt K mg x st ps) (sc : FnScope N ps (defScope st)) (len : ∀ ds g R, S ds g R → ds.length = ps.length)
    (h : ∀ (cdv : Value) (A : Around) (outer : List Env) (s : Shared) (H : Hp) (E : XK) (f : Addr), Room k (A.deeper (PyProof.Rows.envOfC x (defScope st) s.heap.objs.size f cdv)) →
      ∃ t, PSs (cxOf CX0 P w K mg base N x (defScope st) f cdv A outer s H E).nox (defBody st) t ∧ ∀ ds g R, S ds g R → ExS K t (st0 N ds) g ⟨fun _ l => Res g.length R (.f .none) l, Res g.length R, fun _ _ => False, fun _ _ => False⟩) : Cal P w K mg base (k + 1) x ps S := by
  obtain ⟨f, fd, hm, F, b⟩ := Df.ex
  exact ⟨f, fd, hm, F.kp, b, ok4F F sc len fun cdv A outer s H E hr => h cdv A outer s H E f hr⟩
theorem Cal.mono {j k : Nat} {x : Str} {ps : List Str} {S : Spec3} (C : Cal P w K mg base j x ps S) (h : j ≤ k) : Cal P w K mg base k x ps S := by
  obtain ⟨a, fd, h1, h2, h3, h4⟩ := C.ex
  exact ⟨a, fd, h1, h2, h3, h4.mono h⟩
end
section
variable {X : Cx} {k : Nat} {ps : List Str} {S : Spec3} {x : Str} {p pos : Pos} {e : Expr} {es : List Expr} {t : TA}
theorem pe_cal {K : PySem.W.Frag} (hK : X.K = K) (C : Cal X.prog X.w X.K X.mg X.base k x ps S) (hr : Room k X.A) (hg : Gl X x) (ha : PA X (e :: es) t) (hdb : (x == ("__debug__" : Str)) = false := by decide) (he : starEach (e :: es) X.env = (false, eval e X.env) :: starEach es X.env := by rfl)
    (hpl : (backTo pos (starEach es X.env)).any (·.1) = false := by rfl) : PE X (.Call (.Name x p) (e :: es) [] pos) (tCall (P3 K S) [] E0 t) := by
  subst hK
  refine ⟨fun pins s σ H Q I h => ?_⟩
  obtain ⟨a, fd, h1, h2, h3, h4⟩ := C.ex
  exact (pe_call (E := E0) h4 hr hg h1 h2 h3 .nil pass0 ha hdb he hpl).run pins s σ H Q I h
end
end L3

/-! L3h: statements in a row, dicts written -/
namespace L3
open PySem L2
section
variable {K : PySem.W.Frag} {m m' m2 : List Addr} {B B' B2 H H' H2 : Hp} {l : List O} {σ : St} {ρ : List (Option D)} {R R' : D → List O → Prop} {E E' : E3} {ta tb te tc tl : TE} {tt tu : TT} {t u v w : TS} {ty tz : TA} {g : TG} {gs : TGs}
theorem xs_set {i : Nat} (h : EvS K te ρ l fun d l1 => ExS K u (ρ.set i (some d)) l1 E) : ExS K (tSeq (tAsg te (gName i)) u) ρ l E := x_seq (x_asg (h.imp fun d l1 z => g_name z))
theorem xs_asg (h : EvS K te ρ l fun d l1 => AsS K g d ρ l1 fun ρ2 l2 => ExS K u ρ2 l2 E) : ExS K (tSeq (tAsg te g) u) ρ l E := x_seq (x_asg h)
theorem x_set {i : Nat} (h : EvS K te ρ l fun d l1 => E.nx (ρ.set i (some d)) l1) : ExS K (tAsg te (gName i)) ρ l E := x_asg (h.imp fun d l1 z => g_name z)
theorem xs_drop (h : EvS K te ρ l fun _ l1 => ExS K u ρ l1 E) : ExS K (tSeq (tDrop te) u) ρ l E := x_seq (x_drop h)
theorem xs_next (h : ExS K u ρ l E) : ExS K (tSeq tNext u) ρ l E := x_seq (x_next h)
theorem xs_ret (h : EvS K te ρ l E.rt) : ExS K (tSeq (tRet te) u) ρ l E := x_seq (x_ret h)
theorem xs_seq (h : ExS K (tSeq t (tSeq u v)) ρ l E) : ExS K (tSeq (tSeq t u) v) ρ l E := fun m B H σ S e Dn F => h m B H σ S e Dn F
theorem xs_if (h : EvT K tt ρ l fun b l1 => if b = true then ExS K (tSeq t v) ρ l1 E else ExS K (tSeq u v) ρ l1 E) : ExS K (tSeq (tIfS tt t u) v) ρ l E := fun m B H σ S e Dn F => by
  refine h m B H σ S e _ fun m1 B1 H1 b l1 s1 S1 h1 => ?_
  cases b with
  | true => exact h1 m1 B1 H1 σ S1 (e.step s1) Dn (F.step s1)
  | false => exact h1 m1 B1 H1 σ S1 (e.step s1) Dn (F.step s1)
theorem xs_aug {i : Nat} {ti : TIp} {d : D} (hd : ρ[i]? = some (some d)) (h : EvS K te ρ l fun y l1 => OpS K ti d y l1 fun z l2 => ExS K u (ρ.set i (some z)) l2 E) : ExS K (tSeq (tAug i te ti) u) ρ l E := x_seq (x_aug hd h)
theorem xs_par {i j : Nat} (h : EvA K ty ρ l fun ds l1 => ∃ x y, ds = [x, y] ∧ ExS K u ((ρ.set i (some x)).set j (some y)) l1 E) : ExS K (tSeq (tPar i j ty) u) ρ l E := x_seq (x_par h)
theorem o_ipI {f : Int → Int → Int} {i j : Int} (z : R (.f (.int (f i j))) l) : OpS K (ipI f) (.f (.int i)) (.f (.int j)) l R := fun m B H vx vy S r1 r2 Q q => ⟨i, j, int_of r1, int_of r2, retF S q (FR.int _) z⟩
/-- FOR over a list or tuple of data, then u -/
theorem xs_forQ (h : EvS K tl ρ l fun x l1 => ∃ ds, IsQ l1 x ds ∧ ∃ I : Nat → List (Option D) → List O → Prop, I 0 ρ l1 ∧ (∀ i ρ' l', i ≤ ds.length → I i ρ' l' → IsQ l' x ds) ∧
      (∀ i d ρ' l', ds[i]? = some d → I i ρ' l' → AsS K g (.f d) ρ' l' fun ρ2 l2 => ExS K t ρ2 l2 ⟨I (i + 1), E.rt, fun ρ3 l3 => ExS K u ρ3 l3 E, I (i + 1)⟩) ∧ ∀ ρ' l', I ds.length ρ' l' → ExS K u ρ' l' E) : ExS K (tSeq (tFor (iSeq K tl) g t) u) ρ l E :=
  x_seq (x_forQ h)
theorem xs_forR (h : EvA K ty ρ l fun ds l1 => ∃ j : Int, ds = [.f (.int j)] ∧ -(2 ^ 62) ≤ j ∧ j < 2 ^ 62 ∧ ∃ I : Nat → List (Option D) → List O → Prop, I 0 ρ l1 ∧
      (∀ (i : Nat) ρ' l', i < j.toNat → I i ρ' l' → AsS K g (.f (.int i)) ρ' l' fun ρ2 l2 => ExS K t ρ2 l2 ⟨I (i + 1), E.rt, fun ρ3 l3 => ExS K u ρ3 l3 E, I (i + 1)⟩) ∧ ∀ ρ' l', I j.toNat ρ' l' → ExS K u ρ' l' E) : ExS K (tSeq (tFor (iRng1 ty) g t) u) ρ l E :=
  x_seq (x_forR h)
theorem xs_while (I : List (Option D) → List O → Prop) (μ : List (Option D) → List O → Nat) (h0 : I ρ l)
    (hs : ∀ ρ' l', I ρ' l' → EvT K tt ρ' l' fun b l1 => if b = true then ExS K t ρ' l1 ⟨fun ρ2 l2 => I ρ2 l2 ∧ μ ρ2 l2 < μ ρ' l', E.rt, fun ρ3 l3 => ExS K u ρ3 l3 E, fun ρ2 l2 => I ρ2 l2 ∧ μ ρ2 l2 < μ ρ' l'⟩ else ExS K u ρ' l1 E) : ExS K (tSeq (tWhile tt t) u) ρ l E :=
  x_seq (x_while I μ h0 hs)
/-- if test: .. return: the rest stands once -/
theorem xs_gate (h1 : EvT K tt ρ l fun b l1 => if b = true then ExS K t ρ l1 ⟨fun _ _ => False, E.rt, E.bk, E.ct⟩ else l1 = l) (h2 : ExS K u ρ l E) : ExS K (tSeq (tIfS tt t tNext) u) ρ l E :=
  x_seq (x_if (h1.imp fun b l1 z => by
    cases b with
    | true => exact ExS.imp z (fun _ _ q => q.elim) (fun _ _ q => q) (fun _ _ q => q) fun _ _ q => q
    | false =>
      have e : l1 = l := z
      subst e
      exact x_next h2))
/-- what holds between two statements -/
theorem xs_mid (M : List (Option D) → List O → Prop) (h1 : ExS K t ρ l ⟨M, E.rt, E.bk, E.ct⟩) (h2 : ∀ ρ' l', M ρ' l' → ExS K u ρ' l' E) : ExS K (tSeq t u) ρ l E :=
  x_seq (h1.imp h2 (fun _ _ z => z) (fun _ _ z => z) fun _ _ z => z)
/-- the ways of a test -/
theorem ite_both {c : Prop} [Decidable c] {b : Bool} {A A' : Prop} (hb : b = decide c) (h1 : c → A) (h2 : ¬ c → A') : if b = true then A else A' := by
  subst hb
  by_cases h : c
  · rw [decide_eq_true h]; exact h1 h
  · rw [decide_eq_false h]; exact h2 h
theorem b_both {b : Bool} {A A' : Prop} (h1 : b = true → A) (h2 : b = false → A') : if b = true then A else A' := by
  cases b with
  | true => exact h1 rfl
  | false => exact h2 rfl
theorem d_both {c : Prop} [Decidable c] {A A' : Prop} (h1 : c → A) (h2 : ¬ c → A') : if decide c = true then A else A' := by
  by_cases h : c
  · rw [decide_eq_true h]; exact h1 h
  · rw [decide_eq_false h]; exact h2 h
theorem nd_both {c : Prop} [Decidable c] {A A' : Prop} (h1 : ¬ c → A) (h2 : c → A') : if (!decide c) = true then A else A' := by
  by_cases h : c
  · rw [decide_eq_true h]; exact h2 h
  · rw [decide_eq_false h]; exact h1 h
/-! dicts -/
def putD {κ : Type} [DecidableEq κ] (kvs : List (κ × PyData)) (k : κ) (v : PyData) : List (κ × PyData) :=
  if (kvs.any fun kv => decide (kv.1 = k)) = true then kvs.map (fun kv => if kv.1 = k then (kv.1, v) else kv) else kvs ++ [(k, v)]
theorem put_any {κ : Type} [DecidableEq κ] {ks : List (κ × V)} {kvs : List (κ × PyData)} (h : Paired (fun (p : κ × V) (q : κ × PyData) => p.1 = q.1 ∧ FR K B p.2 q.2) ks kvs) (k : κ) :
    (ks.any fun kv => decide (kv.1 = k)) = kvs.any fun kv => decide (kv.1 = k) := by
  induction h with
  | nil => rfl
  | cons h t ih => rw [List.any_cons, List.any_cons, ih, h.1]
theorem put_map {κ : Type} [DecidableEq κ] (k : κ) {x : V} {d : PyData} (r : FR K B x d) : ∀ {ps : List (κ × V)} {qs : List (κ × PyData)}, Paired (fun (p : κ × V) (q : κ × PyData) => p.1 = q.1 ∧ FR K B p.2 q.2) ps qs →
    Paired (fun (p : κ × V) (q : κ × PyData) => p.1 = q.1 ∧ FR K B p.2 q.2) (ps.map fun kv => if kv.1 = k then (kv.1, x) else kv) (qs.map fun kv => if kv.1 = k then (kv.1, d) else kv)
  | _, _, .nil => .nil
  | _, _, @Paired.cons _ _ _ p q _ _ h t => by
    refine .cons ?_ (put_map k r t)
    by_cases e : p.1 = k
    · have e' : q.1 = k := h.1.symm.trans e
      simp only [e, e', if_true]
      exact ⟨trivial, r⟩
    · have e' : ¬ q.1 = k := fun z => e (h.1.trans z)
      simp only [e, e', if_false]
      exact h
theorem put_app {κ : Type} {k : κ} {x : V} {d : PyData} (r : FR K B x d) : ∀ {ps : List (κ × V)} {qs : List (κ × PyData)}, Paired (fun (p : κ × V) (q : κ × PyData) => p.1 = q.1 ∧ FR K B p.2 q.2) ps qs → Paired (fun (p : κ × V) (q : κ × PyData) => p.1 = q.1 ∧ FR K B p.2 q.2) (ps ++ [(k, x)]) (qs ++ [(k, d)])
  | _, _, .nil => .cons ⟨rfl, r⟩ .nil
  | _, _, .cons h t => .cons h (put_app r t)
theorem put_of {κ : Type} [DecidableEq κ] {ks : List (κ × V)} {kvs : List (κ × PyData)} (h : Paired (fun (p : κ × V) (q : κ × PyData) => p.1 = q.1 ∧ FR K B p.2 q.2) ks kvs) (k : κ) {x : V} {d : PyData} (r : FR K B x d) :
    Paired (fun (p : κ × V) (q : κ × PyData) => p.1 = q.1 ∧ FR K B p.2 q.2) (putK ks k x) (putD kvs k d) := by
  unfold putK putD
  rw [put_any h k]
  split
  · exact put_map k r h
  · exact put_app r h
/-- d[k] = v, k an int or a text -/
theorem x_dput (h : EvS K tc ρ l fun x l1 => EvS K ta ρ l1 fun o l2 => EvS K tb ρ l2 fun y l3 => ∃ n kvs k d, x = .f d ∧ o = .own n ∧ y = .f (keyD k) ∧ l3[n]? = some (.dct kvs) ∧ kvs.length ≤ 100000 ∧ E.nx ρ (l3.set n (.dct (putD kvs k d)))) : ExS K (sDPut ta tb tc) ρ l E := fun m B H σ S e Dn F => by
  refine h m B H σ S e _ fun vx m1 B1 H1 x l1 s1 S1 r1 z1 => ?_
  refine z1 m1 B1 H1 σ S1 (e.step s1) _ fun vo m2 B2 H2 o l2 s2 S2 r2 z2 => ?_
  refine z2 m2 B2 H2 σ S2 (e.step (s1.trans s2)) _ fun vy m3 B3 H3 y l3 s3 S3 r3 ⟨n, kvs, k, d, ex, eo, ey, hn, hl, z3⟩ => ?_
  subst ex eo ey
  have r1' : FR K B3 vx d := r1.step (s2.trans s3)
  obtain ⟨a, rfl, ha⟩ := r2.step s3
  obtain ⟨⟨ks, e1, pr⟩, hb⟩ := S3.obj n a _ ha hn
  have pr' := put_of pr k r1'
  obtain ⟨S4, s4⟩ := S3.write (u := .dK (putK ks k vx)) (o := .dct (putD kvs k d)) ha (hb (by simp)) ⟨_, upd_same, pr'⟩
  refine ⟨a, upd H3 a (.dK (putK ks k vx)), rfl, ?_, F.nx _ _ _ _ _ _ (((s1.trans s2).trans s3).trans s4) S4 (e.step (((s1.trans s2).trans s3).trans s4)) z3⟩
  rw [kv_of (k := k) r3]
  exact DPut.k e1 (small' (by rw [pr.length]; exact hl))
theorem xs_dput (h : EvS K tc ρ l fun x l1 => EvS K ta ρ l1 fun o l2 => EvS K tb ρ l2 fun y l3 => ∃ n kvs k d, x = .f d ∧ o = .own n ∧ y = .f (keyD k) ∧ l3[n]? = some (.dct kvs) ∧ kvs.length ≤ 100000 ∧ ExS K u ρ (l3.set n (.dct (putD kvs k d))) E) : ExS K (tSeq (sDPut ta tb tc) u) ρ l E := x_seq (x_dput h)
/-- o[i] = e, o an own list -/
theorem g_setL {d : PyData} {R : List (Option D) → List O → Prop} (h : EvS K ta ρ l fun o l1 => EvS K tb ρ l1 fun y l2 => ∃ n ds i j, o = .own n ∧ y = .f (.int i) ∧ l2[n]? = some (.lst ds) ∧ ixN ds.length i = some j ∧ R ρ (l2.set n (.lst (ds.set j d)))) : AsS K (gSub ta tb rSetL) (.f d) ρ l R := fun m B H σ v S e hv Q q => by
  refine h m B H σ S e _ fun vo m1 B1 H1 o l1 s1 S1 r1 z1 => ?_
  refine z1 m1 B1 H1 σ S1 (e.step s1) _ fun vy m2 B2 H2 y l2 s2 S2 r2 ⟨n, ds, i, j, eo, ey, hn, hj, z2⟩ => ?_
  subst eo ey
  obtain ⟨a, rfl, ha⟩ := r1.step s2
  obtain ⟨⟨xs, e1, pr⟩, hb⟩ := S2.obj n a _ ha hn
  have hv' : FR K B2 v d := hv.step (s1.trans s2)
  obtain ⟨S4, s4⟩ := S2.write (u := .lst (xs.set j v)) (o := .lst (ds.set j d)) ha (hb (by simp)) ⟨_, upd_same, FRs.set hv' j pr⟩
  exact ⟨a, xs, i, j, rfl, int_of r2, e1, by rw [pr.length]; exact hj, q _ _ _ _ _ _ ((s1.trans s2).trans s4) S4 (e.step ((s1.trans s2).trans s4)) z2⟩
theorem pairs_set {vs : List V} {ds : List D} {v : V} {d : D} (j : Nat) (hv : VR K m B v d) (h : Paired (VR K m B) vs ds) : Paired (VR K m B) (vs.set j v) (ds.set j d) := by
  induction h generalizing j with
  | nil => exact .nil
  | cons h t ih =>
    cases j with
    | zero => exact .cons hv t
    | succ j => exact .cons h (ih j)
/-- .. with references -/
theorem g_setR {d : D} {R : List (Option D) → List O → Prop} (h : EvS K ta ρ l fun o l1 => EvS K tb ρ l1 fun y l2 => ∃ n ds i j, o = .own n ∧ y = .f (.int i) ∧ l2[n]? = some (.rfs ds) ∧ ixN ds.length i = some j ∧ R ρ (l2.set n (.rfs (ds.set j d)))) : AsS K (gSub ta tb rSetL) d ρ l R := fun m B H σ v S e hv Q q => by
  refine h m B H σ S e _ fun vo m1 B1 H1 o l1 s1 S1 r1 z1 => ?_
  refine z1 m1 B1 H1 σ S1 (e.step s1) _ fun vy m2 B2 H2 y l2 s2 S2 r2 ⟨n, ds, i, j, eo, ey, hn, hj, z2⟩ => ?_
  subst eo ey
  obtain ⟨a, rfl, ha⟩ := r1.step s2
  obtain ⟨⟨xs, e1, pr⟩, hb⟩ := S2.obj n a _ ha hn
  have hv' := hv.step (s1.trans s2)
  obtain ⟨S4, s4⟩ := S2.write (u := .lst (xs.set j v)) (o := .rfs (ds.set j d)) ha (hb (by simp)) ⟨_, upd_same, pairs_set j hv' pr⟩
  exact ⟨a, xs, i, j, rfl, int_of r2, e1, by rw [pair_len pr]; exact hj, q _ _ _ _ _ _ ((s1.trans s2).trans s4) S4 (e.step ((s1.trans s2).trans s4)) z2⟩
end
end L3

/-! L3i: plain laws of the data: dicts, encodings -/
namespace L3
open PySem L2
section
variable {κ : Type} [DecidableEq κ]
theorem lookD_nil (k : κ) : lookD ([] : List (κ × PyData)) k = none := rfl
theorem lookD_cons (p : κ × PyData) (r : List (κ × PyData)) (k : κ) : lookD (p :: r) k = if p.1 = k then some p.2 else lookD r k := by
  unfold lookD
  rw [List.find?_cons]
  by_cases h : p.1 = k
  · rw [decide_eq_true h, if_pos h]; rfl
  · rw [decide_eq_false h, if_neg h]
theorem lookD_any (r : List (κ × PyData)) (k : κ) : (r.any fun kv => decide (kv.1 = k)) = (lookD r k).isSome := by
  induction r with
  | nil => rfl
  | cons p r ih =>
    rw [List.any_cons, lookD_cons, ih]
    by_cases h : p.1 = k
    · rw [decide_eq_true h, if_pos h]; rfl
    · rw [decide_eq_false h, if_neg h]; rfl
theorem lookD_app (r : List (κ × PyData)) (p : κ × PyData) (k : κ) : lookD (r ++ [p]) k = match lookD r k with | some d => some d | none => if p.1 = k then some p.2 else none := by
  induction r with
  | nil => rw [List.nil_append, lookD_cons]; rfl
  | cons q r ih =>
    rw [List.cons_append, lookD_cons, lookD_cons, ih]
    by_cases h : q.1 = k
    · rw [if_pos h, if_pos h]
    · rw [if_neg h, if_neg h]
theorem lookD_map (r : List (κ × PyData)) (k k' : κ) (d : PyData) : lookD (r.map fun kv => if kv.1 = k then (kv.1, d) else kv) k' = if k = k' then (lookD r k').map fun _ => d else lookD r k' := by
  induction r with
  | nil => simp [lookD_nil]
  | cons q r ih =>
    rw [List.map_cons, lookD_cons, ih]
    by_cases h : q.1 = k
    · rw [if_pos h]
      by_cases h2 : k = k'
      · have h3 : q.1 = k' := h.trans h2
        simp [lookD_cons, h2, h3]
      · have h3 : ¬ q.1 = k' := fun z => h2 (h.symm.trans z)
        simp [lookD_cons, h2, h3]
    · rw [if_neg h]
      by_cases h2 : k = k'
      · have h3 : ¬ q.1 = k' := fun z => h (z.trans h2.symm)
        simp [lookD_cons, h2, h3]
      · simp [lookD_cons, h2]
theorem lookD_put (r : List (κ × PyData)) (k k' : κ) (d : PyData) : lookD (putD r k d) k' = if k = k' then some d else lookD r k' := by
  unfold putD
  rw [lookD_any]
  by_cases h : (lookD r k).isSome = true
  · rw [if_pos h, lookD_map]
    by_cases h2 : k = k'
    · subst h2
      rw [if_pos rfl, if_pos rfl]
      cases e : lookD r k with
      | none => rw [e] at h; cases h
      | some x => rfl
    · rw [if_neg h2, if_neg h2]
  · rw [if_neg h, lookD_app]
    have hn : lookD r k = none := by simpa using h
    by_cases h2 : k = k'
    · subst h2
      rw [hn, if_pos rfl]
    · cases e : lookD r k' with
      | none => simp [h2]
      | some x => simp [h2]
theorem putD_len (r : List (κ × PyData)) (k : κ) (d : PyData) : (putD r k d).length ≤ r.length + 1 := by
  unfold putD
  split
  · rw [List.length_map]; omega
  · rw [List.length_append]; simp
theorem putD_keys (r : List (κ × PyData)) (k : κ) (d : PyData) : (putD r k d).map (·.1) = if (lookD r k).isSome = true then r.map (·.1) else r.map (·.1) ++ [k] := by
  unfold putD
  rw [lookD_any]
  by_cases h : (lookD r k).isSome = true
  · rw [if_pos h, if_pos h, List.map_map]
    refine List.map_congr_left fun p _ => ?_
    show (if p.1 = k then (p.1, d) else p).1 = p.1
    split <;> rfl
  · rw [if_neg h, if_neg h, List.map_append]; rfl
end
/-! encodings -/
def iPy (xs : List Int) : List PyData := xs.map .int
def pPy (es : List (Str × Str)) : List PyData := es.map fun e => .tuple [.str e.1, .str e.2]
def webD (ts : List Str) (es : List (Str × Str)) : PyData := .tuple [.tuple (sPy ts), .tuple (pPy es)]
theorem map_get {α β : Type} {f : α → β} {xs : List α} {i : Nat} {d : β} (h : (xs.map f)[i]? = some d) : ∃ x, xs[i]? = some x ∧ d = f x := by
  rw [List.getElem?_map] at h
  cases e : xs[i]? with
  | none => rw [e] at h; cases h
  | some x => rw [e] at h; exact ⟨x, rfl, (Option.some.inj h).symm⟩
theorem sPy_get {xs : List Str} {i : Nat} {d : PyData} (h : (sPy xs)[i]? = some d) : ∃ x, xs[i]? = some x ∧ d = .str x := map_get h
theorem pPy_get {xs : List (Str × Str)} {i : Nat} {d : PyData} (h : (pPy xs)[i]? = some d) : ∃ x, xs[i]? = some x ∧ d = .tuple [.str x.1, .str x.2] := map_get h
theorem sPy_mem {xs : List Str} {d : PyData} (h : d ∈ sPy xs) : ∃ x, x ∈ xs ∧ d = .str x := by
  obtain ⟨x, h1, h2⟩ := List.mem_map.mp h
  exact ⟨x, h1, h2.symm⟩
theorem sPy_len (xs : List Str) : (sPy xs).length = xs.length := List.length_map ..
theorem pPy_len (xs : List (Str × Str)) : (pPy xs).length = xs.length := List.length_map ..
theorem iPy_len (xs : List Int) : (iPy xs).length = xs.length := List.length_map ..
def strF (p : Str → Bool) : PyData → Option PyData
  | .str x => if p x = true then some (.str x) else none
  | _ => none
theorem sPy_filter (f : Str → Bool) (xs : List Str) : (sPy xs).filterMap (strF f) = sPy (xs.filter f) := by
  induction xs with
  | nil => rfl
  | cons x xs ih =>
    show (PyData.str x :: sPy xs).filterMap _ = _
    rw [List.filterMap_cons, List.filter_cons, ih]
    cases h : f x <;> simp [strF, h, sPy]
end L3

/-! L3j: the pen of a law, and what is drawn -/
namespace L3
open PySem L2
/-- the pen: the script, the place, the digits left -/
def penO (s : List Int) (at_ dg : Int) : O := .rfs [.sq s, .f (.int at_), .f (.int dg)]
structure IsPen (o : O) : Prop where
  ex : ∃ s at_ dg, o = penO s at_ dg ∧ s.length ≤ 63 ∧ 0 ≤ at_ ∧ 0 ≤ dg
theorem IsPen.under {o : O} {k : Nat} (h : IsPen o) : o.under k := by
  obtain ⟨s, a, b, rfl, _⟩ := h.ex
  intro d hd
  simp only [List.mem_cons, List.not_mem_nil, or_false] at hd
  rcases hd with rfl | rfl | rfl <;> trivial
theorem IsPen.free {o : O} (h : IsPen o) : o.free := by
  obtain ⟨s, a, b, rfl, _⟩ := h.ex
  trivial
theorem IsPen.shift1 {o : O} (h : IsPen o) (i k : Nat) : o.shift1 i k = o := by
  obtain ⟨s, a, b, rfl, _⟩ := h.ex
  rfl
def S_pen : Spec3 := fun ds g R => ∃ s, ds = [.sq s] ∧ g = [] ∧ s.length ≤ 63 ∧ ∀ o, IsPen o → R (.own 0) [o]
def S_draw : Spec3 := fun ds g R => ∃ o most, ds = [.own 0, .f (.int most)] ∧ g = [o] ∧ IsPen o ∧ 0 < most ∧ most < 1073741824 ∧ ∀ r o', 0 ≤ r → r < most → IsPen o' → R (.f (.int r)) [o']
theorem at_mod {s : List Int} {i : Int} (h : 0 < (s.length : Int)) : ∃ k, atI s (i % (s.length : Int)) = some k := by
  have h1 := Int.emod_nonneg i (Int.ne_of_gt h)
  have h2 := Int.emod_lt_of_pos i h
  obtain ⟨j, hj⟩ := Int.eq_ofNat_of_zero_le h1
  have hl : j < s.length := by omega
  refine ⟨s[j], ?_⟩
  rw [hj]
  exact atI_nat (by simp [hl])
section
variable {K : PySem.W.Frag} {l : List O} {ρ : List (Option D)} {R : D → List O → Prop} {ty : TA}
theorem e_draw (i : Nat) {X : XK} (h : EvA K ty ρ l fun ds l1 => ∃ most o, ds = [.own i, .f (.int most)] ∧ l1[i]? = some o ∧ IsPen o ∧ 0 < most ∧ most < 1073741824 ∧ ∀ r o', 0 ≤ r → r < most → IsPen o' → R (.f (.int r)) (l1.set i o')) :
    EvS K (tCall (P3 K S_draw) [] X ty) ρ l R := e_call1 i fun m B H σ S e Q q => h m B H σ S e Q fun vs m' B' H' ds l' s S' r z => q vs m' B' H' ds l' s S' r (by
  obtain ⟨most, o, rfl, ho, hp, h1, h2, z⟩ := z
  refine ⟨o, [.own 0, .f (.int most)], ho, hp.free, by simp [backs], o, most, rfl, rfl, hp, h1, h2, fun r o' h3 h4 h5 => ⟨o', [], rfl, ?_⟩⟩
  rw [h5.shift1]
  have w := z r o' h3 h4 h5
  rw [List.map_nil, List.append_nil]
  exact w)
end
end L3

/-! L3k: texts of small letters -/
namespace L3
open PySem L2
def cs (x : Str) : List Nat := x.cps.toList
theorem cs_app (x y : Str) : cs (x ++ y) = cs x ++ cs y := TL.tl_append x y
theorem cs_len (x : Str) : (cs x).length = x.length := by simp [cs, Str.length]
theorem cs_ext {x y : Str} (h : cs x = cs y) : x = y := Str.ext' (Array.toList_inj.mp h)
theorem len_app (x y : Str) : (x ++ y).length = x.length + y.length := by rw [← cs_len, cs_app, List.length_append, cs_len, cs_len]
def Low (x : Str) : Prop := ∀ c ∈ cs x, 97 ≤ c ∧ c ≤ 122
instance lowDec (x : Str) : Decidable (Low x) := inferInstanceAs (Decidable (∀ c ∈ cs x, 97 ≤ c ∧ c ≤ 122))
theorem Low.app {x y : Str} (h1 : Low x) (h2 : Low y) : Low (x ++ y) := fun c h => by
  rw [cs_app] at h
  rcases List.mem_append.mp h with h | h
  · exact h1 c h
  · exact h2 c h
theorem cs_cut (x : Str) (lo hi : Option Int) : cs (cutS x lo hi) = ((cs x).drop (HT.sIx x.length 0 lo)).take (HT.sIx x.length x.length hi - HT.sIx x.length 0 lo) := by
  show (List.toArray _).toList = _
  rfl
theorem Low.cut {x : Str} (h : Low x) (lo hi : Option Int) : Low (cutS x lo hi) := fun c hc => by
  rw [cs_cut] at hc
  exact h c (List.mem_of_mem_drop (List.mem_of_mem_take hc))
theorem cut_len (x : Str) (lo hi : Option Int) : (cutS x lo hi).length ≤ x.length := cutS_length x lo hi
theorem Low.one {c : Nat} (h1 : 97 ≤ c) (h2 : c ≤ 122) : Low ⟨#[c]⟩ := fun d hd => by
  have e : d = c := by simpa [cs] using hd
  subst e; exact ⟨h1, h2⟩
theorem one_len (c : Nat) : (⟨#[c]⟩ : Str).length = 1 := rfl
theorem Low.ok {x : Str} (h : Low x) : PyData.strOk x = true := by
  unfold PyData.strOk
  rw [Array.all_eq_true']
  intro c hc
  have := h c (by simpa [cs] using hc)
  exact decide_eq_true (by omega)
def lets : Str := "abcdefghijklmnopqrstuvwxyz"
theorem lets_len : lets.length = 26 := by decide +kernel
theorem lets_all : ∀ j : Fin 26, (cs lets)[j.val]? = some (97 + j.val) := by decide +kernel
theorem lets_at {r : Int} (h0 : 0 ≤ r) (h1 : r < 26) : atI lets.cps.toList r = some (97 + r.toNat) := by
  obtain ⟨j, rfl⟩ := Int.eq_ofNat_of_zero_le h0
  exact atI_nat (lets_all ⟨j, by omega⟩)
theorem join_cons (x y : Str) (r : List Str) : Txt.join "" (x :: y :: r) = x ++ Str.ofString "" ++ Txt.join "" (y :: r) := by
  rw [TL.join_eq, TL.join_eq]; rfl
theorem join_one (x : Str) : Txt.join "" [x] = x := by rw [TL.join_eq]; rfl
theorem cs_join : ∀ ys : List Str, cs (Txt.join "" ys) = (ys.map cs).flatten
  | [] => by rfl
  | [x] => by
    rw [join_one]; simp
  | x :: y :: r => by
    rw [join_cons, cs_app, cs_app, cs_join (y :: r)]
    have e : cs (Str.ofString "") = [] := by decide +kernel
    rw [e]
    simp
theorem Low.join {ys : List Str} (h : ∀ y ∈ ys, Low y) : Low (Txt.join "" ys) := fun c hc => by
  rw [cs_join] at hc
  obtain ⟨l, hl, hc⟩ := List.mem_flatten.mp hc
  obtain ⟨y, hy, rfl⟩ := List.mem_map.mp hl
  exact h y hy c hc
theorem join_len (ys : List Str) (k : Nat) (h : ∀ y ∈ ys, y.length = k) : (Txt.join "" ys).length = k * ys.length := by
  rw [← cs_len, cs_join]
  induction ys with
  | nil => rfl
  | cons y r ih =>
    rw [List.map_cons, List.flatten_cons, List.length_append, ih fun z hz => h z (List.mem_cons_of_mem _ hz), cs_len, h y List.mem_cons_self, List.length_cons, Nat.mul_add]
    omega
theorem sum_len (ys : List Str) (k : Nat) (h : ∀ y ∈ ys, y.length = k) : (ys.map (·.length)).sum = k * ys.length := by
  induction ys with
  | nil => rfl
  | cons y r ih =>
    rw [List.map_cons, List.sum_cons, ih fun z hz => h z (List.mem_cons_of_mem _ hz), h y List.mem_cons_self, List.length_cons, Nat.mul_add]
    omega
/-- the items of a list of texts -/
theorem sPy_of (ds : List PyData) (h : ∀ d ∈ ds, ∃ x, d = .str x) : ∃ xs, ds = sPy xs := by
  induction ds with
  | nil => exact ⟨[], rfl⟩
  | cons d r ih =>
    obtain ⟨x, rfl⟩ := h d List.mem_cons_self
    obtain ⟨xs, e⟩ := ih fun z hz => h z (List.mem_cons_of_mem _ hz)
    exact ⟨x :: xs, by rw [e]; rfl⟩
theorem sPy_app (xs ys : List Str) : sPy (xs ++ ys) = sPy xs ++ sPy ys := List.map_append ..
theorem pPy_app (xs ys : List (Str × Str)) : pPy (xs ++ ys) = pPy xs ++ pPy ys := List.map_append ..
end L3

/-! L3l: comprehensions whose items are told by what holds of them -/
namespace L3
open PySem L2
section
variable {K : PySem.W.Frag} {l : List O} {ρ : List (Option D)} {R : D → List O → Prop} {te tl : TE} {tt : TT} {ty : TA} {g : TG}
/-- over a range; the store stays -/
theorem e_lcRp {vs : List Nat} (G : Nat → PyData → Prop) (hg : GG g vs) (h : EvA K ty ρ l fun ds l1 => ∃ j : Int, ds = [.f (.int j)] ∧ -(2 ^ 62) ≤ j ∧ j ≤ 100000 ∧
      (∀ i : Nat, i < j.toNat → AsS K g (.f (.int i)) (wipe3 ρ vs) l1 fun ρ2 l2 => EvT K tt ρ2 l2 fun b l3 => b = true ∧ EvS K te ρ2 l3 fun d l4 => ∃ y, d = .f y ∧ G i y ∧ l4 = l1) ∧
      ∀ acc, acc.length = j.toNat → (∀ (i : Nat) d, acc[i]? = some d → G i d) → R (.own l1.length) (l1 ++ [.lst acc])) : EvS K (tLc (iRng1 ty) g tt te vs) ρ l R :=
  e_lcR hg fun m B H σ S e Q q => h m B H σ S e Q fun us m' B' H' ds l' s S' r ⟨j, e1, e2, e3, hs, hd⟩ => q us m' B' H' ds l' s S' r ⟨j, e1, e2, by omega, fun i acc l2 => l2 = l' ∧ acc.length = i ∧ ∀ (k : Nat) d, acc[k]? = some d → G k d, ⟨rfl, rfl, fun _ _ h => by simp at h⟩,
    fun i acc l2 hi ⟨_, z, _⟩ => by omega,
    fun i acc l2 hi ⟨e4, e5, e6⟩ => by
      subst e4
      intro m B H σ v S e hv Q q
      refine hs i hi m B H σ v S e hv Q fun σ' ρ' m' B' H' l3 s S' e' z => q σ' ρ' m' B' H' l3 s S' e' (z.imp fun b l4 ⟨hb, w⟩ => ?_)
      subst hb
      exact w.imp fun d l5 ⟨y, ey, hG, el⟩ => ⟨y, ey, el, by rw [List.length_append, e5]; rfl, fun k d hk => by
        by_cases hki : k < acc.length
        · rw [List.getElem?_append_left hki] at hk; exact e6 k d hk
        · have hlt := (List.getElem?_eq_some_iff.mp hk).1
          rw [List.length_append] at hlt
          have hk2 : k = acc.length := by simp at hlt; omega
          subst hk2
          rw [List.getElem?_append_right (Nat.le_refl _)] at hk
          have : y = d := by simpa using hk
          subst this
          rw [e5]; exact hG⟩,
    fun acc l2 ⟨e4, e5, e6⟩ => by subst e4; exact hd acc e5 e6⟩
/-- over a list or tuple; the store stays -/
theorem e_lcQp {vs : List Nat} (G : PyData → PyData → Prop) (hg : GG g vs) (h : EvS K tl ρ l fun x l1 => ∃ ds, IsQ l1 x ds ∧ ds.length ≤ 100000 ∧
      (∀ d, d ∈ ds → AsS K g (.f d) (wipe3 ρ vs) l1 fun ρ2 l2 => EvT K tt ρ2 l2 fun b l3 => b = true ∧ EvS K te ρ2 l3 fun z l4 => ∃ y, z = .f y ∧ G d y ∧ l4 = l1) ∧
      ∀ acc, acc.length = ds.length → (∀ (i : Nat) d y, ds[i]? = some d → acc[i]? = some y → G d y) → R (.own l1.length) (l1 ++ [.lst acc])) : EvS K (tLc (iSeq K tl) g tt te vs) ρ l R :=
  e_lcQ hg (h.imp fun x l' ⟨ds, hq, e3, hs, hd⟩ => ⟨ds, hq, fun i acc l2 => l2 = l' ∧ acc.length = i ∧ ∀ (k : Nat) d y, ds[k]? = some d → acc[k]? = some y → G d y, ⟨rfl, rfl, fun _ _ _ _ h => by simp at h⟩,
    fun i acc l2 hi ⟨z0, z, _⟩ => ⟨by subst z0; exact hq, by omega⟩,
    fun i d acc l2 hdi ⟨e4, e5, e6⟩ => by
      subst e4
      intro m B H σ v S e hv Q q
      refine hs d (List.mem_of_getElem? hdi) m B H σ v S e hv Q fun σ' ρ' m' B' H' l3 s S' e' z => q σ' ρ' m' B' H' l3 s S' e' (z.imp fun b l4 ⟨hb, w⟩ => ?_)
      subst hb
      exact w.imp fun d' l5 ⟨y, ey, hG, el⟩ => ⟨y, ey, el, by rw [List.length_append, e5]; rfl, fun k dk yk hdk hk => by
        by_cases hki : k < acc.length
        · rw [List.getElem?_append_left hki] at hk; exact e6 k dk yk hdk hk
        · have hlt := (List.getElem?_eq_some_iff.mp hk).1
          rw [List.length_append] at hlt
          have hk2 : k = acc.length := by simp at hlt; omega
          subst hk2
          rw [List.getElem?_append_right (Nat.le_refl _)] at hk
          have e7 : y = yk := by simpa using hk
          subst e7
          rw [e5] at hdk
          rw [hdi] at hdk
          cases hdk
          exact hG⟩,
    fun acc l2 ⟨e4, e5, e6⟩ => by subst e4; exact hd acc e5 e6⟩)
end
theorem names_of {acc : List PyData} {n : Nat} {P : Str → Prop} (hl : acc.length = n) (h : ∀ (i : Nat) d, acc[i]? = some d → ∃ x, d = .str x ∧ P x) : ∃ xs, acc = sPy xs ∧ xs.length = n ∧ ∀ x ∈ xs, P x := by
  obtain ⟨xs, e⟩ := sPy_of acc fun d hd => by
    obtain ⟨i, hi⟩ := List.getElem?_of_mem hd
    obtain ⟨x, e, _⟩ := h i d hi
    exact ⟨x, e⟩
  subst e
  refine ⟨xs, rfl, by rw [← hl, sPy_len], fun x hx => ?_⟩
  obtain ⟨i, hi⟩ := List.getElem?_of_mem hx
  obtain ⟨y, e, hp⟩ := h i (.str x) (by show (xs.map PyData.str)[i]? = _; rw [List.getElem?_map, hi]; rfl)
  cases e
  exact hp
end L3

/-! L3m: an own list is left as it is from now on -/
namespace L3
open PySem L2
section
variable {K : PySem.W.Frag} {m : List Addr} {B H : Hp} {l : List O} {ρ : List (Option D)} {R : D → List O → Prop} {te : TE}
theorem SR.frz (S : SR K m B H l) {n : Nat} {a : Addr} {xs : List V} {ds : List PyData} (ha : m[n]? = some a) (hl : l[n]? = some (.lst ds)) (hH : H a = some (.lst xs)) (r : FRs K B xs ds) :
    SR K m (upd B a (.lst xs)) H (l.set n .gone) ∧ Step m B H m (upd B a (.lst xs)) H ∧ FR K (upd B a (.lst xs)) (.ref a) (.list ds) := by
  have hb : B a = none := (S.obj n a _ ha hl).2 (by simp)
  have hsame : Same B (upd B a (.lst xs)) := same_new hb
  refine ⟨⟨fun b o e => ?_, by simp [S.len], S.nd, S.live, fun j b o h1 h2 => ?_⟩, ⟨hsame, ⟨[], by simp⟩, fun _ _ h _ => h, fun _ h => h, fun b h1 h2 h3 => ?_, fun _ h => .inl h⟩, FR.lst upd_same (FRs.same hsame ds xs r)⟩
  · by_cases h : b = a
    · subst h; rw [upd_same] at e; rw [← e]; exact hH
    · rw [upd_ne h] at e; exact S.sub b o e
  · by_cases hj : n = j
    · subst hj
      have hlen : n < l.length := (List.getElem?_eq_some_iff.mp hl).1
      rw [List.getElem?_set_self hlen] at h2
      cases h2
      exact ⟨trivial, fun h => absurd rfl h⟩
    · rw [List.getElem?_set_ne hj] at h2
      obtain ⟨q, c⟩ := S.obj j b o h1 h2
      have ne : b ≠ a := fun z => S.ne ha h1 hj z.symm
      exact ⟨q.up hsame ⟨[], by simp⟩ fun _ e => e, fun z => by rw [upd_ne ne]; exact c z⟩
  · have ne : b ≠ a := fun z => h3 (z ▸ List.mem_of_getElem? ha)
    rw [upd_ne ne]; exact h2
/-- what comes out as an own list is data from now on -/
theorem e_frz (h : EvS K te ρ l fun d l1 => ∃ n ds, d = .own n ∧ l1[n]? = some (.lst ds) ∧ R (.f (.list ds)) (l1.set n .gone)) : EvS K te ρ l R := fun m B H σ S e Q q => by
  refine h m B H σ S e _ fun v m1 B1 H1 d l1 s1 S1 r1 ⟨n, ds, ed, hn, z⟩ => ?_
  subst ed
  obtain ⟨a, rfl, ha⟩ := r1
  obtain ⟨⟨xs, e1, r⟩, _⟩ := S1.obj n a _ ha hn
  obtain ⟨S2, s2, r2⟩ := S1.frz ha hn e1 r
  exact q (.ref a) m1 _ H1 (.f (.list ds)) _ (s1.trans s2) S2 r2 z
end
end L3

/-! L3n: small words -/
namespace L3
open PySem L2
theorem iteNT {A A' : Prop} (h : A') : if (!true) = true then A else A' := h
theorem iteNF {A A' : Prop} (h : A) : if (!false) = true then A else A' := h
theorem shape_nil : SeqAt.shaped (.list []) = true := by simp [SeqAt.shaped, PyData.canLay0, PyData.canLayAll0, PyData.depth, PyData.depthAll]
theorem eqv_same {d : PyData} (h : SeqAt.shaped d = true) : PyData.eqv d d = true := SeqAt.eqv_refl _ (SeqAt.canLay_of_shaped h)
theorem IsPen.shift {o : O} (h : IsPen o) (k : Nat) : o.shift k = o := by
  obtain ⟨s, a, b, rfl, _⟩ := h.ex
  rfl
theorem isq_list {l : List O} {ds : List PyData} : IsQ l (.f (.list ds)) ds := .inl (.inl rfl)
theorem isq_tup {l : List O} {ds : List PyData} : IsQ l (.f (.tuple ds)) ds := .inr rfl
theorem isq_own {l : List O} {n : Nat} {ds : List PyData} (h : l[n]? = some (.lst ds)) : IsQ l (.own n) ds := .inl (.inr ⟨n, rfl, h⟩)
theorem isl_list {l : List O} {ds : List PyData} : IsL l (.f (.list ds)) ds := .inl rfl
theorem isl_own {l : List O} {n : Nat} {ds : List PyData} (h : l[n]? = some (.lst ds)) : IsL l (.own n) ds := .inr ⟨n, rfl, h⟩
theorem asd_f {l : List O} {d : PyData} : Asd l (.f d) d := .inl rfl
theorem asd_own {l : List O} {n : Nat} {ds : List PyData} (h : l[n]? = some (.lst ds)) : Asd l (.own n) (.list ds) := .inr ⟨n, ds, rfl, h, rfl⟩
theorem sPy_at {xs : List Str} {i : Int} (h0 : 0 ≤ i) (h1 : i < xs.length) : ∃ x, x ∈ xs ∧ atI (sPy xs) i = some (.str x) := by
  obtain ⟨j, rfl⟩ := Int.eq_ofNat_of_zero_le h0
  have hj : j < xs.length := by omega
  refine ⟨xs[j], List.getElem_mem hj, atI_nat ?_⟩
  show (xs.map PyData.str)[j]? = _
  rw [List.getElem?_map]
  simp [hj]
theorem iPy_at {ns : List Int} {i : Int} (h0 : 0 ≤ i) (h1 : i < ns.length) : ∃ x, x ∈ ns ∧ atI (ns.map PyData.int) i = some (.int x) := by
  obtain ⟨j, rfl⟩ := Int.eq_ofNat_of_zero_le h0
  have hj : j < ns.length := by omega
  refine ⟨ns[j], List.getElem_mem hj, atI_nat ?_⟩
  rw [List.getElem?_map]
  simp [hj]
theorem lay_sPy : ∀ {xs : List Str}, (∀ x ∈ xs, PyData.strOk x = true) → PyData.canLayAll0 (sPy xs) = true
  | [], _ => by simp [sPy, PyData.canLayAll0]
  | x :: xs, h => by
    have ih := lay_sPy (xs := xs) fun y hy => h y (List.mem_cons_of_mem _ hy)
    have e : sPy (x :: xs) = .str x :: sPy xs := rfl
    rw [e]
    simp [PyData.canLayAll0, PyData.canLay0, ih, h x List.mem_cons_self]
theorem lay_pPy : ∀ {es : List (Str × Str)}, (∀ e ∈ es, PyData.strOk e.1 = true ∧ PyData.strOk e.2 = true) → PyData.canLayAll0 (pPy es) = true
  | [], _ => by simp [pPy, PyData.canLayAll0]
  | x :: xs, h => by
    have ih := lay_pPy (es := xs) fun y hy => h y (List.mem_cons_of_mem _ hy)
    have e : pPy (x :: xs) = .tuple [.str x.1, .str x.2] :: pPy xs := rfl
    rw [e]
    simp [PyData.canLayAll0, PyData.canLay0, ih, h x List.mem_cons_self]
theorem dep_sPy : ∀ xs : List Str, PyData.depthAll (sPy xs) = 0
  | [] => by simp [sPy, PyData.depthAll]
  | x :: xs => by
    have ih := dep_sPy xs
    have e : sPy (x :: xs) = .str x :: sPy xs := rfl
    rw [e]
    simp [PyData.depthAll, PyData.depth, ih]
theorem dep_pPy : ∀ es : List (Str × Str), PyData.depthAll (pPy es) ≤ 1
  | [] => by simp [pPy, PyData.depthAll]
  | x :: xs => by
    have ih := dep_pPy xs
    have e : pPy (x :: xs) = .tuple [.str x.1, .str x.2] :: pPy xs := rfl
    rw [e]
    simp [PyData.depthAll, PyData.depth]
    omega
theorem shape_pair {a b : Str} (h1 : PyData.strOk a = true) (h2 : PyData.strOk b = true) : SeqAt.shaped (.tuple [.str a, .str b]) = true := by
  simp [SeqAt.shaped, PyData.canLayAll0, PyData.canLay0, PyData.depth, PyData.depthAll, h1, h2]
theorem shape_sPy {xs : List Str} (h : ∀ x ∈ xs, PyData.strOk x = true) : SeqAt.shaped (.list (sPy xs)) = true := by
  simp [SeqAt.shaped, PyData.canLay0, PyData.depth, lay_sPy h, dep_sPy]
end L3

/-! L3o: dict(list of pairs), keys that are tuples, isinstance, lists with references -/
namespace L3
open PySem L2
section
variable {X : Cx}
def mergeT (kvs more : List (List Key × V)) : List (List Key × V) := more.foldl (fun acc kv => putK acc kv.1 kv.2) kvs
theorem KT.merge {H : Hp} : ∀ {more : List (List Key × V)} {rs : List (List Key × Addr × Value)} {kvs : List (List Key × V)} {vs : List (List Key × Addr × Value)}, KT H more rs → KT H kvs vs → KT H (mergeT kvs more) (storedAllH vs rs) := by
  intro more rs kvs vs r
  induction r generalizing kvs vs with
  | nil => exact fun h => h
  | @cons p q ps qs h t ih =>
    intro h2
    have e : KT H (putK kvs p.1 p.2) (storedH vs q.1 q.2.1 q.2.2) := by
      rw [← h.1]
      exact L2.KT.put h2 p.1 h.2.1 h.2.2
    exact ih e
theorem mergeT_len (more : List (List Key × V)) : ∀ kvs : List (List Key × V), (mergeT kvs more).length ≤ kvs.length + more.length := by
  induction more with
  | nil => intro kvs; exact Nat.le_refl _
  | cons p ps ih =>
    intro kvs
    have h1 := ih (putK kvs p.1 p.2)
    have h2 := length_putK kvs p.1 p.2
    show (mergeT (putK kvs p.1 p.2) ps).length ≤ _
    rw [List.length_cons]
    omega
theorem pairsT_of {pins : List (Addr × Obj)} {σ : St} {H : Hp} {s : Shared} (I : Inv X pins σ H s) : ∀ {ps : List Addr} {kvs : List (List Key × V)}, Paired (fun p kv => ∃ t, SqT X.K H p [.ref t, kv.2] ∧ H t = some (.tup (kv.1.map kV))) ps kvs →
    ∃ prs : List (List Key × Addr × Value), KT H kvs prs ∧ prs.length = ps.length ∧ ∀ (j : Nat) (q : List Key × Addr × Value), prs[j]? = some q → ∃ b : Addr, ps[j]? = some b ∧ PyProof.Rows.IsTup s.heap b #[.ref q.2.1, q.2.2] ∧ (tupleKind (mixKind X.prog X.w)).is s.heap q.1 q.2.1
  | _, _, .nil => ⟨[], .nil, rfl, fun j q e => by simp at e⟩
  | _, _, .cons (a := p) (b := kv) h t => by
    obtain ⟨prs, r, hl, hp⟩ := pairsT_of I t
    obtain ⟨tt, h1, h2⟩ := h
    obtain ⟨its, rv, ht, _⟩ := I.tuple h1
    obtain ⟨u, y, ei, ru, ry⟩ := vals2 rv
    subst ei
    cases (show u = Value.ref tt from ru)
    refine ⟨(kv.1, tt, y) :: prs, .cons ⟨rfl, h2, ry⟩ r, by rw [List.length_cons, List.length_cons, hl], fun j q e => ?_⟩
    cases j with
    | zero =>
      have e' : (kv.1, tt, y) = q := Option.some.inj e
      subst e'
      exact ⟨p, rfl, ht, key_of I.hok h2⟩
    | succ j =>
      obtain ⟨b, e1, e2, e3⟩ := hp j q (by simpa using e)
      exact ⟨b, by simpa using e1, e2, e3⟩
def rDictT (K : PySem.W.Frag) : List V → Hp → VK → Prop := fun xs H Q => ∃ (a : Addr) (ps : List Addr) (kvs : List (List Key × V)), xs = [.ref a] ∧ SqL K H a (ps.map V.ref) ∧ Paired (fun p kv => ∃ t, SqT K H p [.ref t, kv.2] ∧ H t = some (.tup (kv.1.map kV))) ps kvs ∧
    ∀ p, H p = none → Q (.ref p) (upd H p (.dT (mergeT [] kvs)))
theorem call_dictT (hcalm : X.calm = true) (hu : X.A.units + 2 < cLine) : CallR X (.type "dict") (rDictT X.K) := by
  intro pins s σ H xs us Q I r q
  obtain ⟨a, ps, kvs, ex, hq, hp, q⟩ := q
  subst ex
  obtain ⟨u, eu, rx⟩ := vals1 r
  subst eu
  cases (show u = Value.ref a from rx)
  obtain ⟨its, rv, pl, hz⟩ := I.list hq
  have ei := refs_at rv
  subst ei
  rw [List.length_map] at hz
  obtain ⟨prs, rel, hl, hpr⟩ := pairsT_of I hp
  obtain ⟨o, n, ho, hc, hd, hdat⟩ := pl
  have P := PairArg.list (prog := X.prog) (w := X.w) a (ps.map Value.ref).toArray (fun j => ps.getD j 0) (prs.map fun q => (Value.ref q.2.1, q.2.2))
  have hks : ∀ x ∈ prs, (tupleKind (mixKind X.prog X.w)).is s.heap x.1 x.2.1 := fun x hx => by
    obtain ⟨j, hj⟩ := List.getElem?_of_mem hx
    obtain ⟨b, e1, e2, e3⟩ := hpr j x hj
    exact e3
  refine PySem.call_dict_pairsH (knd := tupleKind (mixKind X.prog X.w)) (ps := prs) P (I.ok.hd hcalm) hu ⟨⟨o, n, ho, hc, hd, hdat⟩, by simp [hl], fun j k v e => ?_⟩ ⟨by simp, fun i key v e => ?_⟩ (fun h' hk x hx => ?_) (by rw [List.length_map, hl]; exact hz) fun h' tk hd' k => ?_
  · rw [List.getElem?_map] at e
    cases e1 : prs[j]? with
    | none => rw [e1] at e; cases e
    | some y =>
      rw [e1] at e; cases e
      obtain ⟨b, e2, e3, _⟩ := hpr j y e1
      have e4 : ps.getD j 0 = b := by rw [List.getD_eq_getElem?_getD, e2]; rfl
      refine ⟨by show _ = some (Value.ref (ps.getD j 0)); rw [e4]; simp [e2], .inl (by show s.heap.IsTuple (ps.getD j 0) _; rw [e4]; exact e3)⟩
  · have e : (prs.map fun q => (Value.ref q.2.1, q.2.2))[i]? = some (key, v) := e
    rw [List.getElem?_map] at e
    cases e1 : prs[i]? with
    | none => rw [e1] at e; cases e
    | some y =>
      rw [e1] at e; cases e
      exact ⟨y.1, y.2.1, rfl, rfl⟩
  · exact tupleKind_stays.stays (fun b o vs n e _ => hk b o (Nat.ne_of_lt (Heap.lt_size e)) (fun z => by cases z) e) (hks x hx)
  · have hm : (s.heap.objs.size == sysModules) = false := beq_eq_false_iff_ne.mpr (Nat.ne_of_gt I.big)
    have hlen : (mergeT [] kvs).length ≤ sizeLine := by
      refine Nat.le_trans (mergeT_len kvs []) ?_
      rw [List.length_nil, Nat.zero_add, rel.length, hl]
      exact hz
    have fr := I.hok.fresh (Nat.le_refl _)
    obtain ⟨q1, es, ep, hq1, h2, h3, h4, _, h5⟩ := hd'
    refine ⟨.ref s.heap.objs.size, upd H s.heap.objs.size (.dT (mergeT [] kvs)), I.laid (t' := tk) (fun b o e => k b o (fun z => by cases z) e) (Nat.le_refl _) ⟨hlen, hm, _, KT.keeps (KT.merge rel .nil) fun b ys e => ?_, q1, es, ep, hq1, h2, h3, h4, h5⟩, rfl, q _ fr⟩
    rw [upd_ne (ne_of_none e fr)]
    exact e
def rDictP (K : PySem.W.Frag) : List V → Hp → VK → Prop := fun xs H Q => ∃ (a : Addr) (ps : List Addr) (kvs : List (Key × V)), xs = [.ref a] ∧ SqL K H a (ps.map V.ref) ∧ Paired (fun p kv => SqT K H p [kV kv.1, kv.2]) ps kvs ∧
    ∀ p, H p = none → Q (.ref p) (upd H p (.dK (mergeK [] kvs)))
def rDictU (K : PySem.W.Frag) : List V → Hp → VK → Prop := fun xs H Q => rDictP K xs H Q ∨ rDictT K xs H Q
theorem u_dict {K : PySem.W.Frag} (hK : X.K = K) (hcalm : X.calm = true) (hu : X.A.units + 65 < cLine) : CallR X (.type "dict") (rDictU K) := by
  subst hK
  exact CallR.or (call_dictP hcalm) (call_dictT hcalm (by omega))
end
section
variable {K : PySem.W.Frag} {m m' : List Addr} {B B' H H' : Hp} {l : List O} {ρ : List (Option D)} {R : D → List O → Prop} {E : E3} {te tl : TE} {tt : TT} {t u : TS} {ty : TA} {g : TG}
def mergeD {κ : Type} [DecidableEq κ] (kvs more : List (κ × PyData)) : List (κ × PyData) := more.foldl (fun acc kv => putD acc kv.1 kv.2) kvs
theorem lookD_merge {κ : Type} [DecidableEq κ] (k : κ) : ∀ (more kvs : List (κ × PyData)), (lookD (mergeD kvs more) k).isSome = ((lookD kvs k).isSome || more.any fun q => decide (q.1 = k))
  | [], kvs => by simp [mergeD]
  | q :: more, kvs => by
    have ih := lookD_merge k more (putD kvs q.1 q.2)
    show (lookD (mergeD (putD kvs q.1 q.2) more) k).isSome = _
    rw [ih, lookD_put, List.any_cons]
    by_cases h : q.1 = k
    · simp [h]
    · simp [h]
theorem merge_of {κ : Type} [DecidableEq κ] : ∀ {ms : List (κ × V)} {ns : List (κ × PyData)} {ks : List (κ × V)} {kvs : List (κ × PyData)},
    Paired (fun (p : κ × V) (q : κ × PyData) => p.1 = q.1 ∧ FR K B p.2 q.2) ms ns → Paired (fun (p : κ × V) (q : κ × PyData) => p.1 = q.1 ∧ FR K B p.2 q.2) ks kvs →
    Paired (fun (p : κ × V) (q : κ × PyData) => p.1 = q.1 ∧ FR K B p.2 q.2) (ms.foldl (fun acc kv => putK acc kv.1 kv.2) ks) (mergeD kvs ns)
  | _, _, _, _, .nil, h => h
  | _, _, _, _, .cons (a := p) (b := q) h t, h2 => by
    have e := put_of h2 p.1 h.2
    have := merge_of t e
    rw [List.foldl_cons]
    show Paired _ _ (mergeD (putD _ q.1 q.2) _)
    rw [← h.1]
    exact this
theorem frs_keys : ∀ {ks : List Key} {vs : List V}, FRs K B vs (ks.map keyD) → vs = ks.map kV
  | [], _, h => by cases h; rfl
  | k :: ks, _, h => by
    cases h with
    | cons h1 h2 => rw [kv_of h1, frs_keys (ks := ks) h2]; rfl
def prT (q : List Key × PyData) : PyData := .tuple [.tuple (q.1.map keyD), q.2]
def prK (q : Key × PyData) : PyData := .tuple [keyD q.1, q.2]
theorem prT_of (sub : Same B H) : ∀ {prs : List (List Key × PyData)} {vs : List V}, (∀ q ∈ prs, q.1.length = 2) → FRs K B vs (prs.map prT) →
    ∃ (ps : List Addr) (kvs : List (List Key × V)), vs = ps.map V.ref ∧ Paired (fun p kv => ∃ t, SqT K H p [.ref t, kv.2] ∧ H t = some (.tup (kv.1.map kV))) ps kvs ∧ Paired (fun (p : List Key × V) (q : List Key × PyData) => p.1 = q.1 ∧ FR K B p.2 q.2) kvs prs
  | [], _, _, h => by cases h; exact ⟨[], [], rfl, .nil, .nil⟩
  | q :: prs, _, hl, h => by
    cases h with
    | cons h1 h2 =>
      obtain ⟨ps, kvs, e1, e2, e3⟩ := prT_of sub (prs := prs) (fun x hx => hl x (List.mem_cons_of_mem _ hx)) h2
      cases h1 with
      | @tup a xs _ t1 f1 =>
        cases f1 with
        | cons f1 f2 =>
          cases f2 with
          | cons f2 f3 =>
            cases f3
            cases f1 with
            | @tup b ys _ t2 f4 =>
              have ey := frs_keys f4
              subst ey
              refine ⟨a :: ps, (q.1, _) :: kvs, by rw [e1]; rfl, .cons ⟨b, sqT_same sub t1.sq, ?_⟩ e2, .cons ⟨rfl, f2⟩ e3⟩
              rcases t2 with t2 | t2
              · exact sub _ _ t2
              · exact absurd (by rw [List.length_map]; exact hl q List.mem_cons_self) t2.1
theorem prK_of (sub : Same B H) : ∀ {prs : List (Key × PyData)} {vs : List V}, FRs K B vs (prs.map prK) →
    ∃ (ps : List Addr) (kvs : List (Key × V)), vs = ps.map V.ref ∧ Paired (fun p kv => SqT K H p [kV kv.1, kv.2]) ps kvs ∧ Paired (fun (p : Key × V) (q : Key × PyData) => p.1 = q.1 ∧ FR K B p.2 q.2) kvs prs
  | [], _, h => by cases h; exact ⟨[], [], rfl, .nil, .nil⟩
  | q :: prs, _, h => by
    cases h with
    | cons h1 h2 =>
      obtain ⟨ps, kvs, e1, e2, e3⟩ := prK_of sub (prs := prs) h2
      cases h1 with
      | @tup a xs _ t1 f1 =>
        cases f1 with
        | cons f1 f2 =>
          cases f2 with
          | cons f2 f3 =>
            cases f3
            rw [kv_of f1] at t1
            exact ⟨a :: ps, (q.1, _) :: kvs, by rw [e1]; rfl, .cons (sqT_same sub t1.sq) e2, .cons ⟨rfl, f2⟩ e3⟩
theorem c_dictT {x : D} {prs : List (List Key × PyData)} (h : IsL l x (prs.map prT)) (hl : ∀ q ∈ prs, q.1.length = 2) (z : R (.own l.length) (l ++ [.dctT (mergeD [] prs)])) : CaS K (rDictU K) [x] l R := fun m B H vs S r Q q => by
  cases r with
  | cons r1 r2 =>
    cases r2
    obtain ⟨a, us, e1, e2, q1⟩ := h.at S r1
    obtain ⟨ps, kvs, e3, e4, e5⟩ := prT_of S.sub hl q1
    subst e1 e3
    refine .inr ⟨a, ps, kvs, rfl, SqL.of e2, e4, fun p hp => ?_⟩
    have mg := merge_of e5 (ks := []) (kvs := []) .nil
    obtain ⟨S2, s2, r2⟩ := S.alloc (u := .dT (mergeT [] kvs)) (o := .dctT (mergeD [] prs)) hp ⟨_, upd_same, mg⟩
    exact q _ _ _ _ _ _ s2 S2 r2 z
theorem c_dictK {x : D} {prs : List (Key × PyData)} (h : IsL l x (prs.map prK)) (z : R (.own l.length) (l ++ [.dct (mergeD [] prs)])) : CaS K (rDictU K) [x] l R := fun m B H vs S r Q q => by
  cases r with
  | cons r1 r2 =>
    cases r2
    obtain ⟨a, us, e1, e2, q1⟩ := h.at S r1
    obtain ⟨ps, kvs, e3, e4, e5⟩ := prK_of S.sub q1
    subst e1 e3
    refine .inl ⟨a, ps, kvs, rfl, SqL.of e2, e4, fun p hp => ?_⟩
    have mg := merge_of e5 (ks := []) (kvs := []) .nil
    obtain ⟨S2, s2, r2⟩ := S.alloc (u := .dK (mergeK [] kvs)) (o := .dct (mergeD [] prs)) hp ⟨_, upd_same, mg⟩
    exact q _ _ _ _ _ _ s2 S2 r2 z
/-- a pair in a dict of pairs -/
theorem o_inDt {neg : Bool} {n : Nat} {k : List Key} {kvs : List (List Key × PyData)} (h : l[n]? = some (.dctT kvs)) (hk : k.length = 2) (z : R (.f (.bool (if neg then !(lookD kvs k).isSome else (lookD kvs k).isSome))) l) : OpS K (rInU K neg) (.f (.tuple (k.map keyD))) (.own n) l R := fun m B H vx vy S r1 r2 Q q => by
  obtain ⟨a, rfl, ha⟩ := r2
  obtain ⟨⟨ks, e, pr⟩, _⟩ := S.obj n a _ ha h
  cases r1 with
  | @tup b ys _ t1 f1 =>
    have ey := frs_keys f1
    subst ey
    have eb : H b = some (.tup (k.map kV)) := by
      rcases t1 with t1 | t1
      · exact S.sub _ _ t1
      · exact absurd (by rw [List.length_map]; exact hk) t1.1
    refine .inr (.inl ⟨a, _, rfl, DGet.t e eb, ?_⟩)
    have e3 : (valV ks k).isSome = (lookD kvs k).isSome := by
      rcases look_of pr k with ⟨e1, e2⟩ | ⟨v, d, e1, e2, _⟩ <;> rw [e1, e2] <;> rfl
    rw [e3]
    exact retF S q (FR.bl _) z
/-! isinstance -/
def tyF : PyData → String
  | .none => "NoneType"
  | .bool _ => "bool"
  | .int _ => "int"
  | .str _ => "str"
  | .list _ => "list"
  | .tuple _ => "tuple"
  | .dict _ => "dict"
def TyD (l : List O) : D → String → Prop
  | .f d, t => t = tyF d
  | .own n, t => (∃ o, l[n]? = some o ∧ match o with | .lst _ => t = "list" | .rfs _ => t = "list" | .tpr _ => t = "tuple" | .dct _ => t = "dict" | .dctT _ => t = "dict" | _ => False)
  | .sq _, _ => False
theorem ty_of {v : V} {d : D} {t : String} (S : SR K m B H l) (r : VR K m B v d) (h : TyD l d t) : TyX K H v (.type t) := by
  cases d with
  | f d =>
    cases (show t = tyF d from h)
    cases d with
    | none => cases r; exact .base .non
    | bool b => cases r; exact .base (.bl _)
    | int i => cases r; exact .base (.int _)
    | str x => cases r; exact .base (.str _)
    | list ds =>
      cases r with
      | lst h1 h2 => exact .base (.lst (S.sub _ _ h1))
    | tuple ds =>
      cases r with
      | tup h1 h2 =>
        rcases sqT_same S.sub h1.sq with (h3 | ⟨o, h3⟩) | ⟨o, its, n, h3, h4, _⟩
        · exact .base (.tup h3)
        · exact .fTuple h3
        · exact .kTuple h3 h4
    | dict kvs => cases r
  | own n =>
    obtain ⟨o, ho, hm⟩ := h
    obtain ⟨a, rfl, ha⟩ := r
    obtain ⟨ro, _⟩ := S.obj n a _ ha ho
    cases o with
    | lst ds => cases (show t = _ from hm); obtain ⟨xs, e, _⟩ := ro; exact .base (.lst e)
    | rfs ds => cases (show t = _ from hm); obtain ⟨xs, e, _⟩ := ro; exact .base (.lst e)
    | tpr ds => cases (show t = _ from hm); obtain ⟨xs, e, _⟩ := ro; exact .base (.tup e)
    | dct ds => cases (show t = _ from hm); obtain ⟨xs, e, _⟩ := ro; exact .base (.dK e)
    | dctT ds => cases (show t = _ from hm); obtain ⟨xs, e, _⟩ := ro; exact .base (.dT e)
    | ins C fs => exact hm.elim
    | gone => exact hm.elim
  | sq s => exact h.elim
def rIsiU (K : PySem.W.Frag) : List V → Hp → VK → Prop := fun xs H Q => rIsi K xs H Q ∨ rIsiT K xs H Q
theorem u_isi {X : Cx} {K : PySem.W.Frag} (hK : X.K = K) : CallR X (.builtin "isinstance") (rIsiU K) := by
  subst hK
  exact CallR.or call_isi call_isiT
theorem e_isi {n : String} (h : EvS K te ρ l fun x l1 => ∃ t b, TyD l1 x t ∧ kitB t n = some b ∧ R (.f (.bool b)) l1) : EvS K (tCB (rIsiU K) (tCons te (tCons (tC (.ty n)) tNil))) ρ l R := fun m B H σ S e Q q => by
  refine h m B H σ S e _ fun v m1 B1 H1 x l1 s1 S1 r1 ⟨t, b, ht, hk, z⟩ => ?_
  exact .inl ⟨v, .ty n, _, _, b, rfl, .ty n, ty_of S1 r1 ht, kit_ty hk, q _ _ _ _ (.f (.bool b)) _ s1 S1 (FR.bl b) z⟩
/-! a list with references, as data -/
def Asdd (l : List O) (x : D) (d : PyData) : Prop := Asd l x d ∨ ∃ n ys es, x = .own n ∧ l[n]? = some (.rfs ys) ∧ d = .list es ∧ Paired (Asd l) ys es
theorem dps_of (S : SR K m B H l) : ∀ {vs : List V} {ys : List D} {es : List PyData}, Paired (VR K m B) vs ys → Paired (Asd l) ys es → DpAll K H vs es
  | _, _, _, .nil, h => by cases h; exact .nil
  | _, _, _, .cons h1 t1, h => by
    cases h with
    | cons h2 t2 => exact .cons (h2.dp S h1) (dps_of S t1 t2)
theorem Asdd.dp (S : SR K m B H l) {v : V} {x : D} {d : PyData} (r : VR K m B v x) (h : Asdd l x d) : Dp K H v d := by
  rcases h with h | ⟨n, ys, es, rfl, hn, rfl, hp⟩
  · exact h.dp S r
  · obtain ⟨a, rfl, ha⟩ := r
    obtain ⟨⟨xs, e, pr⟩, _⟩ := S.obj n a _ ha hn
    exact .lst (SqL.of e) (dps_of S pr hp)
theorem o_eqPP {x y : D} {d e : PyData} (h1 : Asdd l x d) (h2 : Asdd l y e) (s1 : SeqAt.shaped d = true) (s2 : SeqAt.shaped e = true) (z : R (.f (.bool (PyData.eqv d e))) l) : OpS K (rEqU K) x y l R := fun m B H vx vy S r1 r2 Q q =>
  .inr ⟨d, e, h1.dp S r1, h2.dp S r2, s1, s2, retF S q (FR.bl _) z⟩
theorem o_nePP {x y : D} {d e : PyData} (h1 : Asdd l x d) (h2 : Asdd l y e) (s1 : SeqAt.shaped d = true) (s2 : SeqAt.shaped e = true) (z : R (.f (.bool (!PyData.eqv d e))) l) : OpS K (rNeU K) x y l R := fun m B H vx vy S r1 r2 Q q =>
  .inr ⟨d, e, h1.dp S r1, h2.dp S r2, s1, s2, retF S q (FR.bl _) z⟩
/-! a list with references is walked -/
theorem i_seqR {R : (List O → Prop) → Nat → (Nat → D) → List O → Prop} (h : EvS K tl ρ l fun x l1 => ∃ n ds, x = .own n ∧ l1[n]? = some (.rfs ds) ∧ R (fun l' => l'[n]? = some (.rfs ds)) ds.length (fun i => ds.getD i (.f .none)) l1) : EvI K (iSeq K tl) ρ l R := fun m B H σ S e Rt q => by
  refine h m B H σ S e _ fun v m1 B1 H1 x l1 s1 S1 r1 ⟨n, ds, ex, hn, z⟩ => ?_
  subst ex
  obtain ⟨a, rfl, ha⟩ := r1
  obtain ⟨⟨us, e2, pr⟩, _⟩ := S1.obj n a _ ha hn
  refine ⟨a, rfl, .inl ⟨⟨us, SqL.of e2⟩, q (Itl K a) m1 B1 H1 l1 _ _ _ s1 S1 (fun i m' B' H' l' hs hp S' P => ?_) z⟩⟩
  have ha' : m'[n]? = some a := get_pre hp ha
  obtain ⟨⟨ws, e3, pr'⟩, _⟩ := S'.obj n a _ ha' P
  have hl : ws.length = ds.length := pr'.length
  refine ⟨fun hi => ?_, fun hi => ⟨ws, SqL.of e3, by omega⟩⟩
  have hd : ds[i]? = some ds[i] := by simp [hi]
  obtain ⟨v, hv, rv⟩ := pair_get pr' hd
  refine ⟨⟨ws, v, SqL.of e3, hv⟩, fun y H3 ⟨eH, hy⟩ => ?_⟩
  subst eH
  have := hy ws (SqL.of e3)
  rw [hv] at this; cases this
  refine ⟨B', Step.refl _ _ _, S', ?_⟩
  show VR K m' B' v (ds.getD i (.f .none))
  rw [List.getD_eq_getElem?_getD, hd]
  exact rv
/-- a comprehension over a list with references -/
theorem e_lcRf {vs : List Nat} (hg : GG g vs) (h : EvS K tl ρ l fun x l1 => ∃ n ds, x = .own n ∧ l1[n]? = some (.rfs ds) ∧ ∃ I : Nat → List PyData → List O → Prop, I 0 [] l1 ∧ (∀ i acc l', i ≤ ds.length → I i acc l' → l'[n]? = some (.rfs ds) ∧ acc.length ≤ 100000) ∧
      (∀ i d acc l', ds[i]? = some d → I i acc l' → AsS K g d (wipe3 ρ vs) l' fun ρ2 l2 => EvT K tt ρ2 l2 fun b l3 => if b = true then EvS K te ρ2 l3 fun d l4 => ∃ y, d = .f y ∧ I (i + 1) (acc ++ [y]) l4 else I (i + 1) acc l3) ∧
      ∀ acc l', I ds.length acc l' → R (.own l'.length) (l' ++ [.lst acc])) : EvS K (tLc (iSeq K tl) g tt te vs) ρ l R :=
  e_lc (good_of hg) (i_seqR (h.imp fun x l1 ⟨n, ds, ex, hq, I, h0, hP, hs, hd⟩ => ⟨n, ds, ex, hq, I, h0, hP, fun i acc l' hi z => by
    have e : ds[i]? = some (ds.getD i (.f .none)) := by rw [List.getD_eq_getElem?_getD]; simp [hi]
    exact hs i _ acc l' e z, hd⟩))
/-- FOR over a list with references -/
theorem x_forRf (h : EvS K tl ρ l fun x l1 => ∃ n ds, x = .own n ∧ l1[n]? = some (.rfs ds) ∧ ∃ I : Nat → List (Option D) → List O → Prop, I 0 ρ l1 ∧ (∀ i ρ' l', i ≤ ds.length → I i ρ' l' → l'[n]? = some (.rfs ds)) ∧
      (∀ i d ρ' l', ds[i]? = some d → I i ρ' l' → AsS K g d ρ' l' fun ρ2 l2 => ExS K t ρ2 l2 ⟨I (i + 1), E.rt, E.nx, I (i + 1)⟩) ∧ ∀ ρ' l', I ds.length ρ' l' → E.nx ρ' l') : ExS K (tFor (iSeq K tl) g t) ρ l E :=
  x_for (i_seqR (h.imp fun x l1 ⟨n, ds, ex, hq, I, h0, hP, hs, hd⟩ => ⟨n, ds, ex, hq, I, h0, hP, fun i ρ' l' hi z => by
    have e : ds[i]? = some (ds.getD i (.f .none)) := by rw [List.getD_eq_getElem?_getD]; simp [hi]
    exact hs i _ ρ' l' e z, hd⟩))
/-! the store is cut, slots are forgotten -/
theorem wipe3_get {ρ : List (Option D)} {i : Nat} {d : D} : ∀ {vs : List Nat}, (wipe3 ρ vs)[i]? = some (some d) → ρ[i]? = some (some d)
  | [], h => h
  | j :: vs, h => by
    unfold wipe3 at h
    by_cases e : j = i
    · subst e
      have hl : j < (wipe3 ρ vs).length := by simpa using (List.getElem?_eq_some_iff.mp h).1
      rw [List.getElem?_set_self hl] at h; cases h
    · rw [List.getElem?_set_ne e] at h; exact wipe3_get h
def UndS (k : Nat) : List (Option D) → Prop
  | [] => True
  | none :: r => UndS k r
  | some d :: r => d.under k ∧ UndS k r
def UndO (k : Nat) : List O → Prop
  | [] => True
  | o :: r => o.under k ∧ UndO k r
theorem UndS.all {k : Nat} : ∀ {ρ : List (Option D)}, UndS k ρ → ∀ (i : Nat) (d : D), ρ[i]? = some (some d) → d.under k
  | [], _, _, _, h => by simp at h
  | none :: r, u, 0, _, h => by simp at h
  | none :: r, u, i + 1, d, h => UndS.all (ρ := r) u i d (by simpa using h)
  | some e :: r, u, 0, d, h => by
    have : e = d := by simpa using h
    subst this; exact u.1
  | some e :: r, u, i + 1, d, h => UndS.all (ρ := r) u.2 i d (by simpa using h)
theorem UndO.all {k : Nat} : ∀ {l : List O}, UndO k l → ∀ o ∈ l, o.under k
  | [], _, _, h => by cases h
  | e :: r, u, o, h => by
    rcases List.mem_cons.mp h with rfl | h
    · exact u.1
    · exact UndO.all (l := r) u.2 o h
def Tidy (k : Nat) (vs : List Nat) (P : List (Option D) → List O → Prop) (ρ : List (Option D)) (l : List O) : Prop := UndS k (wipe3 ρ vs) ∧ UndO k (l.take k) ∧ P (wipe3 ρ vs) (l.take k)
theorem x_tidy (k : Nat) (vs : List Nat) (hk : l.length ≤ k) (h : ExS K t ρ l ⟨Tidy k vs E.nx, E.rt, Tidy k vs E.bk, Tidy k vs E.ct⟩) : ExS K t ρ l E := fun m B H σ S e Dn F => by
  have key : ∀ {σ' : St} {ρ' : List (Option D)} {m' : List Addr} {B' H' : Hp} {l' : List O}, Step m B H m' B' H' → SR K m' B' H' l' → ER K m' B' σ' ρ' → UndS k (wipe3 ρ' vs) → UndO k (l'.take k) →
      Step m B H (m'.take k) B' H' ∧ SR K (m'.take k) B' H' (l'.take k) ∧ ER K (m'.take k) B' σ' (wipe3 ρ' vs) := fun s S' e' hd hb =>
    ⟨s.cut S' (by rw [S.len]; exact hk), S'.cut k hb.all, by rw [wipe3_len]; exact e'.1, fun i d z => let ⟨v, a, b⟩ := e'.2 i d (wipe3_get z); ⟨v, a, b.cut (hd.all i d z)⟩⟩
  refine h m B H σ S e Dn ⟨fun σ' ρ' m' B' H' l' s S' e' ⟨hd, hb, z⟩ => ?_, F.rt, fun σ' ρ' m' B' H' l' s S' e' ⟨hd, hb, z⟩ => ?_, fun σ' ρ' m' B' H' l' s S' e' ⟨hd, hb, z⟩ => ?_⟩
  · obtain ⟨a, b, c⟩ := key s S' e' hd hb
    exact F.nx _ _ _ _ _ _ a b c z
  · obtain ⟨a, b, c⟩ := key s S' e' hd hb
    exact F.bk _ _ _ _ _ _ a b c z
  · obtain ⟨a, b, c⟩ := key s S' e' hd hb
    exact F.ct _ _ _ _ _ _ a b c z
end
end L3

namespace Qk04
open PySem L2 L3
def top (i : Nat) : Stmt := PySem.Challenge.pw_orderkeep_k04_nexts_and_priors.main.body.getD i (.Pass ⟨0, 0, 0, 0⟩)
local macro_rules
  | `(tactic| walk_at "c") => `(tactic| first
    | decide
    | assumption
    | omega
    | (dsimp only; omega)
    | exact Or.inr ⟨by decide, by decide⟩
    | exact Or.inl ⟨by decide, by decide⟩
    | (refine Or.inl ⟨?_, ?_⟩ <;> omega)
    | (refine Or.inr ⟨?_, ?_⟩ <;> omega)
    | (refine And.intro ?_ ?_ <;> omega))
local macro_rules
  | `(tactic| walk_at "e") => `(tactic| first
    | ((with_reducible refine' e_var ?hv ?_); (case hv => exact rfl))
    | with_reducible refine' e_int ?_
    | with_reducible refine' e_op ?_
    | with_reducible refine' e_cb ?_
    | with_reducible refine' a_cons ?_
    | with_reducible refine' a_nil ?_
    | with_reducible refine' e_str ?_
    | with_reducible refine' e_bl ?_
    | with_reducible refine' e_non ?_
    | with_reducible refine' t_test ?_
    | with_reducible refine' t_B ?_
    | with_reducible refine' t_and ?_
    | with_reducible refine' t_or ?_
    | with_reducible refine' t_not ?_
    | with_reducible refine' t_yes ?_
    | with_reducible refine' e_un ?_
    | with_reducible refine' e_andV ?_
    | with_reducible refine' e_orV ?_
    | with_reducible refine' e_notV ?_
    | with_reducible refine' e_tIf ?_
    | with_reducible refine' e_m1 ?_
    | with_reducible refine' e_sl ?_
    | with_reducible refine' e_dK ?_
    | with_reducible refine' e_dT ?_
    | with_reducible refine' o_none ?_
    | with_reducible refine' o_some ?_
    | with_reducible refine' iteT ?_
    | with_reducible refine' iteF ?_
    | with_reducible refine' iteNT ?_
    | with_reducible refine' iteNF ?_
    | with_reducible refine' Exists.intro _ (And.intro (rfl : D.f (PyData.bool _) = D.f (PyData.bool _)) ?_)
    | with_reducible refine' Exists.intro _ (And.intro (rfl : D.f (PyData.int _) = D.f (PyData.int _)) ?_)
    | with_reducible refine' Exists.intro _ (And.intro (rfl : [D.f (PyData.int _)] = [D.f (PyData.int _)]) ?_)
    | ((with_reducible refine' Exists.intro _ (And.intro (?hz : unF _ = some _) ?_)); (case hz => exact rfl))
    | ((with_reducible refine' And.intro ?ha ?_); (case ha => first | decide | exact Nat.le_of_ble_eq_true rfl))
    | with_reducible refine' And.intro (Exists.intro _ rfl) ?_
    | with_reducible refine' o_addI ?_
    | with_reducible refine' o_I0i ?_
    | with_reducible refine' o_I0b ?_
    | with_reducible refine' o_eqI ?_
    | with_reducible refine' o_neI ?_
    | with_reducible refine' o_eqS ?_
    | with_reducible refine' o_neS ?_
    | ((with_reducible refine' o_Ii ?hc ?_); (case hc => walk_at "c"))
    | ((with_reducible refine' o_mulI ?hc ?_); (case hc => walk_at "c"))
    | ((with_reducible refine' o_ixR ?ha ?hb ?_); (case ha => exact rfl); (case hb => exact rfl))
    | ((with_reducible refine' o_ixQ isq_tup ?hb ?_); (case hb => exact rfl))
    | ((with_reducible refine' o_ixQ isq_list ?hb ?_); (case hb => exact rfl))
    | ((with_reducible refine' o_ixQ (isq_own ?hn) ?hb ?_); (case hn => exact rfl); (case hb => exact rfl))
    | with_reducible refine' o_ipI ?_
    | with_reducible refine' c_abs ?_
    | with_reducible refine' c_min2 ?_
    | with_reducible refine' c_max2 ?_
    | with_reducible refine' c_intB ?_
    | with_reducible refine' c_lenSq ?_
    | with_reducible refine' c_lenQ isq_tup ?_
    | with_reducible refine' c_lenQ isq_list ?_
    | ((with_reducible refine' c_lenQ (isq_own ?hn) ?_); (case hn => exact rfl))
    | with_reducible refine' e_bmL ?_
    | with_reducible refine' e_tup ?_
    | ((with_reducible refine' And.intro (Exists.intro _ (isl_own ?hn)) ?_); (case hn => exact rfl))
    | with_reducible refine' And.intro (Exists.intro _ isl_list) ?_
    | with_reducible refine' g_name ?_
    | with_reducible refine' g_nil ?_
    | with_reducible refine' g_cons ?_
    | ((with_reducible refine' g_tup ?hn ?_); (case hn => exact rfl))
    | with_reducible refine' xs_seq ?_
    | with_reducible refine' xs_set ?_
    | with_reducible refine' xs_asg ?_
    | with_reducible refine' xs_drop ?_
    | with_reducible refine' xs_next ?_
    | with_reducible refine' xs_ret ?_
    | with_reducible refine' xs_if ?_
    | with_reducible refine' xs_dput ?_
    | with_reducible refine' x_set ?_
    | with_reducible refine' x_asg ?_
    | with_reducible refine' x_drop ?_
    | with_reducible refine' x_ret ?_
    | with_reducible refine' x_if ?_
    | with_reducible refine' x_dput ?_)
local macro_rules
  | `(tactic| walk_at "w") => `(tactic| repeat' (walk_at "e"))
local macro_rules
  | `(tactic| walk_at "t") => `(tactic| (with_reducible refine' e_tup ?_); (walk_at "w"))
local macro_rules
  | `(tactic| walk_at "d") => `(tactic| (refine e_draw 0 ?_; walk_at "w"; refine ⟨_, _, rfl, rfl, by assumption, by first | decide | omega, by first | decide | omega, ?_⟩))

structure Bi (mg : Str → Option Value) : Prop where
  b_abs : mg "abs" = none
  b_dict : mg "dict" = none
  b_int : mg "int" = none
  b_isinstance : mg "isinstance" = none
  b_len : mg "len" = none
  b_list : mg "list" = none
  b_min : mg "min" = none
  b_range : mg "range" = none
  b_tuple : mg "tuple" = none
section
variable {P : Program} {w : World} {K : PySem.W.Frag} {mg : Str → Option Value} {base : Heap}
def nextsM (ts : List Str) (es : List (Str × Str)) (one : Str) : List Str := ts.filter fun n => es.any fun e => decide (e.1 = one) && decide (e.2 = n)
def S_nexts : Spec3 := fun ds g R => ∃ ts es one, ds = [.f (webD ts es), .f (.str one)] ∧ g = [] ∧ ts.length ≤ 1000 ∧ es.length ≤ 1000 ∧ R (.own 0) [.lst (sPy (nextsM ts es one))]
abbrev s_nexts : Stmt := top 1
theorem sc_nexts : FnScope ["web", "one", "told", "here", "there", "name"] ["web", "one"] (defScope s_nexts) := ⟨rfl, rfl, rfl, by decide +kernel, rfl, by decide +kernel, by decide +kernel⟩
set_option maxHeartbeats 4000000 in
theorem ok_nexts (T : Bi mg) (Df : DefAt K mg "nexts" s_nexts ["web", "one"]) : Cal P w K mg base 1 "nexts" ["web", "one"] S_nexts := by
  refine ok4 Df sc_nexts (fun ds g R ⟨_, _, _, h, _⟩ => by rw [h]; rfl) (fun cdv A outer s H E f hr => ?_)
  have hu1 := hu_of hr
  have hu64 := hr.units
  have hu65 : (A.deeper (PyProof.Rows.envOfC "nexts" (defScope s_nexts) s.heap.objs.size f cdv)).units + 65 < cLine := by have := hr.un; omega
  refine ⟨_, (pss_cons (ps_set (i := 2) sc_nexts.nd rfl (by first | exact Or.inl rfl | exact Or.inr rfl) pe_dnewK)
    (pss_cons (ps_for PassesOwn.never rfl (u_seq (K := K) rfl (pe_ix (u_ix (K := K) rfl hu1) (pv 0) pe_int (fun _ _ => rfl))) (u_tup (K := K) (n := 2) rfl (by rfl) (pgs_cons (pg_name (i := 3) sc_nexts.nd rfl (by first | exact Or.inl rfl | exact Or.inr rfl)) (pgs_cons (pg_name (i := 4) sc_nexts.nd rfl (by first | exact Or.inl rfl | exact Or.inr rfl)) pgs_nil)))
    (pss_one (ps_if (pt_cmpR (u_eq (K := K) rfl hu64) (pv 3) (pv 1) (nomark _))
    (pss_one (ps_dput hu1 (pv 2) (pv 4) pe_bl rfl))
    pss_nil)))
    (pss_one (ps_ret (pe_lc (own := [("name", 5)]) (by rfl) sc_nexts.nd (u_seq (K := K) rfl (pe_ix (u_ix (K := K) rfl hu1) (pv 0) pe_int (fun _ _ => rfl))) (blkOk_by (own := [("name", 5)]) (N := ["web", "one", "told", "here", "there", "name"]) (sc := defScope s_nexts) (by decide +kernel)) (fun _ _ _ _ _ => (pg_name (i := 5) sc_nexts.nd rfl (by first | exact Or.inl rfl | exact Or.inr rfl))) (fun _ _ _ _ _ => (pts_one (pt_cmpR (u_in (K := K) rfl hu65) (pv 5) (pv 2) (by rfl)))) (fun _ _ _ _ _ => (pv 5))))))), fun ds g R hS => ?_⟩
  obtain ⟨ts, es, one, rfl, rfl, h1, h2, z⟩ := hS
  show ExS K _ [some _, some _, none, none, none, none] _ _
  refine xs_set (e_dK ?_)
  refine xs_forQ (e_op (e_var rfl (e_int (o_ixQ (.inr rfl) rfl ?_))))
  refine ⟨pPy es, .inr rfl, fun i ρ' l' => ∃ kvs a b, ρ' = [some (.f (webD ts es)), some (.f (.str one)), some (.own 0), a, b, none] ∧ l' = [.dct kvs] ∧ kvs.length ≤ i ∧ ∀ n, (lookD kvs (Sum.inr n)).isSome = (es.take i).any fun e => decide (e.1 = one) && decide (e.2 = n),
    ⟨[], none, none, rfl, rfl, Nat.le_refl _, fun n => rfl⟩, fun i ρ' l' _ _ => .inr rfl, ?_, ?_⟩
  · rintro i d ρ' l' hd ⟨kvs, a, b, rfl, rfl, hk, hl⟩
    obtain ⟨e, he, rfl⟩ := pPy_get hd
    have hi := (List.getElem?_eq_some_iff.mp he).1
    refine g_tup rfl (g_cons (g_name (g_cons (g_name (g_nil ?_)))))
    refine x_if (t_test (e_op (e_var rfl (e_var rfl (o_eqS ⟨_, rfl, d_both (fun h => ?_) (fun h => ?_)⟩)))))
    · refine x_dput (e_bl (e_var rfl (e_var rfl ⟨0, kvs, .inr e.2, .bool true, rfl, rfl, rfl, rfl, by omega, ?_⟩)))
      refine ⟨_, _, _, rfl, rfl, Nat.le_trans (putD_len _ _ _) (by omega), fun n => ?_⟩
      rw [lookD_put, take_next he, List.any_append]
      by_cases hn : e.2 = n
      · subst hn; simp [h]
      · have hn' : ¬ (Sum.inr e.2 : Key) = Sum.inr n := fun z => hn (Sum.inr.inj z)
        rw [if_neg hn', hl n]; simp [hn]
    · refine x_next ⟨kvs, _, _, rfl, rfl, by omega, fun n => ?_⟩
      rw [take_next he, List.any_append, hl n]
      simp [h]
  · rintro ρ' l' ⟨kvs, a, b, rfl, rfl, hk, hl⟩
    rw [pPy_len, List.take_length] at hl
    refine x_ret (e_lcF (strF fun x => es.any fun e => decide (e.1 = one) && decide (e.2 = x)) (gg_name (by decide))
      (e_op (e_var rfl (e_int (o_ixQ (.inr rfl) rfl ⟨sPy ts, .inr rfl, by rw [sPy_len]; omega, fun d hd => ?_, ?_⟩)))))
    · obtain ⟨x, hx, rfl⟩ := sPy_mem hd
      refine g_name (t_test (e_op (e_var rfl (e_var rfl (o_inDk (k := Sum.inr x) rfl ⟨_, rfl, ?_⟩)))))
      show if (lookD kvs (Sum.inr x)).isSome = true then _ else _
      rw [hl x]
      refine b_both (fun hb => e_var rfl ⟨_, rfl, ?_, rfl⟩) (fun hb => ⟨?_, rfl⟩)
      · exact if_pos hb
      · exact if_neg fun z => Bool.noConfusion (hb.symm.trans z)
    · refine Res.own (n := 1) rfl trivial nofun (Nat.zero_le _) (fun _ h => by cases h) ?_
      rw [sPy_filter]
      exact z
def priorsM (ts : List Str) (es : List (Str × Str)) (one : Str) : List Str := ts.filter fun n => es.any fun e => decide (e.2 = one) && decide (e.1 = n)
def S_priors : Spec3 := fun ds g R => ∃ ts es one, ds = [.f (webD ts es), .f (.str one)] ∧ g = [] ∧ ts.length ≤ 1000 ∧ es.length ≤ 1000 ∧ R (.own 0) [.lst (sPy (priorsM ts es one))]
abbrev s_priors : Stmt := top 2
theorem sc_priors : FnScope ["web", "one", "told", "here", "there", "name"] ["web", "one"] (defScope s_priors) := ⟨rfl, rfl, rfl, by decide +kernel, rfl, by decide +kernel, by decide +kernel⟩
set_option maxHeartbeats 4000000 in
theorem ok_priors (T : Bi mg) (Df : DefAt K mg "priors" s_priors ["web", "one"]) : Cal P w K mg base 1 "priors" ["web", "one"] S_priors := by
  refine ok4 Df sc_priors (fun ds g R ⟨_, _, _, h, _⟩ => by rw [h]; rfl) (fun cdv A outer s H E f hr => ?_)
  have hu1 := hu_of hr
  have hu64 := hr.units
  have hu65 : (A.deeper (PyProof.Rows.envOfC "priors" (defScope s_priors) s.heap.objs.size f cdv)).units + 65 < cLine := by have := hr.un; omega
  refine ⟨_, (pss_cons (ps_set (i := 2) sc_priors.nd rfl (by first | exact Or.inl rfl | exact Or.inr rfl) pe_dnewK)
    (pss_cons (ps_for PassesOwn.never rfl (u_seq (K := K) rfl (pe_ix (u_ix (K := K) rfl hu1) (pv 0) pe_int (fun _ _ => rfl))) (u_tup (K := K) (n := 2) rfl (by rfl) (pgs_cons (pg_name (i := 3) sc_priors.nd rfl (by first | exact Or.inl rfl | exact Or.inr rfl)) (pgs_cons (pg_name (i := 4) sc_priors.nd rfl (by first | exact Or.inl rfl | exact Or.inr rfl)) pgs_nil)))
    (pss_one (ps_if (pt_cmpR (u_eq (K := K) rfl hu64) (pv 4) (pv 1) (nomark _))
    (pss_one (ps_dput hu1 (pv 2) (pv 3) pe_bl rfl))
    pss_nil)))
    (pss_one (ps_ret (pe_lc (own := [("name", 5)]) (by rfl) sc_priors.nd (u_seq (K := K) rfl (pe_ix (u_ix (K := K) rfl hu1) (pv 0) pe_int (fun _ _ => rfl))) (blkOk_by (own := [("name", 5)]) (N := ["web", "one", "told", "here", "there", "name"]) (sc := defScope s_priors) (by decide +kernel)) (fun _ _ _ _ _ => (pg_name (i := 5) sc_priors.nd rfl (by first | exact Or.inl rfl | exact Or.inr rfl))) (fun _ _ _ _ _ => (pts_one (pt_cmpR (u_in (K := K) rfl hu65) (pv 5) (pv 2) (by rfl)))) (fun _ _ _ _ _ => (pv 5))))))), fun ds g R hS => ?_⟩
  obtain ⟨ts, es, one, rfl, rfl, h1, h2, z⟩ := hS
  show ExS K _ [some _, some _, none, none, none, none] _ _
  refine xs_set (e_dK ?_)
  refine xs_forQ (e_op (e_var rfl (e_int (o_ixQ (.inr rfl) rfl ?_))))
  refine ⟨pPy es, .inr rfl, fun i ρ' l' => ∃ kvs a b, ρ' = [some (.f (webD ts es)), some (.f (.str one)), some (.own 0), a, b, none] ∧ l' = [.dct kvs] ∧ kvs.length ≤ i ∧ ∀ n, (lookD kvs (Sum.inr n)).isSome = (es.take i).any fun e => decide (e.2 = one) && decide (e.1 = n),
    ⟨[], none, none, rfl, rfl, Nat.le_refl _, fun n => rfl⟩, fun i ρ' l' _ _ => .inr rfl, ?_, ?_⟩
  · rintro i d ρ' l' hd ⟨kvs, a, b, rfl, rfl, hk, hl⟩
    obtain ⟨e, he, rfl⟩ := pPy_get hd
    have hi := (List.getElem?_eq_some_iff.mp he).1
    refine g_tup rfl (g_cons (g_name (g_cons (g_name (g_nil ?_)))))
    refine x_if (t_test (e_op (e_var rfl (e_var rfl (o_eqS ⟨_, rfl, d_both (fun h => ?_) (fun h => ?_)⟩)))))
    · refine x_dput (e_bl (e_var rfl (e_var rfl ⟨0, kvs, .inr e.1, .bool true, rfl, rfl, rfl, rfl, by omega, ?_⟩)))
      refine ⟨_, _, _, rfl, rfl, Nat.le_trans (putD_len _ _ _) (by omega), fun n => ?_⟩
      rw [lookD_put, take_next he, List.any_append]
      by_cases hn : e.1 = n
      · subst hn; simp [h]
      · have hn' : ¬ (Sum.inr e.1 : Key) = Sum.inr n := fun z => hn (Sum.inr.inj z)
        rw [if_neg hn', hl n]; simp [hn]
    · refine x_next ⟨kvs, _, _, rfl, rfl, by omega, fun n => ?_⟩
      rw [take_next he, List.any_append, hl n]
      simp [h]
  · rintro ρ' l' ⟨kvs, a, b, rfl, rfl, hk, hl⟩
    rw [pPy_len, List.take_length] at hl
    refine x_ret (e_lcF (strF fun x => es.any fun e => decide (e.2 = one) && decide (e.1 = x)) (gg_name (by decide))
      (e_op (e_var rfl (e_int (o_ixQ (.inr rfl) rfl ⟨sPy ts, .inr rfl, by rw [sPy_len]; omega, fun d hd => ?_, ?_⟩)))))
    · obtain ⟨x, hx, rfl⟩ := sPy_mem hd
      refine g_name (t_test (e_op (e_var rfl (e_var rfl (o_inDk (k := Sum.inr x) rfl ⟨_, rfl, ?_⟩)))))
      show if (lookD kvs (Sum.inr x)).isSome = true then _ else _
      rw [hl x]
      refine b_both (fun hb => e_var rfl ⟨_, rfl, ?_, rfl⟩) (fun hb => ⟨?_, rfl⟩)
      · exact if_pos hb
      · exact if_neg fun z => Bool.noConfusion (hb.symm.trans z)
    · refine Res.own (n := 1) rfl trivial nofun (Nat.zero_le _) (fun _ h => by cases h) ?_
      rw [sPy_filter]
      exact z
abbrev S__law_pen := S_pen
abbrev s__law_pen : Stmt := top 4
theorem sc__law_pen : FnScope ["_law_script"] ["_law_script"] (defScope s__law_pen) := ⟨rfl, rfl, rfl, by decide +kernel, rfl, by decide +kernel, by decide +kernel⟩
set_option maxHeartbeats 4000000 in
theorem ok__law_pen (T : Bi mg) (Df : DefAt K mg "_law_pen" s__law_pen ["_law_script"]) : Cal P w K mg base 1 "_law_pen" ["_law_script"] S__law_pen := by
  refine ok4 Df sc__law_pen (fun ds g R ⟨_, h, _⟩ => by rw [h]; rfl) (fun cdv A outer s H E f hr => ?_)
  have hu1 := hu_of hr
  have hu64 := hr.units
  have hu65 : (A.deeper (PyProof.Rows.envOfC "_law_pen" (defScope s__law_pen) s.heap.objs.size f cdv)).units + 65 < cLine := by have := hr.un; omega
  refine ⟨_, (pss_one (ps_ret (pe_lst (pa_cons (pv 0) (pa_cons pe_int (pa_cons pe_int pa_nil)))))), fun ds g R hS => ?_⟩
  obtain ⟨s, rfl, rfl, hs, z⟩ := hS
  show ExS K _ [some _] _ _
  refine x_ret (e_rfs ?_)
  walk_at "w"
  exact .inl (z _ ⟨s, 0, 0, rfl, hs, Int.le_refl _, Int.le_refl _⟩)
abbrev S__law_draw := S_draw
abbrev s__law_draw : Stmt := top 5
theorem sc__law_draw : FnScope ["_law_pen_here", "_law_most", "_law_found", "_law_place", "_law_cell", "_law_first", "_law_second"] ["_law_pen_here", "_law_most"] (defScope s__law_draw) := ⟨rfl, rfl, rfl, by decide +kernel, rfl, by decide +kernel, by decide +kernel⟩
set_option maxHeartbeats 4000000 in
theorem ok__law_draw (T : Bi mg) (Df : DefAt K mg "_law_draw" s__law_draw ["_law_pen_here", "_law_most"]) : Cal P w K mg base 1 "_law_draw" ["_law_pen_here", "_law_most"] S__law_draw := by
  refine ok4 Df sc__law_draw (fun ds g R ⟨_, _, h, _⟩ => by rw [h]; rfl) (fun cdv A outer s H E f hr => ?_)
  have hu1 := hu_of hr
  have hu64 := hr.units
  have hu65 : (A.deeper (PyProof.Rows.envOfC "_law_draw" (defScope s__law_draw) s.heap.objs.size f cdv)).units + 65 < cLine := by have := hr.un; omega
  refine ⟨_, (pss_cons (ps_if (pt_cmpR op_gt (pe_ix (u_ix (K := K) rfl hu1) (pv 0) pe_int (fun _ _ => rfl)) pe_int (nomark _))
    (pss_cons (ps_set (i := 2) sc__law_draw.nd rfl (by first | exact Or.inl rfl | exact Or.inr rfl) (pe_op op_mod (pe_ix (u_ix (K := K) rfl hu1) (pv 0) pe_int (fun _ _ => rfl)) (pv 1)))
    (pss_cons (ps_asg (pe_op op_fdiv (pe_ix (u_ix (K := K) rfl hu1) (pv 0) pe_int (fun _ _ => rfl)) (pv 1)) (pg_sub (pv 0) pe_int set_list))
    (pss_one (ps_ret (pv 2)))))
    pss_nil)
    (pss_cons (ps_set (i := 3) sc__law_draw.nd rfl (by first | exact Or.inl rfl | exact Or.inr rfl) (pe_ix (u_ix (K := K) rfl hu1) (pv 0) pe_int (fun _ _ => rfl)))
    (pss_cons (ps_asg (pe_op (u_add (K := K) rfl) (pv 3) pe_int) (pg_sub (pv 0) pe_int set_list))
    (pss_cons (ps_set (i := 4) sc__law_draw.nd rfl (by first | exact Or.inl rfl | exact Or.inr rfl) pe_int)
    (pss_cons (ps_if (pt_cmpR op_gt (pe_callB (u_len (K := K) rfl) (by rfl) T.b_len (by decide +kernel) (pa_cons (pe_ix (u_ix (K := K) rfl hu1) (pv 0) pe_int (fun _ _ => rfl)) pa_nil)) pe_int (nomark _))
    (pss_one (ps_set (i := 4) sc__law_draw.nd rfl (by first | exact Or.inl rfl | exact Or.inr rfl) (pe_ix (u_ix (K := K) rfl hu1) (pe_ix (u_ix (K := K) rfl hu1) (pv 0) pe_int (fun _ _ => rfl)) (pe_op op_mod (pv 3) (pe_callB (u_len (K := K) rfl) (by rfl) T.b_len (by decide +kernel) (pa_cons (pe_ix (u_ix (K := K) rfl hu1) (pv 0) pe_int (fun _ _ => rfl)) pa_nil))) (fun _ _ => rfl))))
    pss_nil)
    (pss_cons (ps_if (PW.pt (pw_and (pt_cmpR op_lt (pv 3) (pe_callB (u_len (K := K) rfl) (by rfl) T.b_len (by decide +kernel) (pa_cons (pe_ix (u_ix (K := K) rfl hu1) (pv 0) pe_int (fun _ _ => rfl)) pa_nil)) (nomark _)) (pw_and1 (pt_cmpR op_ge (pe_callB u_abs (by rfl) T.b_abs (by decide +kernel) (pa_cons (pv 4) pa_nil)) (pe_op op_pow pe_int pe_int) (nomark _)))))
    (pss_cons (ps_asg (pe_op op_fdiv (pe_callB u_abs (by rfl) T.b_abs (by decide +kernel) (pa_cons (pv 4) pa_nil)) (pv 1)) (pg_sub (pv 0) pe_int set_list))
    (pss_one (ps_ret (pe_op op_mod (pe_callB u_abs (by rfl) T.b_abs (by decide +kernel) (pa_cons (pv 4) pa_nil)) (pv 1)))))
    pss_nil)
    (pss_cons (ps_set (i := 5) sc__law_draw.nd rfl (by first | exact Or.inl rfl | exact Or.inr rfl) (pe_op op_mod (pe_op u_mul (pe_op (u_add (K := K) rfl) (pe_op (u_add (K := K) rfl) (pe_op op_mod (pv 4) pe_int) (pe_op u_mul pe_int (pv 3))) pe_int) pe_int) pe_int))
    (pss_cons (ps_set (i := 6) sc__law_draw.nd rfl (by first | exact Or.inl rfl | exact Or.inr rfl) (pe_op op_mod (pe_op (u_add (K := K) rfl) (pe_op (u_add (K := K) rfl) (pe_op u_mul (pv 5) (pv 5)) (pe_op u_mul pe_int (pv 3))) pe_int) pe_int))
    (pss_one (ps_ret (pe_op op_mod (pe_op op_fdiv (pv 6) pe_int) (pv 1)))))))))))), fun ds g R hS => ?_⟩
  obtain ⟨o, most, rfl, rfl, ⟨s, at_, dg, rfl, hs, h0, h1⟩, h2, h3, z⟩ := hS
  have ret : ∀ {r at' dg' : Int} {l : List O}, 0 ≤ r → r < most → 0 ≤ at' → 0 ≤ dg' → l = [penO s at' dg'] → Res 1 R (.f (.int r)) l := fun a b c d e => by subst e; exact .inl (z _ _ a b ⟨s, _, _, rfl, hs, c, d⟩)
  show ExS K _ [some _, some _, none, none, none, none, none] _ _
  walk_at "w"
  refine d_both (fun hd => ?_) (fun hd => ?_)
  · walk_at "w"
    refine g_setR ?_
    walk_at "w"
    refine ⟨0, _, 2, 2, rfl, rfl, rfl, rfl, ?_⟩
    walk_at "w"
    exact ret (Int.emod_nonneg _ (Int.ne_of_gt h2)) (Int.emod_lt_of_pos _ h2) h0 (Int.ediv_nonneg h1 (Int.le_of_lt h2)) rfl
  · walk_at "w"
    refine g_setR ?_
    walk_at "w"
    refine ⟨0, _, 1, 1, rfl, rfl, rfl, rfl, ?_⟩
    refine xs_set ?_
    walk_at "e"
    refine xs_mid (fun ρ' l' => ∃ c, ρ' = [some (.own 0), some (.f (.int most)), none, some (.f (.int at_)), some (.f (.int c)), none, none] ∧ l' = [penO s (at_ + 1) dg]) ?_ ?_
    · walk_at "w"
      refine d_both (fun hl => ?_) (fun hl => ?_)
      · obtain ⟨k, hk⟩ := at_mod (i := at_) hl
        walk_at "w"
        refine o_ixSq hk ?_
        exact ⟨k, rfl, rfl⟩
      · exact x_next ⟨0, rfl, rfl⟩
    · rintro ρ' l' ⟨c, rfl, rfl⟩
      have hm : ∀ {x : Int} {l : List O}, l = [penO s (at_ + 1) dg] → Res 1 R (.f (.int (x % most))) l := fun e => ret (Int.emod_nonneg _ (Int.ne_of_gt h2)) (Int.emod_lt_of_pos _ h2) (by omega) h1 e
      walk_at "w"
      refine d_both (fun ha => ?_) (fun ha => ?_)
      · walk_at "w"
        refine d_both (fun hb => ?_) (fun hb => ?_)
        · have hc : (0 : Int) ≤ if c < 0 then -c else c := by split <;> omega
          walk_at "w"
          refine g_setR ?_
          walk_at "w"
          refine ⟨0, _, 2, 2, rfl, rfl, rfl, rfl, ?_⟩
          walk_at "w"
          exact ret (Int.emod_nonneg _ (Int.ne_of_gt h2)) (Int.emod_lt_of_pos _ h2) (by omega) (Int.ediv_nonneg hc (Int.le_of_lt h2)) rfl
        · walk_at "w"
          exact hm rfl
      · walk_at "w"
        exact hm rfl
def NamesOk (many : Int) (xs : List Str) : Prop := (xs.length : Int) = many ∧ ∀ x ∈ xs, Low x ∧ x.length ≤ 30
def S__law_names : Spec3 := fun ds g R => ∃ o many, ds = [.own 0, .f (.int many)] ∧ g = [o] ∧ IsPen o ∧ 0 ≤ many ∧ many ≤ 60 ∧ ∀ o' xs, IsPen o' → NamesOk many xs → R (.own 1) [o', .lst (sPy xs)]
abbrev s__law_names : Stmt := top 6
theorem sc__law_names : FnScope ["_law_pen_here", "_law_many", "_law_letters", "_law_words", "_law_base", "_law_size", "_law_at", "_law_turn", "_law_manner", "_law_signs", "_law_head", "_law_tail", "_law_k", "_law_sign"] ["_law_pen_here", "_law_many"] (defScope s__law_names) := ⟨rfl, rfl, rfl, by decide +kernel, rfl, by decide +kernel, by decide +kernel⟩
set_option maxHeartbeats 4000000 in
theorem ok__law_names (T : Bi mg) (Df : DefAt K mg "_law_names" s__law_names ["_law_pen_here", "_law_many"]) (C__law_draw : Cal P w K mg base 1 "_law_draw" ["_law_pen_here", "_law_most"] S__law_draw) : Cal P w K mg base 2 "_law_names" ["_law_pen_here", "_law_many"] S__law_names := by
  refine ok4 Df sc__law_names (fun ds g R ⟨_, _, h, _⟩ => by rw [h]; rfl) (fun cdv A outer s H E f hr => ?_)
  have hu1 := hu_of hr
  have hu64 := hr.units
  have hu65 : (A.deeper (PyProof.Rows.envOfC "_law_names" (defScope s__law_names) s.heap.objs.size f cdv)).units + 65 < cLine := by have := hr.un; omega
  refine ⟨_, (pss_cons (ps_set (i := 2) sc__law_names.nd rfl (by first | exact Or.inl rfl | exact Or.inr rfl) pe_str)
    (pss_cons (ps_set (i := 3) sc__law_names.nd rfl (by first | exact Or.inl rfl | exact Or.inr rfl) (pe_lst (pa_cons pe_str (pa_cons pe_str (pa_cons pe_str (pa_cons pe_str (pa_cons pe_str (pa_cons pe_str (pa_cons pe_str (pa_cons pe_str (pa_cons pe_str (pa_cons pe_str (pa_cons pe_str (pa_cons pe_str pa_nil))))))))))))))
    (pss_cons (ps_set (i := 3) sc__law_names.nd rfl (by first | exact Or.inl rfl | exact Or.inr rfl) (pe_op (u_add (K := K) rfl) (pv 3) (pe_lst (pa_cons pe_str (pa_cons pe_str (pa_cons pe_str (pa_cons pe_str (pa_cons pe_str pa_nil))))))))
    (pss_cons (ps_set (i := 4) sc__law_names.nd rfl (by first | exact Or.inl rfl | exact Or.inr rfl) (u_join (K := K) rfl pe_str (pe_lc (own := [("_law_k", 12)]) (by rfl) sc__law_names.nd (pi_range1 (by rfl) T.b_range (pa_cons pe_int pa_nil)) (blkOk_by (own := [("_law_k", 12)]) (N := ["_law_pen_here", "_law_many", "_law_letters", "_law_words", "_law_base", "_law_size", "_law_at", "_law_turn", "_law_manner", "_law_signs", "_law_head", "_law_tail", "_law_k", "_law_sign"]) (sc := defScope s__law_names) (by decide +kernel)) (fun _ _ _ _ _ => (pg_name (i := 12) sc__law_names.nd rfl (by first | exact Or.inl rfl | exact Or.inr rfl))) (fun _ _ _ _ _ => pts_nil) (fun _ _ _ _ _ => (pe_ix (u_ix (K := K) rfl hu1) (pv 2) (pe_cal (K := K) rfl C__law_draw (hr.mono (by decide)) (by rfl) (pa_cons (pv 0) (pa_cons pe_int pa_nil))) (fun _ _ => rfl))))))
    (pss_cons (ps_set (i := 5) sc__law_names.nd rfl (by first | exact Or.inl rfl | exact Or.inr rfl) (pe_op (u_add (K := K) rfl) pe_int (pe_cal (K := K) rfl C__law_draw (hr.mono (by decide)) (by rfl) (pa_cons (pv 0) (pa_cons pe_int pa_nil)))))
    (pss_cons (ps_set (i := 6) sc__law_names.nd rfl (by first | exact Or.inl rfl | exact Or.inr rfl) (pe_cal (K := K) rfl C__law_draw (hr.mono (by decide)) (by rfl) (pa_cons (pv 0) (pa_cons (pv 5) pa_nil))))
    (pss_cons (ps_set (i := 7) sc__law_names.nd rfl (by first | exact Or.inl rfl | exact Or.inr rfl) (pe_cal (K := K) rfl C__law_draw (hr.mono (by decide)) (by rfl) (pa_cons (pv 0) (pa_cons pe_int pa_nil))))
    (pss_cons (ps_set (i := 8) sc__law_names.nd rfl (by first | exact Or.inl rfl | exact Or.inr rfl) (pe_cal (K := K) rfl C__law_draw (hr.mono (by decide)) (by rfl) (pa_cons (pv 0) (pa_cons pe_int pa_nil))))
    (pss_cons (ps_if (PW.pt (pw_and (pt_cmpR (u_eq (K := K) rfl hu64) (pv 8) pe_int (nomark _)) (pw_and1 (pt_cmpR op_lt (pv 1) pe_int (nomark _)))))
    (pss_one (ps_ret (pe_lc (own := [("_law_k", 12)]) (by rfl) sc__law_names.nd (pi_range1 (by rfl) T.b_range (pa_cons (pv 1) pa_nil)) (blkOk_by (own := [("_law_k", 12)]) (N := ["_law_pen_here", "_law_many", "_law_letters", "_law_words", "_law_base", "_law_size", "_law_at", "_law_turn", "_law_manner", "_law_signs", "_law_head", "_law_tail", "_law_k", "_law_sign"]) (sc := defScope s__law_names) (by decide +kernel)) (fun _ _ _ _ _ => (pg_name (i := 12) sc__law_names.nd rfl (by first | exact Or.inl rfl | exact Or.inr rfl))) (fun _ _ _ _ _ => pts_nil) (fun _ _ _ _ _ => (pe_slice (u_sl (K := K) rfl) (pv 4) po_none (po_some (pe_op (u_add (K := K) rfl) (pe_op op_mod (pe_op (u_add (K := K) rfl) (pv 7) (pe_op u_mul pe_int (pv 12))) pe_int) pe_int)))))))
    pss_nil)
    (pss_cons (ps_if (PW.pt (pw_and (pt_cmpR (u_eq (K := K) rfl hu64) (pv 8) pe_int (nomark _)) (pw_and1 (pt_cmpR op_lt (pv 1) pe_int (nomark _)))))
    (pss_one (ps_ret (pe_lc (own := [("_law_k", 12)]) (by rfl) sc__law_names.nd (pi_range1 (by rfl) T.b_range (pa_cons (pv 1) pa_nil)) (blkOk_by (own := [("_law_k", 12)]) (N := ["_law_pen_here", "_law_many", "_law_letters", "_law_words", "_law_base", "_law_size", "_law_at", "_law_turn", "_law_manner", "_law_signs", "_law_head", "_law_tail", "_law_k", "_law_sign"]) (sc := defScope s__law_names) (by decide +kernel)) (fun _ _ _ _ _ => (pg_name (i := 12) sc__law_names.nd rfl (by first | exact Or.inl rfl | exact Or.inr rfl))) (fun _ _ _ _ _ => pts_nil) (fun _ _ _ _ _ => (pe_ix (u_ix (K := K) rfl hu1) (pv 3) (pe_op op_mod (pe_op (u_add (K := K) rfl) (pv 7) (pv 12)) pe_int) (fun _ _ => rfl))))))
    pss_nil)
    (pss_cons (ps_set (i := 9) sc__law_names.nd rfl (by first | exact Or.inl rfl | exact Or.inr rfl) (pe_lc (own := [("_law_k", 12)]) (by rfl) sc__law_names.nd (pi_range1 (by rfl) T.b_range (pa_cons (pv 1) pa_nil)) (blkOk_by (own := [("_law_k", 12)]) (N := ["_law_pen_here", "_law_many", "_law_letters", "_law_words", "_law_base", "_law_size", "_law_at", "_law_turn", "_law_manner", "_law_signs", "_law_head", "_law_tail", "_law_k", "_law_sign"]) (sc := defScope s__law_names) (by decide +kernel)) (fun _ _ _ _ _ => (pg_name (i := 12) sc__law_names.nd rfl (by first | exact Or.inl rfl | exact Or.inr rfl))) (fun _ _ _ _ _ => pts_nil) (fun _ _ _ _ _ => (pe_ix (u_ix (K := K) rfl hu1) (pv 2) (pe_op op_mod (pe_op (u_add (K := K) rfl) (pv 7) (pe_op u_mul pe_int (pv 12))) pe_int) (fun _ _ => rfl)))))
    (pss_cons (ps_if (pt_cmpR op_lt (pv 1) pe_int (nomark _))
    (pss_one (ps_ret (pe_lc (own := [("_law_sign", 13)]) (by rfl) sc__law_names.nd (u_seq (K := K) rfl (pv 9)) (blkOk_by (own := [("_law_sign", 13)]) (N := ["_law_pen_here", "_law_many", "_law_letters", "_law_words", "_law_base", "_law_size", "_law_at", "_law_turn", "_law_manner", "_law_signs", "_law_head", "_law_tail", "_law_k", "_law_sign"]) (sc := defScope s__law_names) (by decide +kernel)) (fun _ _ _ _ _ => (pg_name (i := 13) sc__law_names.nd rfl (by first | exact Or.inl rfl | exact Or.inr rfl))) (fun _ _ _ _ _ => pts_nil) (fun _ _ _ _ _ => (pe_op (u_add (K := K) rfl) (pe_op (u_add (K := K) rfl) (pe_slice (u_sl (K := K) rfl) (pv 4) po_none (po_some (pv 6))) (pv 13)) (pe_slice (u_sl (K := K) rfl) (pv 4) (po_some (pe_op (u_add (K := K) rfl) (pv 6) pe_int)) (po_some (pv 5))))))))
    pss_nil)
    (pss_cons (ps_set (i := 10) sc__law_names.nd rfl (by first | exact Or.inl rfl | exact Or.inr rfl) (pe_slice (u_sl (K := K) rfl) (pv 4) po_none (po_some (pe_op op_mod (pv 6) pe_int))))
    (pss_cons (ps_set (i := 11) sc__law_names.nd rfl (by first | exact Or.inl rfl | exact Or.inr rfl) (pe_slice (u_sl (K := K) rfl) (pv 4) (po_some (pe_op op_mod (pv 6) pe_int)) (po_some (pe_op op_mod (pv 5) pe_int))))
    (pss_one (ps_ret (pe_lc (own := [("_law_k", 12)]) (by rfl) sc__law_names.nd (pi_range1 (by rfl) T.b_range (pa_cons (pv 1) pa_nil)) (blkOk_by (own := [("_law_k", 12)]) (N := ["_law_pen_here", "_law_many", "_law_letters", "_law_words", "_law_base", "_law_size", "_law_at", "_law_turn", "_law_manner", "_law_signs", "_law_head", "_law_tail", "_law_k", "_law_sign"]) (sc := defScope s__law_names) (by decide +kernel)) (fun _ _ _ _ _ => (pg_name (i := 12) sc__law_names.nd rfl (by first | exact Or.inl rfl | exact Or.inr rfl))) (fun _ _ _ _ _ => pts_nil) (fun _ _ _ _ _ => (pe_op (u_add (K := K) rfl) (pe_op (u_add (K := K) rfl) (pe_op (u_add (K := K) rfl) (pv 10) (pe_ix (u_ix (K := K) rfl hu1) (pv 9) (pv 12) (fun _ _ => rfl))) (pe_ix (u_ix (K := K) rfl hu1) (pv 2) (pe_op op_fdiv (pv 12) pe_int) (fun _ _ => rfl))) (pv 11)))))))))))))))))))), fun ds g R hS => ?_⟩
  obtain ⟨o, many, rfl, rfl, hp, h0, h1, z⟩ := hS
  show ExS K _ [some _, some _, none, none, none, none, none, none, none, none, none, none, none, none] _ _
  refine xs_set ?_
  walk_at "e"
  refine xs_mid (fun ρ' l' => ∃ W, ρ' = [some (.own 0), some (.f (.int many)), some (.f (.str lets)), some (.own 1), none, none, none, none, none, none, none, none, none, none] ∧ l' = [o, .lst (sPy W)] ∧ W.length = 12 ∧ ∀ x ∈ W, Low x ∧ x.length ≤ 8) ?_ ?_
  · walk_at "w"
    refine e_lst ?_
    walk_at "w"
    refine ⟨["things", "thing", "tie", "ties", "web", "one", "other", "order", "a", "aa", "z", "top"], rfl, rfl, rfl, by decide +kernel⟩
  rintro ρ' l' ⟨W, rfl, rfl, hW1, hW⟩
  refine xs_mid (fun ρ' l' => ∃ W W2, ρ' = [some (.own 0), some (.f (.int many)), some (.f (.str lets)), some (.own 3), none, none, none, none, none, none, none, none, none, none] ∧ l' = [o, .lst (sPy W), .lst (sPy W2), .lst (sPy (W ++ W2))] ∧ (W ++ W2).length = 17 ∧ ∀ x ∈ W ++ W2, Low x ∧ x.length ≤ 8) ?_ ?_
  · walk_at "w"
    refine e_lst ?_
    walk_at "w"
    refine o_addL (.inr ⟨_, rfl, rfl⟩) (.inr ⟨_, rfl, rfl⟩) (by rw [sPy_len, hW1]; decide) ?_
    refine ⟨W, ["line", "ring", "place", "text", "none"], rfl, by rw [sPy_app]; rfl, by rw [List.length_append, hW1]; rfl, fun x hx => ?_⟩
    rcases List.mem_append.mp hx with hx | hx
    · exact hW x hx
    · exact (by decide +kernel : ∀ x ∈ (["line", "ring", "place", "text", "none"] : List Str), Low x ∧ x.length ≤ 8) x hx
  clear hW hW1 W
  rintro ρ' l' ⟨W, W2, rfl, rfl, hW1, hW⟩
  walk_at "w"
  refine e_lcR (gg_name (by decide)) ?_
  walk_at "w"
  refine ⟨fun i acc l' => ∃ o' ys, IsPen o' ∧ l' = [o', .lst (sPy W), .lst (sPy W2), .lst (sPy (W ++ W2))] ∧ acc = sPy ys ∧ ys.length = i ∧ ∀ y ∈ ys, Low y ∧ y.length = 1, ⟨o, [], hp, rfl, rfl, rfl, fun _ h => by cases h⟩, ?_, ?_, ?_⟩
  · rintro i acc l' hi ⟨o', ys, _, _, rfl, hyl, _⟩
    rw [sPy_len]
    have : i ≤ 8 := hi
    omega
  · rintro i acc l' hi ⟨o', ys, hp', rfl, rfl, hl, hy⟩
    walk_at "w"
    walk_at "d"
    intro r o2 hr1 hr2 hp2
    refine o_ixS (by rw [lets_len]; decide) (lets_at hr1 hr2) ?_
    refine ⟨_, rfl, o2, ys ++ [⟨#[97 + r.toNat]⟩], hp2, rfl, by rw [sPy_app]; rfl, by rw [List.length_append, hl]; rfl, fun y hy' => ?_⟩
    rcases List.mem_append.mp hy' with h | h
    · exact hy y h
    · have e : y = ⟨#[97 + r.toNat]⟩ := by simpa using h
      subst e
      exact ⟨Low.one (by omega) (by omega), rfl⟩
  rintro acc l' ⟨o', ys, hp', rfl, rfl, hl, hy⟩
  have hys : ys.length = 8 := hl
  refine m_join (ys := ys) (.inl (.inr ⟨_, rfl, rfl⟩)) (by rw [sum_len ys 1 fun y h => (hy y h).2, hys]; decide) ?_
  have hbL : Low (Txt.join "" ys) := Low.join fun y h => (hy y h).1
  have hbl : (Txt.join "" ys).length = 8 := by rw [join_len ys 1 fun y h => (hy y h).2, hys]
  generalize Txt.join "" ys = base at hbL hbl
  have fin : ∀ {n : Nat} {l' : List O} {o' : O} {xs : List Str}, l'[n]? = some (.lst (sPy xs)) → 1 ≤ n → l'.take 1 = [o'] → IsPen o' → (xs.length : Int) = many → (∀ x ∈ xs, Low x ∧ x.length ≤ 30) → Res 1 R (.own n) l' := fun h1 h2 h3 h4 h5 h6 =>
    Res.own h1 trivial nofun h2 (by rw [h3]; intro x hx; cases hx with | head => exact h4.under | tail _ h => cases h) (by rw [h3]; exact z _ _ h4 ⟨h5, h6⟩)
  walk_at "w"
  walk_at "d"
  intro r1 o1 a1 b1 p1
  walk_at "w"
  walk_at "d"
  intro r2 o2 a2 b2 p2
  walk_at "w"
  walk_at "d"
  intro r3 o3 a3 b3 p3
  walk_at "w"
  walk_at "d"
  intro r4 o4 a4 b4 p4
  refine xs_gate ?_ ?_
  · walk_at "w"
    refine d_both (fun c1 => ?_) (fun c1 => rfl)
    walk_at "w"
    refine d_both (fun c2 => ?_) (fun c2 => rfl)
    walk_at "w"
    refine e_lcRp (fun _ y => ∃ x, y = .str x ∧ Low x ∧ x.length ≤ 30) (gg_name (by decide)) ?_
    walk_at "w"
    refine ⟨by omega, by omega, fun i hi => ?_, fun acc ha hx => ?_⟩
    · walk_at "w"
      refine s_str (by omega) ?_
      refine ⟨_, rfl, ⟨_, rfl, hbL.cut _ _, ?_⟩, rfl⟩
      exact Nat.le_trans (cut_len _ _ _) (by omega)
    · obtain ⟨xs, rfl, hl, hxs⟩ := names_of ha hx
      exact fin (n := 5) rfl (by decide) rfl p4 (by omega) hxs
  refine xs_gate ?_ ?_
  · walk_at "w"
    refine d_both (fun c1 => ?_) (fun c1 => rfl)
    walk_at "w"
    refine d_both (fun c2 => ?_) (fun c2 => rfl)
    walk_at "w"
    refine e_lcRp (fun _ y => ∃ x, y = .str x ∧ Low x ∧ x.length ≤ 30) (gg_name (by decide)) ?_
    walk_at "w"
    refine ⟨by omega, by omega, fun i hi => ?_, fun acc ha hx => ?_⟩
    · walk_at "w"
      have g1 := Int.emod_nonneg (r3 + i) (show (17 : Int) ≠ 0 by decide)
      have g2 := Int.emod_lt_of_pos (r3 + i) (show (0 : Int) < 17 by decide)
      obtain ⟨j, hj⟩ := Int.eq_ofNat_of_zero_le g1
      have hjl : j < (W ++ W2).length := by omega
      have hx : (sPy (W ++ W2))[j]? = some (.str ((W ++ W2)[j])) := by
        show ((W ++ W2).map PyData.str)[j]? = _
        rw [List.getElem?_map]; simp [hjl]
      refine o_ixQ (.inl (.inr ⟨_, rfl, rfl⟩)) (by rw [hj]; exact atI_nat hx) ?_
      have hm := hW _ (List.getElem_mem hjl)
      exact ⟨_, rfl, ⟨_, rfl, hm.1, by omega⟩, rfl⟩
    · obtain ⟨xs, rfl, hl, hxs⟩ := names_of ha hx
      exact fin (n := 5) rfl (by decide) rfl p4 (by omega) hxs
  walk_at "w"
  refine e_lcRp (fun _ y => ∃ x, y = .str x ∧ Low x ∧ x.length = 1) (gg_name (by decide)) ?_
  walk_at "w"
  have lett : ∀ n : Int, ∃ c, atI lets.cps.toList (n % 26) = some c ∧ 97 ≤ c ∧ c ≤ 122 := fun n => by
    have g1 := Int.emod_nonneg n (show (26 : Int) ≠ 0 by decide)
    have g2 := Int.emod_lt_of_pos n (show (0 : Int) < 26 by decide)
    exact ⟨_, lets_at g1 g2, by omega, by omega⟩
  refine ⟨by omega, by omega, fun i hi => ?_, fun acc ha hx => ?_⟩
  · walk_at "w"
    obtain ⟨c, e1, e2, e3⟩ := lett (r3 + 5 * i)
    refine o_ixS (by rw [lets_len]; decide) e1 ?_
    exact ⟨_, rfl, ⟨_, rfl, Low.one e2 e3, rfl⟩, rfl⟩
  obtain ⟨sg, rfl, hsl, hsg⟩ := names_of ha hx
  clear hx ha
  refine xs_gate ?_ ?_
  · walk_at "w"
    refine d_both (fun c1 => ?_) (fun c1 => rfl)
    walk_at "w"
    refine e_lcQp (fun d y => ∃ x, y = .str x ∧ Low x ∧ x.length ≤ 30) (gg_name (by decide)) ?_
    walk_at "w"
    refine ⟨sPy sg, .inl (.inr ⟨_, rfl, rfl⟩), by rw [sPy_len]; omega, fun d hd => ?_, fun acc ha hx => ?_⟩
    · obtain ⟨x, hxm, rfl⟩ := sPy_mem hd
      obtain ⟨x1, x2⟩ := hsg x hxm
      walk_at "w"
      refine s_str (by omega) ?_
      walk_at "w"
      have q1 := cut_len base none (some r2)
      refine o_addS (by omega) ?_
      walk_at "w"
      refine s_str (by omega) ?_
      have q2 := cut_len base (some (r2 + 1)) (some (1 + r1))
      refine o_addS (by rw [len_app]; omega) ?_
      exact ⟨_, rfl, ⟨_, rfl, ((hbL.cut _ _).app x1).app (hbL.cut _ _), by rw [len_app, len_app]; omega⟩, rfl⟩
    · obtain ⟨xs, rfl, hl, hxs⟩ := names_of ha fun i d hd => by
        have hi : i < (sPy sg).length := by rw [← ha]; exact (List.getElem?_eq_some_iff.mp hd).1
        exact hx i ((sPy sg)[i]) d (by simp [hi]) hd
      rw [sPy_len] at hl
      exact fin (n := 6) rfl (by decide) rfl p4 (by omega) hxs
  walk_at "w"
  refine s_str (by omega) ?_
  walk_at "w"
  refine s_str (by omega) ?_
  walk_at "w"
  refine e_lcRp (fun _ y => ∃ x, y = .str x ∧ Low x ∧ x.length ≤ 30) (gg_name (by decide)) ?_
  walk_at "w"
  refine ⟨by omega, by omega, fun i hi => ?_, fun acc ha hx => ?_⟩
  · have hil : i < sg.length := by omega
    have hx : (sPy sg)[i]? = some (.str (sg[i])) := by
      show (sg.map PyData.str)[i]? = _
      rw [List.getElem?_map]; simp [hil]
    obtain ⟨y1, y2⟩ := hsg _ (List.getElem_mem hil)
    walk_at "w"
    refine o_ixQ (.inl (.inr ⟨_, rfl, rfl⟩)) (atI_nat hx) ?_
    have q1 := cut_len base none (some (r2 % 6))
    have q2 := cut_len base (some (r2 % 6)) (some ((1 + r1) % 7))
    refine o_addS (by omega) ?_
    walk_at "w"
    obtain ⟨c, e1, e2, e3⟩ : ∃ c, atI lets.cps.toList ((i : Int) / 26) = some c ∧ 97 ≤ c ∧ c ≤ 122 := ⟨_, lets_at (by omega) (by omega), by omega, by omega⟩
    refine o_ixS (by rw [lets_len]; decide) e1 ?_
    have q3 := one_len c
    refine o_addS (by rw [len_app]; omega) ?_
    walk_at "w"
    refine o_addS (by rw [len_app, len_app]; omega) ?_
    exact ⟨_, rfl, ⟨_, rfl, (((hbL.cut _ _).app y1).app (Low.one e2 e3)).app (hbL.cut _ _), by rw [len_app, len_app, len_app]; omega⟩, rfl⟩
  · obtain ⟨xs, rfl, hl, hxs⟩ := names_of ha hx
    exact fin (n := 6) rfl (by decide) rfl p4 (by omega) hxs
def S__law_things : Spec3 := fun ds g R => ∃ o, ds = [.own 0] ∧ g = [o] ∧ IsPen o ∧ ∀ o' xs, IsPen o' → xs.length ≤ 60 → (∀ x ∈ xs, Low x ∧ x.length ≤ 30) → R (.own 1) [o', .lst (sPy xs)]
abbrev s__law_things : Stmt := top 7
theorem sc__law_things : FnScope ["_law_pen_here", "_law_many"] ["_law_pen_here"] (defScope s__law_things) := ⟨rfl, rfl, rfl, by decide +kernel, rfl, by decide +kernel, by decide +kernel⟩
set_option maxHeartbeats 4000000 in
theorem ok__law_things (T : Bi mg) (Df : DefAt K mg "_law_things" s__law_things ["_law_pen_here"]) (C__law_names : Cal P w K mg base 2 "_law_names" ["_law_pen_here", "_law_many"] S__law_names) (C__law_draw : Cal P w K mg base 1 "_law_draw" ["_law_pen_here", "_law_most"] S__law_draw) : Cal P w K mg base 3 "_law_things" ["_law_pen_here"] S__law_things := by
  refine ok4 Df sc__law_things (fun ds g R ⟨_, h, _⟩ => by rw [h]; rfl) (fun cdv A outer s H E f hr => ?_)
  have hu1 := hu_of hr
  have hu64 := hr.units
  have hu65 : (A.deeper (PyProof.Rows.envOfC "_law_things" (defScope s__law_things) s.heap.objs.size f cdv)).units + 65 < cLine := by have := hr.un; omega
  refine ⟨_, (pss_cons (ps_set (i := 1) sc__law_things.nd rfl (by first | exact Or.inl rfl | exact Or.inr rfl) (pe_cal (K := K) rfl C__law_draw (hr.mono (by decide)) (by rfl) (pa_cons (pv 0) (pa_cons pe_int pa_nil))))
    (pss_cons (ps_if (pt_cmpR (u_eq (K := K) rfl hu64) (pe_cal (K := K) rfl C__law_draw (hr.mono (by decide)) (by rfl) (pa_cons (pv 0) (pa_cons pe_int pa_nil))) pe_int (nomark _))
    (pss_one (ps_set (i := 1) sc__law_things.nd rfl (by first | exact Or.inl rfl | exact Or.inr rfl) (pe_ix (u_ix (K := K) rfl hu1) (pe_lst (pa_cons (pe_cal (K := K) rfl C__law_draw (hr.mono (by decide)) (by rfl) (pa_cons (pv 0) (pa_cons pe_int pa_nil))) (pa_cons pe_int pa_nil))) (pe_cal (K := K) rfl C__law_draw (hr.mono (by decide)) (by rfl) (pa_cons (pv 0) (pa_cons pe_int pa_nil))) (fun _ _ => rfl))))
    pss_nil)
    (pss_one (ps_ret (pe_cal (K := K) rfl C__law_names (hr.mono (by decide)) (by rfl) (pa_cons (pv 0) (pa_cons (pv 1) pa_nil))))))), fun ds g R hS => ?_⟩
  obtain ⟨o, rfl, rfl, hp, z⟩ := hS
  show ExS K _ [some _, none] _ _
  walk_at "w"
  walk_at "d"
  intro r1 o1 a1 b1 p1
  refine xs_mid (fun ρ' l' => ∃ many o, 0 ≤ many ∧ many ≤ 60 ∧ IsPen o ∧ ρ' = [some (.own 0), some (.f (.int many))] ∧ l' = [o]) ?_ ?_
  · walk_at "w"
    walk_at "d"
    intro r2 o2 a2 b2 p2
    walk_at "w"
    refine d_both (fun c1 => ?_) (fun c1 => ?_)
    · walk_at "w"
      refine e_lstF ?_
      walk_at "w"
      walk_at "d"
      intro r3 o3 a3 b3 p3
      walk_at "w"
      walk_at "d"
      intro r4 o4 a4 b4 p4
      have h4 : r4 = 0 ∨ r4 = 1 := by omega
      rcases h4 with rfl | rfl
      · refine o_ixQ (.inl (.inl rfl)) rfl ?_
        exact ⟨r3, o4, a3, by omega, p4, rfl, rfl⟩
      · refine o_ixQ (.inl (.inl rfl)) rfl ?_
        exact ⟨60, o4, by decide, by decide, p4, rfl, rfl⟩
    · exact x_next ⟨r1, o2, a1, by omega, p2, rfl, rfl⟩
  · rintro ρ' l' ⟨many, o, h0, h1, hp, rfl, rfl⟩
    walk_at "w"
    refine e_call1 0 ?_
    walk_at "w"
    refine ⟨_, _, rfl, hp.free, rfl, _, _, rfl, rfl, hp, h0, h1, fun o' xs hp' hx => ⟨_, _, rfl, ?_⟩⟩
    rw [hp'.shift1]
    exact .inl (z _ _ hp' (by have := hx.1; omega) hx.2)
def TiesOk (xs : List Str) (es : List (Str × Str)) : Prop := es.length ≤ 400 ∧ ∀ e ∈ es, e.1 ∈ xs ∧ e.2 ∈ xs
def ThingsOk (xs : List Str) : Prop := xs.length ≤ 60 ∧ ∀ x ∈ xs, Low x ∧ x.length ≤ 30
def S__law_ties : Spec3 := fun ds g R => ∃ o xs, ds = [.own 0, .f (.list (sPy xs))] ∧ g = [o] ∧ IsPen o ∧ ThingsOk xs ∧ ∀ o' es, IsPen o' → TiesOk xs es → R (.own 1) [o', .lst (pPy es)]
theorem ThingsOk.ok {xs : List Str} (h : ThingsOk xs) {a : Str} (ha : a ∈ xs) : PyData.strOk a = true := (h.2 a ha).1.ok
theorem TiesOk.lay {xs : List Str} (h : ThingsOk xs) {es : List (Str × Str)} (he : TiesOk xs es) : PyData.canLayAll0 (pPy es) = true :=
  lay_pPy fun e hm => ⟨h.ok (he.2 e hm).1, h.ok (he.2 e hm).2⟩
abbrev s__law_ties : Stmt := top 8
theorem sc__law_ties : FnScope ["_law_pen_here", "_law_things_here", "_law_many", "_law_found", "_law_code", "_law_step", "_law_k", "_law_tie"] ["_law_pen_here", "_law_things_here"] (defScope s__law_ties) := ⟨rfl, rfl, rfl, by decide +kernel, rfl, by decide +kernel, by decide +kernel⟩
set_option maxHeartbeats 4000000 in
theorem ok__law_ties (T : Bi mg) (Df : DefAt K mg "_law_ties" s__law_ties ["_law_pen_here", "_law_things_here"]) (C__law_draw : Cal P w K mg base 1 "_law_draw" ["_law_pen_here", "_law_most"] S__law_draw) : Cal P w K mg base 2 "_law_ties" ["_law_pen_here", "_law_things_here"] S__law_ties := by
  refine ok4 Df sc__law_ties (fun ds g R ⟨_, _, h, _⟩ => by rw [h]; rfl) (fun cdv A outer s H E f hr => ?_)
  have hu1 := hu_of hr
  have hu64 := hr.units
  have hu65 : (A.deeper (PyProof.Rows.envOfC "_law_ties" (defScope s__law_ties) s.heap.objs.size f cdv)).units + 65 < cLine := by have := hr.un; omega
  refine ⟨_, (pss_cons (ps_set (i := 2) sc__law_ties.nd rfl (by first | exact Or.inl rfl | exact Or.inr rfl) (pe_callB (u_len (K := K) rfl) (by rfl) T.b_len (by decide +kernel) (pa_cons (pv 1) pa_nil)))
    (pss_cons (ps_set (i := 3) sc__law_ties.nd rfl (by first | exact Or.inl rfl | exact Or.inr rfl) (pe_lst pa_nil))
    (pss_cons (ps_if (PW.pt (pw_and (pt_cmpR op_gt (pv 2) pe_int (nomark _)) (pw_and1 (pt_cmpR (u_eq (K := K) rfl hu64) (pe_cal (K := K) rfl C__law_draw (hr.mono (by decide)) (by rfl) (pa_cons (pv 0) (pa_cons pe_int pa_nil))) pe_int (nomark _)))))
    (pss_cons (ps_set (i := 4) sc__law_ties.nd rfl (by first | exact Or.inl rfl | exact Or.inr rfl) (pe_cal (K := K) rfl C__law_draw (hr.mono (by decide)) (by rfl) (pa_cons (pv 0) (pa_cons (pe_op u_mul (pv 2) (pv 2)) pa_nil))))
    (pss_cons (ps_set (i := 5) sc__law_ties.nd rfl (by first | exact Or.inl rfl | exact Or.inr rfl) (pe_ix (u_ix (K := K) rfl hu1) (pe_lst (pa_cons pe_int (pa_cons pe_int (pa_cons pe_int (pa_cons pe_int (pa_cons pe_int (pa_cons pe_int pa_nil))))))) (pe_cal (K := K) rfl C__law_draw (hr.mono (by decide)) (by rfl) (pa_cons (pv 0) (pa_cons pe_int pa_nil))) (fun _ _ => rfl)))
    (pss_cons (ps_for PassesOwn.never rfl (pi_range1 (by rfl) T.b_range (pa_cons (pe_callB (u_min2 rfl) (by rfl) T.b_min (by decide +kernel) (pa_cons (pe_op u_mul (pv 2) (pv 2)) (pa_cons (pe_ix (u_ix (K := K) rfl hu1) (pe_lst (pa_cons (pe_cal (K := K) rfl C__law_draw (hr.mono (by decide)) (by rfl) (pa_cons (pv 0) (pa_cons pe_int pa_nil))) (pa_cons pe_int pa_nil))) (pe_cal (K := K) rfl C__law_draw (hr.mono (by decide)) (by rfl) (pa_cons (pv 0) (pa_cons pe_int pa_nil))) (fun _ _ => rfl)) pa_nil))) pa_nil)) (pg_name (i := 6) sc__law_ties.nd rfl (by first | exact Or.inl rfl | exact Or.inr rfl))
    (pss_cons (ps_expr (u_bm (K := K) rfl PySem.F.plainAttrs_list PySem.F.slot_list_append PySem.F.type_list_append mt_append (pv 3) (pa_cons (pe_tup (pa_cons (pe_ix (u_ix (K := K) rfl hu1) (pv 1) (pe_op op_fdiv (pv 4) (pv 2)) (fun _ _ => rfl)) (pa_cons (pe_ix (u_ix (K := K) rfl hu1) (pv 1) (pe_op op_mod (pv 4) (pv 2)) (fun _ _ => rfl)) pa_nil))) pa_nil)))
    (pss_one (ps_set (i := 4) sc__law_ties.nd rfl (by first | exact Or.inl rfl | exact Or.inr rfl) (pe_op op_mod (pe_op (u_add (K := K) rfl) (pv 4) (pv 5)) (pe_op u_mul (pv 2) (pv 2)))))))
    (pss_one (ps_ret (pv 3))))))
    pss_nil)
    (pss_cons (ps_for PassesOwn.never rfl (pi_range1 (by rfl) T.b_range (pa_cons (pe_ix (u_ix (K := K) rfl hu1) (pe_lst (pa_cons pe_int (pa_cons (pe_cal (K := K) rfl C__law_draw (hr.mono (by decide)) (by rfl) (pa_cons (pv 0) (pa_cons pe_int pa_nil))) pa_nil))) (pe_callTy u_int (by rfl) T.b_int (by decide +kernel) (pa_cons (pe_cmpR op_gt (pv 2) pe_int (nomark _)) pa_nil)) (fun _ _ => rfl)) pa_nil)) (pg_name (i := 6) sc__law_ties.nd rfl (by first | exact Or.inl rfl | exact Or.inr rfl))
    (pss_cons (ps_set (i := 7) sc__law_ties.nd rfl (by first | exact Or.inl rfl | exact Or.inr rfl) (pe_tup (pa_cons (pe_ix (u_ix (K := K) rfl hu1) (pv 1) (pe_cal (K := K) rfl C__law_draw (hr.mono (by decide)) (by rfl) (pa_cons (pv 0) (pa_cons (pv 2) pa_nil))) (fun _ _ => rfl)) (pa_cons (pe_ix (u_ix (K := K) rfl hu1) (pv 1) (pe_cal (K := K) rfl C__law_draw (hr.mono (by decide)) (by rfl) (pa_cons (pv 0) (pa_cons (pv 2) pa_nil))) (fun _ _ => rfl)) pa_nil))))
    (pss_one (ps_if (pt_cmpR (u_notIn (K := K) rfl hu65) (pv 7) (pv 3) (by rfl))
    (pss_one (ps_expr (u_bm (K := K) rfl PySem.F.plainAttrs_list PySem.F.slot_list_append PySem.F.type_list_append mt_append (pv 3) (pa_cons (pv 7) pa_nil))))
    pss_nil))))
    (pss_one (ps_ret (pv 3))))))), fun ds g R hS => ?_⟩
  obtain ⟨o, xs, rfl, rfl, hp, hx, z⟩ := hS
  have fin : ∀ {l' : List O} {o' : O} {es : List (Str × Str)}, l'[1]? = some (.lst (pPy es)) → l'.take 1 = [o'] → IsPen o' → TiesOk xs es → Res 1 R (.own 1) l' := fun h1 h3 h4 h5 =>
    Res.own h1 trivial nofun (Nat.le_refl _) (by rw [h3]; intro x hx; cases hx with | head => exact h4.under | tail _ h => cases h) (by rw [h3]; exact z _ _ h4 h5)
  show ExS K _ [some _, some _, none, none, none, none, none, none] _ _
  have hxl := hx.1
  walk_at "w"
  rw [sPy_len]
  refine e_lst (a_nil ⟨[], rfl, by decide, ?_⟩)
  refine xs_mid (fun ρ' l' => ∃ o', ρ' = [some (.own 0), some (.f (.list (sPy xs))), some (.f (.int xs.length)), some (.own 1), none, none, none, none] ∧ l' = [o', .lst []] ∧ IsPen o') ?_ ?_
  · walk_at "w"
    refine d_both (fun c1 => ?_) (fun c1 => ?_)
    · have hsq : (0 : Int) < (xs.length : Int) * (xs.length : Int) := Int.mul_pos c1 c1
      have hsq2 : (xs.length : Int) * (xs.length : Int) ≤ 60 * 60 := Int.mul_le_mul (by omega) (by omega) (by omega) (by omega)
      walk_at "w"
      walk_at "d"
      intro r1 o1 a1 b1 p1
      walk_at "w"
      refine d_both (fun c2 => ?_) (fun c2 => ?_)
      · walk_at "w"
        walk_at "d"
        intro code o2 a2 b2 p2
        walk_at "w"
        refine e_lstF ?_
        walk_at "w"
        walk_at "d"
        intro r3 o3 a3 b3 p3
        obtain ⟨step, _, hst⟩ := iPy_at (ns := [61, 67, 71, 73, 79, 83]) a3 b3
        refine o_ixQ isq_list hst ?_
        refine xs_forR ?_
        walk_at "w"
        refine e_lstF ?_
        walk_at "w"
        walk_at "d"
        intro r4 o4 a4 b4 p4
        walk_at "w"
        walk_at "d"
        intro r5 o5 a5 b5 p5
        have h5 : ∃ v : Int, 0 ≤ v ∧ v ≤ 400 ∧ atI [.int r4, .int 400] r5 = some (PyData.int v) := by
          have h5 : r5 = 0 ∨ r5 = 1 := by omega
          rcases h5 with rfl | rfl
          · exact ⟨r4, a4, by omega, rfl⟩
          · exact ⟨400, by decide, by decide, rfl⟩
        obtain ⟨v, v0, v1, hv⟩ := h5
        refine o_ixQ isq_list hv ?_
        walk_at "w"
        have hm : (if v < (xs.length : Int) * xs.length then v else (xs.length : Int) * xs.length) ≤ 400 ∧ 0 ≤ (if v < (xs.length : Int) * xs.length then v else (xs.length : Int) * xs.length) := by
          split <;> omega
        generalize (if v < (xs.length : Int) * xs.length then v else (xs.length : Int) * xs.length) = top at hm
        refine ⟨by omega, by omega, fun i ρ' l' => ∃ o' es code a, ρ' = [some (.own 0), some (.f (.list (sPy xs))), some (.f (.int xs.length)), some (.own 1), some (.f (.int code)), some (.f (.int step)), a, none] ∧ l' = [o', .lst (pPy es)] ∧ es.length = i ∧ IsPen o' ∧ (∀ e ∈ es, e.1 ∈ xs ∧ e.2 ∈ xs) ∧ 0 ≤ code ∧ code < (xs.length : Int) * xs.length, ⟨o5, [], code, none, rfl, rfl, rfl, p5, nofun, a2, b2⟩, ?_, ?_⟩
        · rintro i ρ' l' hi ⟨o', es, code, a, rfl, rfl, hl, hp', he, hc0, hc1⟩
          walk_at "w"
          obtain ⟨x1, m1, e1⟩ := sPy_at (xs := xs) (i := code / xs.length) (Int.ediv_nonneg hc0 (by omega)) (Int.ediv_lt_of_lt_mul c1 hc1)
          refine o_ixQ isq_list e1 ?_
          walk_at "w"
          obtain ⟨x2, m2, e2⟩ := sPy_at (xs := xs) (i := code % xs.length) (Int.emod_nonneg _ (by omega)) (Int.emod_lt_of_pos _ c1)
          refine o_ixQ isq_list e2 ?_
          walk_at "w"
          refine m_append rfl (by rw [pPy_len]; omega) ?_
          walk_at "w"
          refine ⟨o', es ++ [(x1, x2)], _, _, rfl, by rw [pPy_app]; rfl, by rw [List.length_append, hl]; rfl, hp', fun e h => ?_, Int.emod_nonneg _ (by omega), Int.emod_lt_of_pos _ hsq⟩
          rcases List.mem_append.mp h with h | h
          · exact he e h
          · have e0 : e = (x1, x2) := by simpa using h
            subst e0; exact ⟨m1, m2⟩
        · rintro ρ' l' ⟨o', es, code, a, rfl, rfl, hl, hp', he, hc0, hc1⟩
          walk_at "w"
          exact fin rfl rfl hp' ⟨by omega, he⟩
      · exact x_next ⟨_, rfl, rfl, p1⟩
    · exact x_next ⟨_, rfl, rfl, hp⟩
  rintro ρ' l' ⟨o', rfl, rfl, hp'⟩
  refine xs_forR ?_
  walk_at "w"
  refine e_lstF ?_
  walk_at "w"
  walk_at "d"
  intro r1 o1 a1 b1 p1
  walk_at "w"
  have h5 : ∃ v : Int, 0 ≤ v ∧ v ≤ 13 ∧ (0 < v → 0 < (xs.length : Int)) ∧ atI [.int 0, .int r1] (if decide (0 < (xs.length : Int)) = true then 1 else 0) = some (PyData.int v) := by
    by_cases hc : 0 < (xs.length : Int)
    · exact ⟨r1, a1, by omega, fun _ => hc, by rw [decide_eq_true hc]; rfl⟩
    · exact ⟨0, by decide, by decide, fun h => absurd h (by decide), by rw [decide_eq_false hc]; rfl⟩
  obtain ⟨v, v0, v1, v2, hv⟩ := h5
  refine o_ixQ isq_list hv ?_
  walk_at "w"
  refine ⟨by omega, by omega, fun i ρ' l' => ∃ o' es a b, ρ' = [some (.own 0), some (.f (.list (sPy xs))), some (.f (.int xs.length)), some (.own 1), none, none, a, b] ∧ l' = [o', .lst (pPy es)] ∧ es.length ≤ i ∧ IsPen o' ∧ ∀ e ∈ es, e.1 ∈ xs ∧ e.2 ∈ xs, ⟨o1, [], none, none, rfl, rfl, by decide, p1, nofun⟩, ?_, ?_⟩
  · rintro i ρ' l' hi ⟨o', es, a, b, rfl, rfl, hl, hp', he⟩
    have hx0 := v2 (by omega)
    walk_at "w"
    walk_at "d"
    intro q1 o2 a2 b2 p2
    obtain ⟨x1, m1, e1⟩ := sPy_at a2 b2
    refine o_ixQ isq_list e1 ?_
    walk_at "w"
    walk_at "d"
    intro q2 o3 a3 b3 p3
    obtain ⟨x2, m2, e2⟩ := sPy_at a3 b3
    refine o_ixQ isq_list e2 ?_
    walk_at "w"
    refine o_inP asd_f (isq_own rfl) (shape_pair (hx.ok m1) (hx.ok m2)) (TiesOk.lay hx (es := es) ⟨by omega, he⟩) ?_
    walk_at "w"
    refine b_both (fun c => ?_) (fun c => ?_)
    · walk_at "w"
      refine m_append rfl (by rw [pPy_len]; omega) ?_
      refine ⟨o3, es ++ [(x1, x2)], _, _, rfl, by rw [pPy_app]; rfl, by rw [List.length_append]; simp; omega, p3, fun e h => ?_⟩
      rcases List.mem_append.mp h with h | h
      · exact he e h
      · have e0 : e = (x1, x2) := by simpa using h
        subst e0; exact ⟨m1, m2⟩
    · refine x_next ⟨o3, es, _, _, rfl, rfl, by omega, p3, he⟩
  · rintro ρ' l' ⟨o', es, a, b, rfl, rfl, hl, hp', he⟩
    walk_at "w"
    exact fin rfl rfl hp' ⟨by omega, he⟩
def S__law_right : Spec3 := fun ds g R => ∃ ts es one, ds = [.f (webD ts es), .f (.str one)] ∧ g = [] ∧ ThingsOk ts ∧ TiesOk ts es ∧ one ∈ ts ∧ ∀ l', R (.f (.bool true)) l'
def kT (e : Str × Str) : List Key × PyData := ([.inr e.1, .inr e.2], .bool true)
theorem kT_eq (es : List (Str × Str)) : (pPy es).filterMap (fun d => some (.tuple [d, .bool true])) = (es.map kT).map prT := by
  induction es with
  | nil => rfl
  | cons e es ih =>
    show (PyData.tuple [.str e.1, .str e.2] :: pPy es).filterMap _ = _
    rw [List.filterMap_cons, ih]
    rfl
theorem kT_look (es : List (Str × Str)) (a b : Str) : (lookD (mergeD [] (es.map kT)) [.inr a, .inr b]).isSome = es.any fun e => decide (e.1 = a) && decide (e.2 = b) := by
  rw [lookD_merge, List.any_map]
  show (false || _) = _
  rw [Bool.false_or]
  congr 1
  funext e
  by_cases h1 : e.1 = a
  · by_cases h2 : e.2 = b
    · simp [kT, h1, h2]
    · simp [kT, h1, h2]
  · simp [kT, h1]
abbrev s__law_right : Stmt := top 9
theorem sc__law_right : FnScope ["_law_web", "_law_one", "_law_there", "_law_due", "_law_turn", "_law_found", "_law_tie", "_law_other", "_law_some"] ["_law_web", "_law_one"] (defScope s__law_right) := ⟨rfl, rfl, rfl, by decide +kernel, rfl, by decide +kernel, by decide +kernel⟩
set_option maxHeartbeats 4000000 in
theorem ok__law_right (T : Bi mg) (Df : DefAt K mg "_law_right" s__law_right ["_law_web", "_law_one"]) (C_priors : Cal P w K mg base 1 "priors" ["web", "one"] S_priors) (C_nexts : Cal P w K mg base 1 "nexts" ["web", "one"] S_nexts) : Cal P w K mg base 2 "_law_right" ["_law_web", "_law_one"] S__law_right := by
  refine ok4 Df sc__law_right (fun ds g R ⟨_, _, _, h, _⟩ => by rw [h]; rfl) (fun cdv A outer s H E f hr => ?_)
  have hu1 := hu_of hr
  have hu64 := hr.units
  have hu65 : (A.deeper (PyProof.Rows.envOfC "_law_right" (defScope s__law_right) s.heap.objs.size f cdv)).units + 65 < cLine := by have := hr.un; omega
  refine ⟨_, (pss_cons (ps_set (i := 2) sc__law_right.nd rfl (by first | exact Or.inl rfl | exact Or.inr rfl) (pe_callTy (u_dict (K := K) rfl rfl hu65) (by rfl) T.b_dict (by decide +kernel) (pa_cons (pe_lc (own := [("_law_tie", 6)]) (by rfl) sc__law_right.nd (u_seq (K := K) rfl (pe_ix (u_ix (K := K) rfl hu1) (pv 0) pe_int (fun _ _ => rfl))) (blkOk_by (own := [("_law_tie", 6)]) (N := ["_law_web", "_law_one", "_law_there", "_law_due", "_law_turn", "_law_found", "_law_tie", "_law_other", "_law_some"]) (sc := defScope s__law_right) (by decide +kernel)) (fun _ _ _ _ _ => (pg_name (i := 6) sc__law_right.nd rfl (by first | exact Or.inl rfl | exact Or.inr rfl))) (fun _ _ _ _ _ => pts_nil) (fun _ _ _ _ _ => (pe_tup (pa_cons (pv 6) (pa_cons pe_bl pa_nil))))) pa_nil)))
    (pss_cons (ps_set (i := 3) sc__law_right.nd rfl (by first | exact Or.inl rfl | exact Or.inr rfl) (pe_lst (pa_cons (pe_lc (own := [("_law_other", 7)]) (by rfl) sc__law_right.nd (u_seq (K := K) rfl (pe_ix (u_ix (K := K) rfl hu1) (pv 0) pe_int (fun _ _ => rfl))) (blkOk_by (own := [("_law_other", 7)]) (N := ["_law_web", "_law_one", "_law_there", "_law_due", "_law_turn", "_law_found", "_law_tie", "_law_other", "_law_some"]) (sc := defScope s__law_right) (by decide +kernel)) (fun _ _ _ _ _ => (pg_name (i := 7) sc__law_right.nd rfl (by first | exact Or.inl rfl | exact Or.inr rfl))) (fun _ _ _ _ _ => (pts_one (pt_cmpR (u_in (K := K) rfl hu65) (pe_tup (pa_cons (pv 1) (pa_cons (pv 7) pa_nil))) (pv 2) (by rfl)))) (fun _ _ _ _ _ => (pv 7))) (pa_cons (pe_lc (own := [("_law_other", 7)]) (by rfl) sc__law_right.nd (u_seq (K := K) rfl (pe_ix (u_ix (K := K) rfl hu1) (pv 0) pe_int (fun _ _ => rfl))) (blkOk_by (own := [("_law_other", 7)]) (N := ["_law_web", "_law_one", "_law_there", "_law_due", "_law_turn", "_law_found", "_law_tie", "_law_other", "_law_some"]) (sc := defScope s__law_right) (by decide +kernel)) (fun _ _ _ _ _ => (pg_name (i := 7) sc__law_right.nd rfl (by first | exact Or.inl rfl | exact Or.inr rfl))) (fun _ _ _ _ _ => (pts_one (pt_cmpR (u_in (K := K) rfl hu65) (pe_tup (pa_cons (pv 7) (pa_cons (pv 1) pa_nil))) (pv 2) (by rfl)))) (fun _ _ _ _ _ => (pv 7))) pa_nil))))
    (pss_cons (ps_for PassesOwn.never rfl (pi_range1 (by rfl) T.b_range (pa_cons pe_int pa_nil)) (pg_name (i := 4) sc__law_right.nd rfl (by first | exact Or.inl rfl | exact Or.inr rfl))
    (pss_cons (ps_set (i := 5) sc__law_right.nd rfl (by first | exact Or.inl rfl | exact Or.inr rfl) (pe_lst (pa_cons (pe_cal (K := K) rfl C_nexts (hr.mono (by decide)) (by rfl) (pa_cons (pv 0) (pa_cons (pv 1) pa_nil))) (pa_cons (pe_cal (K := K) rfl C_priors (hr.mono (by decide)) (by rfl) (pa_cons (pv 0) (pa_cons (pv 1) pa_nil))) pa_nil))))
    (pss_cons (ps_if (PW.pt (pw_or (pt_cmpR (u_ne (K := K) rfl hu64) (pv 5) (pv 3) (nomark _)) (pw_or1 (pt_cmpR (u_ne (K := K) rfl hu64) (pe_lc (own := [("_law_some", 8)]) (by rfl) sc__law_right.nd (u_seq (K := K) rfl (pv 5)) (blkOk_by (own := [("_law_some", 8)]) (N := ["_law_web", "_law_one", "_law_there", "_law_due", "_law_turn", "_law_found", "_law_tie", "_law_other", "_law_some"]) (sc := defScope s__law_right) (by decide +kernel)) (fun _ _ _ _ _ => (pg_name (i := 8) sc__law_right.nd rfl (by first | exact Or.inl rfl | exact Or.inr rfl))) (fun _ _ _ _ _ => (pts_one (pt_not (pt_val (pe_callB (u_isi (K := K) rfl) (by rfl) T.b_isinstance (by decide +kernel) (pa_cons (pv 8) (pa_cons (pe_bltn (v := .ty "list") (u := .type "list") rfl T.b_list (by decide +kernel) rfl) pa_nil))))))) (fun _ _ _ _ _ => (pv 8))) (pe_lst pa_nil) (nomark _)))))
    (pss_one (ps_ret pe_bl))
    pss_nil)
    (pss_cons (ps_expr (u_bm (K := K) rfl PySem.F.plainAttrs_list PySem.F.slot_list_append PySem.F.type_list_append mt_append (pe_ix (u_ix (K := K) rfl hu1) (pv 5) pe_int (fun _ _ => rfl)) (pa_cons (pv 1) pa_nil)))
    (pss_one (ps_expr (u_bm (K := K) rfl PySem.F.plainAttrs_list PySem.F.slot_list_insert PySem.F.type_list_insert u_insert (pe_ix (u_ix (K := K) rfl hu1) (pv 5) pe_int (fun _ _ => rfl)) (pa_cons pe_int (pa_cons (pv 1) pa_nil)))))))))
    (pss_one (ps_ret pe_bl))))), fun ds g R hS => ?_⟩
  obtain ⟨ts, es, one, rfl, rfl, ht, he, ho, z⟩ := hS
  have htl := ht.1
  have hel := he.1
  show ExS K _ [some _, some _, none, none, none, none, none, none, none] _ _
  walk_at "w"
  refine e_lcF (fun d => some (.tuple [d, .bool true])) (gg_name (by decide)) (e_op (e_var rfl (e_int (o_ixQ isq_tup rfl ⟨pPy es, isq_tup, by rw [pPy_len]; omega, fun d hd => ?_, ?_⟩))))
  · refine g_name (t_yes ?_)
    walk_at "w"
    exact ⟨_, rfl, rfl, rfl⟩
  rw [kT_eq]
  walk_at "w"
  refine c_dictT (isl_own rfl) (fun q hq => ?_) ?_
  · obtain ⟨e, _, rfl⟩ := List.mem_map.mp hq
    rfl
  have okt : ∀ f : Str → Bool, ∀ x ∈ ts.filter f, PyData.strOk x = true := fun f x hx => ht.ok (List.mem_filter.mp hx).1
  refine xs_set (e_lstF (a_cons (e_frz (e_lcF (strF fun x => es.any fun e => decide (e.1 = one) && decide (e.2 = x)) (gg_name (by decide)) (e_op (e_var rfl (e_int (o_ixQ isq_tup rfl ⟨sPy ts, isq_tup, by rw [sPy_len]; omega, fun d hd => ?_, ?_⟩))))))))
  · obtain ⟨x, hx, rfl⟩ := sPy_mem hd
    refine g_name (t_test (e_op (e_tup (a_cons (e_var rfl (a_cons (e_var rfl (a_nil ⟨_, rfl, Nat.le_of_ble_eq_true rfl, ?_⟩))))))))
    walk_at "w"
    refine o_inDt (k := [.inr one, .inr x]) rfl rfl ?_
    rw [kT_look]
    walk_at "w"
    refine b_both (fun hb => e_var rfl ⟨_, rfl, ?_, rfl⟩) (fun hb => ⟨?_, rfl⟩)
    · exact if_pos hb
    · exact if_neg fun z => Bool.noConfusion (hb.symm.trans z)
  rw [sPy_filter]
  refine ⟨_, _, rfl, rfl, ?_⟩
  refine a_cons (e_frz (e_lcF (strF fun x => es.any fun e => decide (e.2 = one) && decide (e.1 = x)) (gg_name (by decide)) (e_op (e_var rfl (e_int (o_ixQ isq_tup rfl ⟨sPy ts, isq_tup, by rw [sPy_len]; omega, fun d hd => ?_, ?_⟩))))))
  · obtain ⟨x, hx, rfl⟩ := sPy_mem hd
    refine g_name (t_test (e_op (e_tup (a_cons (e_var rfl (a_cons (e_var rfl (a_nil ⟨_, rfl, Nat.le_of_ble_eq_true rfl, ?_⟩))))))))
    walk_at "w"
    refine o_inDt (k := [.inr x, .inr one]) rfl rfl ?_
    rw [kT_look]
    have ec : (fun e : Str × Str => decide (e.1 = x) && decide (e.2 = one)) = fun e => decide (e.2 = one) && decide (e.1 = x) := by funext e; exact Bool.and_comm _ _
    rw [ec]
    walk_at "w"
    refine b_both (fun hb => e_var rfl ⟨_, rfl, ?_, rfl⟩) (fun hb => ⟨?_, rfl⟩)
    · exact if_pos hb
    · exact if_neg fun z => Bool.noConfusion (hb.symm.trans z)
  rw [sPy_filter]
  refine ⟨_, _, rfl, rfl, a_nil ⟨_, rfl, Nat.le_of_ble_eq_true rfl, ?_⟩⟩
  have len1 := List.length_filter_le (fun x => es.any fun e => decide (e.1 = one) && decide (e.2 = x)) ts
  have len2 := List.length_filter_le (fun x => es.any fun e => decide (e.2 = one) && decide (e.1 = x)) ts
  have e1 : nextsM ts es one = ts.filter fun x => es.any fun e => decide (e.1 = one) && decide (e.2 = x) := rfl
  have e2 : priorsM ts es one = ts.filter fun x => es.any fun e => decide (e.2 = one) && decide (e.1 = x) := rfl
  have ok1 := okt (fun x => es.any fun e => decide (e.1 = one) && decide (e.2 = x))
  have ok2 := okt (fun x => es.any fun e => decide (e.2 = one) && decide (e.1 = x))
  rw [← e1] at len1 ok1 ⊢
  rw [← e2] at len2 ok2 ⊢
  generalize hnx : nextsM ts es one = nx at len1 ok1
  generalize hpr : priorsM ts es one = pr at len2 ok2
  have shd : SeqAt.shaped (.list [.list (sPy nx), .list (sPy pr)]) = true := by
    simp [SeqAt.shaped, PyData.canLay0, PyData.canLayAll0, PyData.depth, PyData.depthAll, lay_sPy ok1, lay_sPy ok2, dep_sPy]
  have eqv1 : PyData.eqv (.list [.list (sPy nx), .list (sPy pr)]) (.list [.list (sPy nx), .list (sPy pr)]) = true := SeqAt.eqv_refl _ (SeqAt.canLay_of_shaped shd)
  refine xs_forR ?_
  walk_at "w"
  refine ⟨fun i ρ' l' => ∃ a o1 o2, ρ' = [some (.f (webD ts es)), some (.f (.str one)), some (.own 1), some (.f (.list [.list (sPy nx), .list (sPy pr)])), a, none, none, none, none] ∧ l' = [.lst o1, .dctT o2, .gone, .gone] ∧ UndS 4 [a], ⟨_, _, _, rfl, rfl, trivial⟩, ?_, ?_⟩
  · rintro i ρ' l' hi ⟨a, o1, o2, rfl, rfl, hu⟩
    walk_at "e"
    refine x_tidy 4 [5] (Nat.le_refl _) ?_
    refine xs_set (e_rfs (a_cons (e_call0 ?_)))
    walk_at "w"
    refine ⟨trivial, _, _, _, rfl, rfl, by omega, by omega, ?_⟩
    rw [hnx]
    refine a_cons (e_call0 ?_)
    walk_at "w"
    refine ⟨trivial, _, _, _, rfl, rfl, by omega, by omega, ?_⟩
    rw [hpr]
    refine a_nil ⟨Nat.le_of_ble_eq_true rfl, ?_⟩
    refine xs_gate ?_ ?_
    · refine t_cut 7 (Nat.le_refl _) (t_or (t_test (e_op (e_var rfl (e_var rfl ?_)))))
      refine o_nePP (.inr ⟨6, [.own 4, .own 5], _, rfl, rfl, rfl, .cons (asd_own rfl) (.cons (asd_own rfl) .nil)⟩) (.inl asd_f) shd shd ?_
      rw [eqv1, Bool.not_true]
      walk_at "w"
      refine e_lcRf (gg_name (by decide)) ?_
      refine e_var rfl ?_
      refine ⟨6, [.own 4, .own 5], rfl, rfl, fun i acc l' => acc = [] ∧ l' = [.lst o1, .dctT o2, .gone, .gone, .lst (sPy nx), .lst (sPy pr), .rfs [.own 4, .own 5]], ⟨rfl, rfl⟩, ?_, ?_, ?_⟩
      · rintro i acc l' hi ⟨rfl, rfl⟩
        exact ⟨rfl, Nat.le_of_ble_eq_true rfl⟩
      · rintro i d acc l' hd ⟨rfl, rfl⟩
        refine g_name (t_not (t_B (e_isi (e_var rfl ⟨"list", true, ?_, by decide +kernel, ?_⟩))))
        · have hi : i = 0 ∨ i = 1 := by
            have := (List.getElem?_eq_some_iff.mp hd).1
            have : i < 2 := this
            omega
          rcases hi with rfl | rfl
          · have e : D.own 4 = d := Option.some.inj hd
            subst e; exact ⟨_, rfl, rfl⟩
          · have e : D.own 5 = d := Option.some.inj hd
            subst e; exact ⟨_, rfl, rfl⟩
        walk_at "w"
        rfl
      · rintro acc l' ⟨rfl, rfl⟩
        refine e_lstF (a_nil ⟨[], rfl, by decide, ?_⟩)
        refine o_nePP (.inl (asd_own (ds := []) rfl)) (.inl asd_f) shape_nil shape_nil ?_
        rw [eqv_same shape_nil, Bool.not_true]
        refine ⟨_, rfl, UndO.all ⟨trivial, trivial, trivial, trivial, trivial, trivial, ?_, trivial⟩, rfl⟩
        intro d hd
        simp only [List.mem_cons, List.not_mem_nil, or_false] at hd
        rcases hd with rfl | rfl
        · exact (by decide : 4 < 7)
        · exact (by decide : 5 < 7)
    · walk_at "w"
      refine m_append (n := 4) (ds := sPy nx) rfl (by rw [sPy_len]; omega) ?_
      walk_at "w"
      refine m_insert (n := 5) (ds := sPy pr) rfl (by rw [sPy_len]; omega) (by decide) (by decide) ?_
      walk_at "w"
      exact ⟨⟨trivial, trivial, (by decide : 1 < 4), trivial, trivial, trivial⟩, ⟨trivial, trivial, trivial, trivial, trivial⟩, _, _, _, rfl, rfl, trivial, trivial⟩
  · rintro ρ' l' ⟨a, o1, o2, rfl, rfl, hu⟩
    walk_at "w"
    exact .inl (z _)
def S_law : Spec3 := fun ds g R => ∃ ns, ds = [.sq ns] ∧ g = [] ∧ ns.length ≤ 63 ∧ ∀ l', R (.f (.bool true)) l'
theorem law_in (ns : List Int) (h : ns.length ≤ 63) : S_law [.sq ns] [] (fun d _ => d = .f (.bool true)) := ⟨ns, rfl, rfl, h, fun _ => rfl⟩
abbrev s_law : Stmt := top 10
theorem sc_law : FnScope ["_law_script", "_law_pen_here", "_law_things_here", "_law_webs", "_law_one", "_law_web", "_law_k"] ["_law_script"] (defScope s_law) := ⟨rfl, rfl, rfl, by decide +kernel, rfl, by decide +kernel, by decide +kernel⟩
set_option maxHeartbeats 4000000 in
theorem ok_law (T : Bi mg) {f : Addr} {fd : FuncData} (F : Fun K "law" "law" s_law f fd) (C__law_right : Cal P w K mg base 2 "_law_right" ["_law_web", "_law_one"] S__law_right) (C__law_ties : Cal P w K mg base 2 "_law_ties" ["_law_pen_here", "_law_things_here"] S__law_ties) (C__law_things : Cal P w K mg base 3 "_law_things" ["_law_pen_here"] S__law_things) (C__law_pen : Cal P w K mg base 1 "_law_pen" ["_law_script"] S__law_pen) : FnOk P w K mg base CX0 4 f fd ["_law_script"] (P3 K S_law) := by
  refine ok4F F sc_law (fun ds g R ⟨_, h, _⟩ => by rw [h]; rfl) (fun cdv A outer s H E hr => ?_)
  have hu1 := hu_of hr
  have hu64 := hr.units
  have hu65 : (A.deeper (PyProof.Rows.envOfC "law" (defScope s_law) s.heap.objs.size f cdv)).units + 65 < cLine := by have := hr.un; omega
  refine ⟨_, (pss_cons (ps_set (i := 1) sc_law.nd rfl (by first | exact Or.inl rfl | exact Or.inr rfl) (pe_cal (K := K) rfl C__law_pen (hr.mono (by decide)) (by rfl) (pa_cons (pv 0) pa_nil)))
    (pss_cons (ps_set (i := 2) sc_law.nd rfl (by first | exact Or.inl rfl | exact Or.inr rfl) (pe_cal (K := K) rfl C__law_things (hr.mono (by decide)) (by rfl) (pa_cons (pv 1) pa_nil)))
    (pss_cons (ps_setLc (i := 3) (own := [("_law_k", 6)]) (by rfl) sc_law.nd rfl rfl (sw_true rfl rfl rfl (by decide +kernel)) (pi_range1 (by rfl) T.b_range (pa_cons pe_int pa_nil)) (blkOk_by (own := [("_law_k", 6)]) (N := ["_law_script", "_law_pen_here", "_law_things_here", "_law_webs", "_law_one", "_law_web", "_law_k"]) (sc := defScope s_law) (by decide +kernel)) (fun _ _ _ _ _ => (pg_name (i := 6) sc_law.nd rfl (by first | exact Or.inl rfl | exact Or.inr rfl))) (fun _ _ _ _ _ => pts_nil) (fun _ _ _ _ _ => (pe_tup (pa_cons (pe_callTy (u_tuple (K := K) rfl) (by rfl) T.b_tuple (by decide +kernel) (pa_cons (pv 2) pa_nil)) (pa_cons (pe_callTy (u_tuple (K := K) rfl) (by rfl) T.b_tuple (by decide +kernel) (pa_cons (pe_cal (K := K) rfl C__law_ties (hr.mono (by decide)) (by rfl) (pa_cons (pv 1) (pa_cons (pv 2) pa_nil))) pa_nil)) pa_nil)))))
    (pss_cons (ps_for PassesOwn.never rfl (u_seq (K := K) rfl (pv 2)) (pg_name (i := 4) sc_law.nd rfl (by first | exact Or.inl rfl | exact Or.inr rfl))
    (pss_one (ps_for PassesOwn.never rfl (u_seq (K := K) rfl (pv 3)) (pg_name (i := 5) sc_law.nd rfl (by first | exact Or.inl rfl | exact Or.inr rfl))
    (pss_one (ps_if (pt_not (pt_val (pe_cal (K := K) rfl C__law_right (hr.mono (by decide)) (by rfl) (pa_cons (pv 5) (pa_cons (pv 4) pa_nil)))))
    (pss_one (ps_ret pe_bl))
    pss_nil)))))
    (pss_one (ps_ret pe_bl)))))), fun ds g R hS => ?_⟩
  obtain ⟨ns, rfl, rfl, hn, z⟩ := hS
  show ExS K _ [some _, none, none, none, none, none, none] _ _
  refine xs_set (e_call0 ?_)
  refine a_cons (e_var rfl (a_nil ⟨trivial, ns, rfl, rfl, hn, fun o hp => ?_⟩))
  show ExS K _ [some (.sq ns), some (.own 0), none, none, none, none, none] [o.shift 0] _
  rw [hp.shift]
  refine xs_set (e_frz (e_call1 0 (a_cons (e_var rfl (a_nil ⟨_, _, rfl, hp.free, rfl, o, rfl, rfl, hp, fun o' xs hp' hl hx => ⟨_, _, rfl, ?_⟩⟩)))))
  rw [hp'.shift1]
  refine ⟨1, _, rfl, rfl, ?_⟩
  have ht : ThingsOk xs := ⟨hl, hx⟩
  refine xs_set (e_frz (e_lcR (gg_name (by decide)) (a_cons (e_int (a_nil ⟨2, rfl, by decide, by decide, fun i acc l' => ∃ o ess, l' = [o, .gone] ∧ IsPen o ∧ acc = ess.map (webD xs) ∧ (∀ es ∈ ess, TiesOk xs es) ∧ ess.length = i, ⟨o', [], rfl, hp', rfl, nofun, rfl⟩, ?_, ?_, ?_⟩)))))
  · rintro i acc l' hi ⟨o, ess, rfl, _, rfl, _, hl⟩
    rw [List.length_map, hl]
    have : i ≤ 2 := hi
    omega
  · rintro i acc l' hi ⟨o, ess, rfl, hp, rfl, he, hl⟩
    refine g_name (t_yes ?_)
    rw [if_pos rfl]
    refine e_cut 2 (Nat.le_refl _) (e_tup (a_cons (e_cb (a_cons (e_var rfl (a_nil (c_tuple isq_list ?_)))))))
    refine a_cons (e_cb (a_cons (e_call1 0 (a_cons (e_var rfl (a_cons (e_var rfl (a_nil ⟨_, _, rfl, hp.free, rfl, o, xs, rfl, rfl, hp, ht, fun o' es hp' hes => ⟨_, _, rfl, ?_⟩⟩))))))))
    rw [hp'.shift1]
    refine a_nil (c_tuple (isq_own rfl) ?_)
    refine a_nil ⟨_, rfl, Nat.le_of_ble_eq_true rfl, ?_⟩
    refine ⟨trivial, UndO.all (l := [o', .gone]) ⟨hp'.under, trivial, trivial⟩, _, rfl, o', ess ++ [es], rfl, hp', by rw [List.map_append]; rfl, fun e h => ?_, by rw [List.length_append, hl]; rfl⟩
    rcases List.mem_append.mp h with h | h
    · exact he e h
    · have e0 : e = es := by simpa using h
      subst e0; exact hes
  rintro acc l' ⟨o, ess, rfl, hp, rfl, he, hl⟩
  refine ⟨2, _, rfl, rfl, ?_⟩
  refine xs_forQ (e_var rfl ⟨sPy xs, isq_list, fun i ρ' l' => ∃ a b, ρ' = [some (.sq ns), some (.own 0), some (.f (.list (sPy xs))), some (.f (.list (ess.map (webD xs)))), a, b, none], ⟨_, _, rfl⟩, fun _ _ _ _ _ => isq_list, ?_, ?_⟩)
  · rintro i d ρ' l' hd ⟨a, b, rfl⟩
    obtain ⟨one, h1, rfl⟩ := sPy_get hd
    have hone := List.mem_of_getElem? h1
    refine g_name (x_forQ (e_var rfl ⟨ess.map (webD xs), isq_list, fun i ρ' l' => ∃ b, ρ' = [some (.sq ns), some (.own 0), some (.f (.list (sPy xs))), some (.f (.list (ess.map (webD xs)))), some (.f (.str one)), b, none], ⟨_, rfl⟩, fun _ _ _ _ _ => isq_list, ?_, ?_⟩))
    · rintro i d ρ' l' hd ⟨b, rfl⟩
      obtain ⟨es, h2, rfl⟩ := map_get hd
      refine g_name (x_if (t_not (t_B (e_call0 (a_cons (e_var rfl (a_cons (e_var rfl (a_nil ⟨trivial, xs, es, one, rfl, rfl, ht, he es (List.mem_of_getElem? h2), hone, fun l2 => ⟨true, rfl, ?_⟩⟩)))))))))
      walk_at "w"
      exact x_next ⟨_, rfl⟩
    · rintro ρ' l' ⟨b, rfl⟩
      exact ⟨_, _, rfl⟩
  · rintro ρ' l' ⟨a, b, rfl⟩
    walk_at "w"
    exact .inl (z _)
end
theorem defAt_mk {K : PySem.W.Frag} {h : Heap} {mg : Str → Option Value} {x : Str} {st : Stmt} {f : Addr} {oc : Value} {od an : Option Addr} {osl : Array (Option Value)} {kV dc pm cd ct : Value} {ps : List Str} (X : K.In h) (G : h.Ns mainGlobals mg)
    (a : PySem.W.nsIn K mainGlobals x = some (some (.ref f))) (l : K.lookup f = some ⟨oc, od, .func (PySem.W.fnOf x x (defArgs st) (defBody st) (defScope st) .none kV dc pm an cd ct), osl⟩) (c : PySem.W.codeIn K cd x = true) (k : PySem.W.keepIn K (.ref f) = true)
    (hb : ∀ (kV doc pm : Value) (an : Option Addr) (cdv ct : Value) (us : List Value), us.length = ps.length → bindArgs (PySem.W.fnOf x x (defArgs st) (defBody st) (defScope st) .none kV doc pm an cdv ct) ⟨us, []⟩ = pure (ps.zip us)) : DefAt K mg x st ps :=
  have F := fun_mk (st := st) l c k
  ⟨f, _, PySem.W.mg_of X G a, F, F.binds hb⟩
theorem all_mk {P : Program} {w : World} {K : PySem.W.Frag} {h : Heap} {mg : Str → Option Value} {fa : Addr} (X : K.In h) (G : h.Ns mainGlobals mg) (hfa : mg "law" = some (.ref fa))
    {f0 : Addr} {od0 an0 : Option Addr} {sl0 : Array (Option Value)} {oc0 kV0 dc0 pm0 cd0 ct0 : Value}
    {f1 : Addr} {od1 an1 : Option Addr} {sl1 : Array (Option Value)} {oc1 kV1 dc1 pm1 cd1 ct1 : Value}
    {f2 : Addr} {od2 an2 : Option Addr} {sl2 : Array (Option Value)} {oc2 kV2 dc2 pm2 cd2 ct2 : Value}
    {f3 : Addr} {od3 an3 : Option Addr} {sl3 : Array (Option Value)} {oc3 kV3 dc3 pm3 cd3 ct3 : Value}
    {f4 : Addr} {od4 an4 : Option Addr} {sl4 : Array (Option Value)} {oc4 kV4 dc4 pm4 cd4 ct4 : Value}
    {f5 : Addr} {od5 an5 : Option Addr} {sl5 : Array (Option Value)} {oc5 kV5 dc5 pm5 cd5 ct5 : Value}
    {f6 : Addr} {od6 an6 : Option Addr} {sl6 : Array (Option Value)} {oc6 kV6 dc6 pm6 cd6 ct6 : Value}
    {f7 : Addr} {od7 an7 : Option Addr} {sl7 : Array (Option Value)} {oc7 kV7 dc7 pm7 cd7 ct7 : Value}
    {f8 : Addr} {od8 an8 : Option Addr} {sl8 : Array (Option Value)} {oc8 kV8 dc8 pm8 cd8 ct8 : Value}
    (a0 : PySem.W.nsIn K mainGlobals "nexts" = some (some (.ref f0))) (l0 : K.lookup f0 = some ⟨oc0, od0, .func (PySem.W.fnOf "nexts" "nexts" (defArgs s_nexts) (defBody s_nexts) (defScope s_nexts) .none kV0 dc0 pm0 an0 cd0 ct0), sl0⟩) (c0 : PySem.W.codeIn K cd0 "nexts" = true) (k0 : PySem.W.keepIn K (.ref f0) = true)
    (a1 : PySem.W.nsIn K mainGlobals "priors" = some (some (.ref f1))) (l1 : K.lookup f1 = some ⟨oc1, od1, .func (PySem.W.fnOf "priors" "priors" (defArgs s_priors) (defBody s_priors) (defScope s_priors) .none kV1 dc1 pm1 an1 cd1 ct1), sl1⟩) (c1 : PySem.W.codeIn K cd1 "priors" = true) (k1 : PySem.W.keepIn K (.ref f1) = true)
    (a2 : PySem.W.nsIn K mainGlobals "_law_pen" = some (some (.ref f2))) (l2 : K.lookup f2 = some ⟨oc2, od2, .func (PySem.W.fnOf "_law_pen" "_law_pen" (defArgs s__law_pen) (defBody s__law_pen) (defScope s__law_pen) .none kV2 dc2 pm2 an2 cd2 ct2), sl2⟩) (c2 : PySem.W.codeIn K cd2 "_law_pen" = true) (k2 : PySem.W.keepIn K (.ref f2) = true)
    (a3 : PySem.W.nsIn K mainGlobals "_law_draw" = some (some (.ref f3))) (l3 : K.lookup f3 = some ⟨oc3, od3, .func (PySem.W.fnOf "_law_draw" "_law_draw" (defArgs s__law_draw) (defBody s__law_draw) (defScope s__law_draw) .none kV3 dc3 pm3 an3 cd3 ct3), sl3⟩) (c3 : PySem.W.codeIn K cd3 "_law_draw" = true) (k3 : PySem.W.keepIn K (.ref f3) = true)
    (a4 : PySem.W.nsIn K mainGlobals "_law_names" = some (some (.ref f4))) (l4 : K.lookup f4 = some ⟨oc4, od4, .func (PySem.W.fnOf "_law_names" "_law_names" (defArgs s__law_names) (defBody s__law_names) (defScope s__law_names) .none kV4 dc4 pm4 an4 cd4 ct4), sl4⟩) (c4 : PySem.W.codeIn K cd4 "_law_names" = true) (k4 : PySem.W.keepIn K (.ref f4) = true)
    (a5 : PySem.W.nsIn K mainGlobals "_law_things" = some (some (.ref f5))) (l5 : K.lookup f5 = some ⟨oc5, od5, .func (PySem.W.fnOf "_law_things" "_law_things" (defArgs s__law_things) (defBody s__law_things) (defScope s__law_things) .none kV5 dc5 pm5 an5 cd5 ct5), sl5⟩) (c5 : PySem.W.codeIn K cd5 "_law_things" = true) (k5 : PySem.W.keepIn K (.ref f5) = true)
    (a6 : PySem.W.nsIn K mainGlobals "_law_ties" = some (some (.ref f6))) (l6 : K.lookup f6 = some ⟨oc6, od6, .func (PySem.W.fnOf "_law_ties" "_law_ties" (defArgs s__law_ties) (defBody s__law_ties) (defScope s__law_ties) .none kV6 dc6 pm6 an6 cd6 ct6), sl6⟩) (c6 : PySem.W.codeIn K cd6 "_law_ties" = true) (k6 : PySem.W.keepIn K (.ref f6) = true)
    (a7 : PySem.W.nsIn K mainGlobals "_law_right" = some (some (.ref f7))) (l7 : K.lookup f7 = some ⟨oc7, od7, .func (PySem.W.fnOf "_law_right" "_law_right" (defArgs s__law_right) (defBody s__law_right) (defScope s__law_right) .none kV7 dc7 pm7 an7 cd7 ct7), sl7⟩) (c7 : PySem.W.codeIn K cd7 "_law_right" = true) (k7 : PySem.W.keepIn K (.ref f7) = true)
    (a8 : PySem.W.nsIn K mainGlobals "law" = some (some (.ref f8))) (l8 : K.lookup f8 = some ⟨oc8, od8, .func (PySem.W.fnOf "law" "law" (defArgs s_law) (defBody s_law) (defScope s_law) .none kV8 dc8 pm8 an8 cd8 ct8), sl8⟩) (c8 : PySem.W.codeIn K cd8 "law" = true) (k8 : PySem.W.keepIn K (.ref f8) = true)
    (z_abs : PySem.W.nsIn K mainGlobals "abs" = some none)
    (z_dict : PySem.W.nsIn K mainGlobals "dict" = some none)
    (z_int : PySem.W.nsIn K mainGlobals "int" = some none)
    (z_isinstance : PySem.W.nsIn K mainGlobals "isinstance" = some none)
    (z_len : PySem.W.nsIn K mainGlobals "len" = some none)
    (z_list : PySem.W.nsIn K mainGlobals "list" = some none)
    (z_min : PySem.W.nsIn K mainGlobals "min" = some none)
    (z_range : PySem.W.nsIn K mainGlobals "range" = some none)
    (z_tuple : PySem.W.nsIn K mainGlobals "tuple" = some none) :
    ∃ fd : FuncData, (∀ (s : Shared) (u : Value), BindsTo s fd ⟨[u], []⟩ [("_law_script", u)]) ∧ ∀ base : Heap, K.In base → base.Ns mainGlobals mg → FnOk P w K mg base CX0 4 fa fd ["_law_script"] (P3 K S_law) := by
  have e := hfa.symm.trans (PySem.W.mg_of X G a8)
  cases e
  have T : Bi mg := ⟨PySem.W.mg_none_of X G z_abs, PySem.W.mg_none_of X G z_dict, PySem.W.mg_none_of X G z_int, PySem.W.mg_none_of X G z_isinstance, PySem.W.mg_none_of X G z_len, PySem.W.mg_none_of X G z_list, PySem.W.mg_none_of X G z_min, PySem.W.mg_none_of X G z_range, PySem.W.mg_none_of X G z_tuple⟩
  have D0 : DefAt K mg "nexts" s_nexts ["web", "one"] := defAt_mk X G a0 l0 c0 k0 fun _ _ _ _ _ _ us hl => match us, hl with | [_, _], _ => rfl
  have D1 : DefAt K mg "priors" s_priors ["web", "one"] := defAt_mk X G a1 l1 c1 k1 fun _ _ _ _ _ _ us hl => match us, hl with | [_, _], _ => rfl
  have D2 : DefAt K mg "_law_pen" s__law_pen ["_law_script"] := defAt_mk X G a2 l2 c2 k2 fun _ _ _ _ _ _ us hl => match us, hl with | [_], _ => rfl
  have D3 : DefAt K mg "_law_draw" s__law_draw ["_law_pen_here", "_law_most"] := defAt_mk X G a3 l3 c3 k3 fun _ _ _ _ _ _ us hl => match us, hl with | [_, _], _ => rfl
  have D4 : DefAt K mg "_law_names" s__law_names ["_law_pen_here", "_law_many"] := defAt_mk X G a4 l4 c4 k4 fun _ _ _ _ _ _ us hl => match us, hl with | [_, _], _ => rfl
  have D5 : DefAt K mg "_law_things" s__law_things ["_law_pen_here"] := defAt_mk X G a5 l5 c5 k5 fun _ _ _ _ _ _ us hl => match us, hl with | [_], _ => rfl
  have D6 : DefAt K mg "_law_ties" s__law_ties ["_law_pen_here", "_law_things_here"] := defAt_mk X G a6 l6 c6 k6 fun _ _ _ _ _ _ us hl => match us, hl with | [_, _], _ => rfl
  have D7 : DefAt K mg "_law_right" s__law_right ["_law_web", "_law_one"] := defAt_mk X G a7 l7 c7 k7 fun _ _ _ _ _ _ us hl => match us, hl with | [_, _], _ => rfl
  have F := fun_mk (st := s_law) l8 c8 k8
  refine ⟨PySem.W.fnOf "law" "law" (defArgs s_law) (defBody s_law) (defScope s_law) .none kV8 dc8 pm8 an8 cd8 ct8, fun s u => .of_eq rfl, fun base _ _ => ?_⟩
  have c_nexts := ok_nexts (P := P) (w := w) (base := base) T D0
  have c_priors := ok_priors (P := P) (w := w) (base := base) T D1
  have c__law_pen := ok__law_pen (P := P) (w := w) (base := base) T D2
  have c__law_draw := ok__law_draw (P := P) (w := w) (base := base) T D3
  have c__law_names := ok__law_names (P := P) (w := w) (base := base) T D4 c__law_draw
  have c__law_things := ok__law_things (P := P) (w := w) (base := base) T D5 c__law_names c__law_draw
  have c__law_ties := ok__law_ties (P := P) (w := w) (base := base) T D6 c__law_draw
  have c__law_right := ok__law_right (P := P) (w := w) (base := base) T D7 c_priors c_nexts
  exact ok_law T F c__law_right c__law_ties c__law_things c__law_pen
theorem hsp (K : PySem.W.Frag) (H : Hp) (a : Addr) (ns : List Int) (hl : ns.length ≤ 63) (hS : SqL K H a (ns.map V.int)) : P3 K S_law [.ref a] H (fun v _ => v = .bl true) fun _ _ _ => False :=
  ⟨[], H, [], [.sq ns], fun d _ => d = .f (.bool true), ⟨Same.refl _, rfl, List.nodup_nil, (fun _ h => by cases h), (fun n a o h => by simp at h)⟩, .cons ⟨a, rfl, hS⟩ .nil, law_in ns hl, fun v m' B' H' d l' s S r hd => by subst hd; exact bl_of r⟩
theorem walk {l : PySem.W.OpenLaw} {q : Program} {loose : List Str} {XP : (Str → Option Value) → Heap → Prop} {YP : World → Heap → Prop} {d : DefRec} {K : Params → PySem.W.Frag} (hn : l.most = some 63) (hdf : d.params.defaults = [])
    (hY : ∀ (w : World) (h : Heap), YP w h → (K w.params).In h)
    (F : ∀ (w : World) (mg : Str → Option Value) (fa : Addr) (h : Heap), (K w.params).In h → h.Ns mainGlobals mg → mg d.name = some (.ref fa) →
      ∃ fd : FuncData, (∀ (s : Shared) (u : Value), BindsTo s fd ⟨[u], []⟩ [("_law_script", u)]) ∧ ∀ base : Heap, (K w.params).In base → base.Ns mainGlobals mg → FnOk l.prog w (K w.params) mg base CX0 4 fa fd ["_law_script"] (P3 (K w.params) S_law)) :
    PySem.W.WalkO q loose XP YP l.row.toRowW d [] (fun f vs => PySem.call f vs) :=
  L2.walk_of (n := 63) (k := 4) (x := "_law_script") (CX := fun _ => CX0) (sp := fun w => P3 (K w.params) S_law) hn (by decide) hdf ⟨rfl, by decide, by decide⟩ hY F (fun w _ a ns hl _ hS => hsp (K w.params) _ a ns hl hS) fun _ _ _ _ _ z => z
end Qk04
open PySem PySem.W PyProof.Rows
set_option maxRecDepth 100000 in
set_option maxHeartbeats 0 in
theorem PySem.Challenge.cw_orderkeep_k04_nexts_and_priors_holds : PySem.Challenge.rw_orderkeep_k04_nexts_and_priors.Holds := by
  w_on; o_law; k_head; (case hw => w_witness2)
  k_fill
  refine Qk04.walk (l := PySem.Challenge.rw_orderkeep_k04_nexts_and_priors) rfl rfl (fun w h Y => PySem.W.kIn_of Y) ?F
  case F =>
    intro w mg fa h KX G hmg
    refine' Qk04.all_mk KX G hmg ?a0 ?l0 ?c0 ?k0 ?a1 ?l1 ?c1 ?k1 ?a2 ?l2 ?c2 ?k2 ?a3 ?l3 ?c3 ?k3 ?a4 ?l4 ?c4 ?k4 ?a5 ?l5 ?c5 ?k5 ?a6 ?l6 ?c6 ?k6 ?a7 ?l7 ?c7 ?k7 ?a8 ?l8 ?c8 ?k8 ?z_abs ?z_dict ?z_int ?z_isinstance ?z_len ?z_list ?z_min ?z_range ?z_tuple
    (case a0 => k_is)
    (case l0 => k_is)
    (case c0 => k_is)
    (case k0 => k_is)
    (case a1 => k_is)
    (case l1 => k_is)
    (case c1 => k_is)
    (case k1 => k_is)
    (case a2 => k_is)
    (case l2 => k_is)
    (case c2 => k_is)
    (case k2 => k_is)
    (case a3 => k_is)
    (case l3 => k_is)
    (case c3 => k_is)
    (case k3 => k_is)
    (case a4 => k_is)
    (case l4 => k_is)
    (case c4 => k_is)
    (case k4 => k_is)
    (case a5 => k_is)
    (case l5 => k_is)
    (case c5 => k_is)
    (case k5 => k_is)
    (case a6 => k_is)
    (case l6 => k_is)
    (case c6 => k_is)
    (case k6 => k_is)
    (case a7 => k_is)
    (case l7 => k_is)
    (case c7 => k_is)
    (case k7 => k_is)
    (case a8 => k_is)
    (case l8 => k_is)
    (case c8 => k_is)
    (case k8 => k_is)
    (case z_abs => k_is)
    (case z_dict => k_is)
    (case z_int => k_is)
    (case z_isinstance => k_is)
    (case z_len => k_is)
    (case z_list => k_is)
    (case z_min => k_is)
    (case z_range => k_is)
    (case z_tuple => k_is)
#print axioms PySem.Challenge.cw_orderkeep_k04_nexts_and_priors_holds

