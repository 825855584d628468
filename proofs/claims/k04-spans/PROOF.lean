import PyProof.Rows.All
import Wide.All
import OpenK.AllK
import Wide.FinOn
import HandS.ForMost
import HandS.ForExc
import HandS.IsInst
import HandS.ExcInit
import HandS.ExcField
import HandS.Lambda
import HandS.Conv
import HandS.Defaults
import HandS.Head0
import HandS.Head1
import HandS.Head2
import HandS.HeadEnd
import HandS.HeadHook1
import HandS.HeadHook2
import HandS.HeadHook3
import HandS.HeadHook4
import HandS.EndTab
import HandS.HeadWalk
import PySem.Challenge.RW_knownfirst_k04_whole_spans
set_option Elab.async false
set_option linter.all false
set_option maxRecDepth 100000
set_option maxHeartbeats 4000000
/-! KF1: pure values, stores, how they stand in the hand layer's heap -/
namespace KF
open PySem PySem.Spec PyProof.Rows L2

/-- a value: tuples and lists that never change again as they are; loc: an object that may change -/
inductive D where
  | non | bl (b : Bool) | int (i : Int) | str (x : Str) | tup (xs : List D) | lst (xs : List D) | loc (n : Nat)
inductive Ob where
  | lst (xs : List D)
abbrev Store := List Ob
inductive R (α : Type) where
  | ok (a : α) (S : Store) | exc (c : Nat) (fs : List D) (S : Store) | bad
def R.bind {α β : Type} (r : R α) (f : α → Store → R β) : R β := match r with
  | .ok a S => f a S
  | .exc c fs S => .exc c fs S
  | .bad => .bad
abbrev Env := List (Option D)
/-- where the changing objects stand; what is under way -/
structure Mp where
  locs : List Addr
  pr : List Addr
  T : List (Addr × Str)
/-- no table, nothing that is told by itself -/
def Pl (o : HO) : Prop := (∀ ps, o ≠ .tbl ps) ∧ ∀ p, o ≠ .ext p
theorem Pl.lst {vs : List V} : Pl (.lst vs) := ⟨fun _ z => (nomatch z), fun _ z => (nomatch z)⟩

section
variable (K : PySem.W.Frag)
def KTup (a : Addr) (xs : List V) : Prop := ∃ (o : Obj) (its : Array Value) (n : Nat), K.lookup a = some o ∧ o.cls = .type "tuple" ∧ o.data = .seq its n ∧ its.size ≤ sizeLine ∧ Vals xs its.toList
def LstA (H : Hp) (m : Mp) (a : Addr) (xs : List V) : Prop := a ∉ m.locs ∧ a ∉ m.pr ∧ Rd H a (.lst xs)
def TupA (H : Hp) (m : Mp) (a : Addr) (xs : List V) : Prop := (a ∉ m.locs ∧ a ∉ m.pr ∧ Rd H a (.tup xs)) ∨ KTup K a xs
theorem LstA.sq {K : PySem.W.Frag} {H : Hp} {m : Mp} {a : Addr} {xs : List V} (h : LstA H m a xs) : SqL K H a xs := .inl h.2.2
theorem TupA.sq {K : PySem.W.Frag} {H : Hp} {m : Mp} {a : Addr} {xs : List V} (h : TupA K H m a xs) : SqT K H a xs := by
  rcases h with ⟨_, _, h⟩ | h
  · exact .inl h
  · exact .inr h
mutual
def RelD (H : Hp) (m : Mp) : D → V → Prop
  | .non, v => v = .non
  | .bl b, v => v = .bl b
  | .int i, v => v = .int i
  | .str x, v => v = .str x
  | .tup xs, v => ∃ a vs, v = .ref a ∧ TupA K H m a vs ∧ RelDs H m xs vs
  | .lst xs, v => ∃ a vs, v = .ref a ∧ LstA H m a vs ∧ RelDs H m xs vs
  | .loc n, v => ∃ a, v = .ref a ∧ m.locs[n]? = some a
def RelDs (H : Hp) (m : Mp) : List D → List V → Prop
  | [], vs => vs = []
  | x :: xs, vs => ∃ v r, vs = v :: r ∧ RelD H m x v ∧ RelDs H m xs r
end
def RelO (H : Hp) (m : Mp) (a : Addr) : Ob → Prop
  | .lst xs => ∃ vs, H a = some (.lst vs) ∧ RelDs K H m xs vs
structure RelS (H : Hp) (m : Mp) (S : Store) : Prop where
  len : m.locs.length = S.length
  nd : m.locs.Nodup
  dis : ∀ a ∈ m.locs, a ∉ m.pr
  prs : ∀ a ∈ m.pr, ∃ o, H a = some o ∧ Pl o
  tabs : LamX.Tabs m.T H
  at_ : ∀ (n : Nat) (o : Ob), S[n]? = some o → ∃ a, m.locs[n]? = some a ∧ RelO K H m a o
/-- what stood outside the changing objects stands; the map grew -/
structure Mono (H : Hp) (m : Mp) (H' : Hp) (m' : Mp) : Prop where
  keep : ∀ a o, H a = some o → a ∉ m.locs → a ∉ m.pr → (∀ ps, o ≠ .tbl ps) → H' a = some o
  pre : m.locs <+: m'.locs
  newl : ∀ a ∈ m'.locs, a ∈ m.locs ∨ a ∈ m.pr ∨ H a = none
  newp : ∀ a ∈ m'.pr, a ∈ m.pr ∨ H a = none
  T : m'.T = m.T
structure Ext (H : Hp) (m : Mp) (H' : Hp) (m' : Mp) : Prop where
  keep : ∀ a o, H a = some o → a ∉ m.locs → (∀ ps, o ≠ .tbl ps) → H' a = some o
  tbl : ∀ a ps, H a = some (.tbl ps) → ∃ qs, H' a = some (.tbl qs)
  pre : m.locs <+: m'.locs
  newl : ∀ a ∈ m'.locs, a ∈ m.locs ∨ H a = none
  pr : m'.pr = m.pr
  T : m'.T = m.T
end
theorem Ext.mono {H H' : Hp} {m m' : Mp} (e : Ext H m H' m') : Mono H m H' m' :=
  ⟨fun a o h1 h2 _ h4 => e.keep a o h1 h2 h4, e.pre, fun a h => (e.newl a h).imp id .inr, fun a h => .inl (by rw [e.pr] at h; exact h), e.T⟩
theorem Ext.refl (H : Hp) (m : Mp) : Ext H m H m := ⟨fun _ _ h _ _ => h, fun _ ps h => ⟨ps, h⟩, List.prefix_refl _, fun _ h => .inl h, rfl, rfl⟩
theorem Ext.some {H H' : Hp} {m m' : Mp} (e : Ext H m H' m') {a : Addr} (hm : a ∉ m.locs) (h : H a ≠ none) : H' a ≠ none := by
  cases q : H a with
  | none => exact absurd q h
  | some o =>
    by_cases ht : ∃ ps, o = .tbl ps
    · obtain ⟨ps, rfl⟩ := ht
      obtain ⟨qs, z⟩ := e.tbl a ps q
      rw [z]; simp
    · rw [e.keep a o q hm (fun ps z => ht ⟨ps, z⟩)]; simp
theorem Ext.trans {H H1 H2 : Hp} {m m1 m2 : Mp} (a : Ext H m H1 m1) (b : Ext H1 m1 H2 m2) : Ext H m H2 m2 := by
  refine ⟨fun x o h1 h2 h3 => ?_, fun x ps h => ?_, a.pre.trans b.pre, fun x h => ?_, b.pr.trans a.pr, b.T.trans a.T⟩
  · have k1 := a.keep x o h1 h2 h3
    refine b.keep x o k1 (fun z => ?_) h3
    rcases a.newl x z with z | z
    · exact h2 z
    · rw [h1] at z; cases z
  · obtain ⟨qs, z⟩ := a.tbl x ps h
    exact b.tbl x qs z
  · rcases b.newl x h with z | z
    · exact a.newl x z
    · by_cases hx : x ∈ m.locs
      · exact .inl hx
      · refine .inr ?_
        cases q : H x with
        | none => rfl
        | some o => exact absurd z (a.some hx (by rw [q]; simp))
section
variable {K : PySem.W.Frag} {H H' : Hp} {m m' : Mp}
theorem LstA.mono {a : Addr} {xs : List V} (e : Mono H m H' m') (h : LstA H m a xs) : LstA H' m' a xs := by
  obtain ⟨h1, h2, h3⟩ := h
  refine ⟨fun z => ?_, fun z => ?_, ?_⟩
  · rcases e.newl a z with z | z | z
    · exact h1 z
    · exact h2 z
    · rcases h3 with h3 | ⟨o, h3⟩ <;> rw [h3] at z <;> cases z
  · rcases e.newp a z with z | z
    · exact h2 z
    · rcases h3 with h3 | ⟨o, h3⟩ <;> rw [h3] at z <;> cases z
  · rcases h3 with h3 | ⟨o, h3⟩
    · exact .inl (e.keep a _ h3 h1 h2 (fun ps z => nomatch z))
    · exact .inr ⟨o, e.keep a _ h3 h1 h2 (fun ps z => nomatch z)⟩
theorem TupA.mono {a : Addr} {xs : List V} (e : Mono H m H' m') (h : TupA K H m a xs) : TupA K H' m' a xs := by
  rcases h with ⟨h1, h2, h3⟩ | h
  · refine .inl ⟨fun z => ?_, fun z => ?_, ?_⟩
    · rcases e.newl a z with z | z | z
      · exact h1 z
      · exact h2 z
      · rcases h3 with h3 | ⟨o, h3⟩ <;> rw [h3] at z <;> cases z
    · rcases e.newp a z with z | z
      · exact h2 z
      · rcases h3 with h3 | ⟨o, h3⟩ <;> rw [h3] at z <;> cases z
    · rcases h3 with h3 | ⟨o, h3⟩
      · exact .inl (e.keep a _ h3 h1 h2 (fun ps z => nomatch z))
      · exact .inr ⟨o, e.keep a _ h3 h1 h2 (fun ps z => nomatch z)⟩
  · exact .inr h
mutual
theorem RelD.mono (e : Mono H m H' m') : ∀ (d : D) (v : V), RelD K H m d v → RelD K H' m' d v
  | .non, _, h => h
  | .bl _, _, h => h
  | .int _, _, h => h
  | .str _, _, h => h
  | .tup xs, v, h => by
    obtain ⟨a, vs, h1, h2, h3⟩ := h
    exact ⟨a, vs, h1, h2.mono e, RelDs.mono e xs vs h3⟩
  | .lst xs, v, h => by
    obtain ⟨a, vs, h1, h2, h3⟩ := h
    exact ⟨a, vs, h1, h2.mono e, RelDs.mono e xs vs h3⟩
  | .loc n, v, h => by
    obtain ⟨a, h1, h2⟩ := h
    exact ⟨a, h1, by
      obtain ⟨r, hr⟩ := e.pre
      rw [← hr, List.getElem?_append_left (List.getElem?_eq_some_iff.mp h2).1]
      exact h2⟩
theorem RelDs.mono (e : Mono H m H' m') : ∀ (ds : List D) (vs : List V), RelDs K H m ds vs → RelDs K H' m' ds vs
  | [], _, h => h
  | x :: xs, vs, h => by
    obtain ⟨v, r, h1, h2, h3⟩ := h
    exact ⟨v, r, h1, RelD.mono e x v h2, RelDs.mono e xs r h3⟩
end
theorem RelDs.length : ∀ {ds : List D} {vs : List V}, RelDs K H m ds vs → vs.length = ds.length
  | [], _, h => by rw [show _ = ([] : List V) from h]; rfl
  | x :: xs, vs, h => by
    obtain ⟨v, r, rfl, h2, h3⟩ := h
    simp [RelDs.length h3]
theorem RelDs.get : ∀ {ds : List D} {vs : List V} {i : Nat} {d : D}, RelDs K H m ds vs → ds[i]? = some d → ∃ v, vs[i]? = some v ∧ RelD K H m d v
  | [], _, i, d, _, e => by simp at e
  | x :: xs, vs, 0, d, h, e => by
    obtain ⟨v, r, rfl, h2, h3⟩ := h
    simp at e; subst e
    exact ⟨v, by simp, h2⟩
  | x :: xs, vs, i + 1, d, h, e => by
    obtain ⟨v, r, rfl, h2, h3⟩ := h
    obtain ⟨w, e1, e2⟩ := RelDs.get (i := i) (d := d) h3 (by simpa using e)
    exact ⟨w, by simpa using e1, e2⟩
theorem RelDs.app : ∀ {ds es : List D} {vs ws : List V}, RelDs K H m ds vs → RelDs K H m es ws → RelDs K H m (ds ++ es) (vs ++ ws)
  | [], _, vs, _, h, g => by rw [show vs = ([] : List V) from h]; exact g
  | x :: xs, es, vs, ws, h, g => by
    obtain ⟨v, r, rfl, h2, h3⟩ := h
    exact ⟨v, r ++ ws, rfl, h2, h3.app g⟩
theorem RelDs.one {d : D} {v : V} (h : RelD K H m d v) : RelDs K H m [d] [v] := ⟨v, [], rfl, h, rfl⟩
theorem RelDs.set : ∀ {ds : List D} {vs : List V} {d : D} {v : V} (i : Nat), RelDs K H m ds vs → RelD K H m d v → RelDs K H m (ds.set i d) (vs.set i v)
  | [], vs, _, _, _, h, _ => by rw [show vs = ([] : List V) from h]; rfl
  | x :: xs, vs, d, v, 0, h, g => by
    obtain ⟨w, r, rfl, h2, h3⟩ := h
    exact ⟨v, r, rfl, g, h3⟩
  | x :: xs, vs, d, v, i + 1, h, g => by
    obtain ⟨w, r, rfl, h2, h3⟩ := h
    exact ⟨w, r.set i v, rfl, h2, h3.set i g⟩
theorem RelDs.ints : ∀ (ns : List Int) , RelDs K H m (ns.map D.int) (ns.map V.int)
  | [] => rfl
  | n :: r => ⟨_, _, rfl, rfl, RelDs.ints r⟩
theorem RelO.monoU {a : Addr} {o : Ob} {H' : Hp} {m' : Mp} (e : Mono H m H' m') (k : H' a = H a) (h : RelO K H m a o) : RelO K H' m' a o := by
  cases o with
  | lst xs =>
    obtain ⟨vs, h1, h2⟩ := h
    exact ⟨vs, k.trans h1, RelDs.mono e _ _ h2⟩
/-- a new object beside -/
theorem Mono.new {p : Addr} {o : HO} (hp : H p = none) : Mono H m (upd H p o) m :=
  ⟨fun a u h _ _ _ => by rw [upd_ne (ne_of_none h hp)]; exact h, List.prefix_refl _, fun _ h => .inl h, fun _ h => .inl h, rfl⟩
theorem Ext.new {p : Addr} {o : HO} (hp : H p = none) : Ext H m (upd H p o) m :=
  ⟨fun a u h _ _ => by rw [upd_ne (ne_of_none h hp)]; exact h, fun a ps h => ⟨ps, by rw [upd_ne (ne_of_none h hp)]; exact h⟩, List.prefix_refl _, fun _ h => .inl h, rfl, rfl⟩
theorem RelS.some {S : Store} (s : RelS K H m S) {a : Addr} (h : a ∈ m.locs) : ∃ o, H a = some o := by
  obtain ⟨n, hn, e⟩ := List.mem_iff_getElem.mp h
  have hl : n < S.length := by rw [← s.len]; exact hn
  obtain ⟨b, e1, e2⟩ := s.at_ n S[n] (List.getElem?_eq_getElem hl)
  rw [List.getElem?_eq_getElem hn, e] at e1
  cases e1
  cases q : S[n] with
  | lst xs =>
    rw [q] at e2
    obtain ⟨vs, h1, _⟩ := e2
    exact ⟨_, h1⟩
theorem RelS.fresh {S : Store} (s : RelS K H m S) {p : Addr} (hp : H p = none) : p ∉ m.locs := fun z => by
  obtain ⟨o, e⟩ := s.some z
  rw [hp] at e; cases e
theorem RelS.nopr {S : Store} (s : RelS K H m S) {p : Addr} (hp : H p = none) : p ∉ m.pr := fun z => by
  obtain ⟨o, e, _⟩ := s.prs p z
  rw [hp] at e; cases e
theorem tabs_new {T : List (Addr × Str)} {p : Addr} {o : HO} (h : LamX.Tabs T H) (hp : H p = none) : LamX.Tabs T (upd H p o) := h.ext fun b u e => by rw [upd_ne (ne_of_none e hp)]; exact e
theorem tabs_put {T : List (Addr × Str)} {p : Addr} {o u : HO} (h : LamX.Tabs T H) (hp : H p = Option.some u) (hu : Pl u) : LamX.Tabs T (upd H p o) := fun q hq => by
  obtain ⟨ps, h1, h2, h3⟩ := h q hq
  refine ⟨ps, by rw [upd_ne (fun z => hu.1 ps (Option.some.inj (hp.symm.trans (by rw [← z]; exact h1))))]; exact h1, h2, fun pos cv hc => ?_⟩
  obtain ⟨c, e1, e2⟩ := h3 pos cv hc
  exact ⟨c, e1, by rw [upd_ne (fun z => hu.2 _ (Option.some.inj (hp.symm.trans (by rw [← z]; exact e2))))]; exact e2⟩
theorem RelS.new {S : Store} (s : RelS K H m S) {p : Addr} {o : HO} (hp : H p = none) : RelS K (upd H p o) m S :=
  ⟨s.len, s.nd, s.dis, fun a ha => by
    rw [upd_ne (fun z => s.nopr hp (by rw [← z]; exact ha))]; exact s.prs a ha, tabs_new s.tabs hp, fun n u h => by
    obtain ⟨a, h1, h2⟩ := s.at_ n u h
    refine ⟨a, h1, h2.monoU (Mono.new hp) ?_⟩
    exact upd_ne fun z => s.fresh hp (by rw [← z]; exact List.mem_of_getElem? h1)⟩
/-- a new tuple, a new list that stays -/
theorem TupA.new {S : Store} (s : RelS K H m S) {p : Addr} {xs : List V} (hp : H p = none) : TupA K (upd H p (.tup xs)) m p xs := .inl ⟨s.fresh hp, s.nopr hp, .inl upd_same⟩
theorem LstA.new {S : Store} (s : RelS K H m S) {p : Addr} {xs : List V} (hp : H p = none) : LstA (upd H p (.lst xs)) m p xs := ⟨s.fresh hp, s.nopr hp, .inl upd_same⟩
/-- an object that changes -/
theorem Mono.put {a : Addr} {o : HO} (h : a ∈ m.locs) : Mono H m (upd H a o) m :=
  ⟨fun b u q h1 _ _ => by rw [upd_ne (fun z => h1 (by rw [z]; exact h))]; exact q, List.prefix_refl _, fun _ h => .inl h, fun _ h => .inl h, rfl⟩
theorem Ext.put {a : Addr} {o : HO} {S : Store} (s : RelS K H m S) (h : a ∈ m.locs) (ht : ∀ ps, H a ≠ Option.some (.tbl ps)) : Ext H m (upd H a o) m :=
  ⟨fun b u q h1 _ => by rw [upd_ne (fun z => h1 (by rw [z]; exact h))]; exact q, fun b ps q => ⟨ps, by rw [upd_ne (fun z => ht ps (by rw [← z]; exact q))]; exact q⟩, List.prefix_refl _, fun _ h => .inl h, rfl, rfl⟩
theorem RelS.notTbl {S : Store} (s : RelS K H m S) {a : Addr} {n : Nat} (h : m.locs[n]? = Option.some a) : ∀ ps, H a ≠ Option.some (.tbl ps) := by
  intro ps z
  have hl : n < S.length := by rw [← s.len]; exact (List.getElem?_eq_some_iff.mp h).1
  obtain ⟨b, e1, e2⟩ := s.at_ n S[n] (List.getElem?_eq_getElem hl)
  rw [h] at e1; cases e1
  cases q : S[n] with
  | lst xs =>
    rw [q] at e2
    obtain ⟨vs, h1, _⟩ := e2
    rw [z] at h1; cases h1
theorem RelS.putL {S : Store} (s : RelS K H m S) {a : Addr} {n : Nat} {xs : List D} {vs : List V} (h : m.locs[n]? = Option.some a) (r : RelDs K H m xs vs) : RelS K (upd H a (.lst vs)) m (S.set n (.lst xs)) := by
  have ha : a ∈ m.locs := List.mem_of_getElem? h
  refine ⟨by rw [s.len, List.length_set], s.nd, s.dis, fun b hb => ?_, ?_, fun k o e => ?_⟩
  · rw [upd_ne (fun z => s.dis a ha (by rw [← z]; exact hb))]
    exact s.prs b hb
  · obtain ⟨n2, hn2⟩ := List.mem_iff_getElem?.mp ha
    have hl2 : n < S.length := by rw [← s.len]; exact (List.getElem?_eq_some_iff.mp h).1
    obtain ⟨b, e1, e2⟩ := s.at_ n S[n] (List.getElem?_eq_getElem hl2)
    rw [h] at e1; cases e1
    cases q : S[n] with
    | lst xs =>
      rw [q] at e2
      obtain ⟨vs', h1, _⟩ := e2
      exact tabs_put s.tabs h1 .lst
  · by_cases hk : n = k
    · subst hk
      have hl : n < S.length := by rw [← s.len]; exact (List.getElem?_eq_some_iff.mp h).1
      rw [List.getElem?_set_self hl] at e
      cases e
      exact ⟨a, h, vs, upd_same, RelDs.mono (Mono.put ha) _ _ r⟩
    · rw [List.getElem?_set_ne hk] at e
      obtain ⟨b, e1, e2⟩ := s.at_ k o e
      refine ⟨b, e1, e2.monoU (Mono.put ha) (upd_ne fun z => hk ?_)⟩
      subst z
      have h1 := (List.getElem?_eq_some_iff.mp h)
      have h2 := (List.getElem?_eq_some_iff.mp e1)
      obtain ⟨l1, q1⟩ := h1
      obtain ⟨l2, q2⟩ := h2
      exact (List.getElem_inj s.nd).mp (q1.trans q2.symm)
def Mp.push (m : Mp) (p : Addr) : Mp := ⟨m.locs ++ [p], m.pr, m.T⟩
theorem Mono.push {p : Addr} {o : HO} (hp : H p = none) : Mono H m (upd H p o) (m.push p) :=
  ⟨fun a u h _ _ _ => by rw [upd_ne (ne_of_none h hp)]; exact h, List.prefix_append _ _, fun a h => by
    rcases List.mem_append.mp h with h | h
    · exact .inl h
    · exact .inr (.inr (by rw [List.mem_singleton.mp h]; exact hp)), fun _ h => .inl h, rfl⟩
theorem Ext.push {p : Addr} {o : HO} (hp : H p = none) : Ext H m (upd H p o) (m.push p) :=
  ⟨fun a u h _ _ => by rw [upd_ne (ne_of_none h hp)]; exact h, fun a ps h => ⟨ps, by rw [upd_ne (ne_of_none h hp)]; exact h⟩, List.prefix_append _ _, fun a h => by
    rcases List.mem_append.mp h with h | h
    · exact .inl h
    · exact .inr (by rw [List.mem_singleton.mp h]; exact hp), rfl, rfl⟩
theorem RelS.push {S : Store} (s : RelS K H m S) {p : Addr} {xs : List D} {vs : List V} (hp : H p = none) (r : RelDs K H m xs vs) : RelS K (upd H p (.lst vs)) (m.push p) (S ++ [.lst xs]) := by
  refine ⟨by simp [Mp.push, s.len], ?_, fun a ha => ?_, fun b hb => ?_, tabs_new s.tabs hp, fun k o e => ?_⟩
  · show (m.locs ++ [p]).Nodup
    refine List.nodup_append.mpr ⟨s.nd, by simp, fun a ha b hb z => ?_⟩
    rw [List.mem_singleton] at hb
    exact s.fresh hp (by rw [← hb, ← z]; exact ha)
  · rcases List.mem_append.mp ha with ha | ha
    · exact s.dis a ha
    · rw [List.mem_singleton.mp ha]; exact s.nopr hp
  · rw [upd_ne (fun z => s.nopr hp (by rw [← z]; exact hb))]; exact s.prs b hb
  · by_cases hk : k < S.length
    · rw [List.getElem?_append_left hk] at e
      obtain ⟨a, h1, h2⟩ := s.at_ k o e
      refine ⟨a, ?_, h2.monoU (Mono.push hp) (upd_ne fun z => s.fresh hp (by rw [← z]; exact List.mem_of_getElem? h1))⟩
      show (m.locs ++ [p])[k]? = _
      rw [List.getElem?_append_left (by rw [s.len]; exact hk)]
      exact h1
    · have hk2 : k = S.length := by
        have := (List.getElem?_eq_some_iff.mp e).1
        simp at this; omega
      subst hk2
      rw [List.getElem?_append_right (Nat.le_refl _)] at e
      simp at e
      subst e
      refine ⟨p, ?_, vs, upd_same, RelDs.mono (Mono.push hp) _ _ r⟩
      show (m.locs ++ [p])[S.length]? = _
      rw [List.getElem?_append_right (by rw [s.len]; exact Nat.le_refl _)]
      simp [s.len]
/-- something new under way at p -/
def Mp.hold (m : Mp) (p : Addr) : Mp := ⟨m.locs, p :: m.pr, m.T⟩
theorem Mono.hold {p : Addr} {o : HO} (hp : H p = none) : Mono H m (upd H p o) (m.hold p) :=
  ⟨fun a u h _ _ _ => by rw [upd_ne (ne_of_none h hp)]; exact h, List.prefix_refl _, fun _ h => .inl h, fun a h => by
    rcases List.mem_cons.mp h with h | h
    · exact .inr (by rw [h]; exact hp)
    · exact .inl h, rfl⟩
theorem RelS.hold {S : Store} (s : RelS K H m S) {p : Addr} {o : HO} (hp : H p = none) (ho : Pl o) : RelS K (upd H p o) (m.hold p) S := by
  have s' := s.new (o := o) hp
  refine ⟨s'.len, s'.nd, fun a ha => ?_, fun a ha => ?_, s'.tabs, fun k u e => ?_⟩
  · intro z
    rcases List.mem_cons.mp z with z | z
    · exact s.fresh hp (by rw [← z]; exact ha)
    · exact s.dis a ha z
  · rcases List.mem_cons.mp ha with z | z
    · rw [z, upd_same]; exact ⟨o, rfl, ho⟩
    · exact s'.prs a z
  · obtain ⟨a, h1, h2⟩ := s.at_ k u e
    exact ⟨a, h1, h2.monoU (Mono.hold hp) (upd_ne fun z => s.fresh hp (by rw [← z]; exact List.mem_of_getElem? h1))⟩
/-- what is under way changes: nothing else sees it -/
theorem Mono.turn {p : Addr} {o : HO} (hp : p ∈ m.pr) (hn : H p ≠ none) : Mono H m (upd H p o) m :=
  ⟨fun a u h _ h2 _ => by rw [upd_ne (fun z => h2 (by rw [z]; exact hp))]; exact h, List.prefix_refl _, fun _ h => .inl h, fun _ h => .inl h, rfl⟩
theorem RelS.turn {S : Store} (s : RelS K H m S) {p : Addr} {o : HO} (hp : p ∈ m.pr) (ho : Pl o) : RelS K (upd H p o) m S := by
  obtain ⟨o', hn', hpl⟩ := s.prs p hp
  have hn : H p ≠ none := by rw [hn']; simp
  refine ⟨s.len, s.nd, s.dis, fun a ha => ?_, tabs_put s.tabs hn' hpl, fun k u e => ?_⟩
  · by_cases z : a = p
    · rw [z, upd_same]; exact ⟨o, rfl, ho⟩
    · rw [upd_ne z]; exact s.prs a ha
  · obtain ⟨a, h1, h2⟩ := s.at_ k u e
    exact ⟨a, h1, h2.monoU (Mono.turn hp hn) (upd_ne fun z => s.dis a (List.mem_of_getElem? h1) (by rw [z]; exact hp))⟩
/-- it is let go: it stays as it is from now on -/
theorem Mono.drop {p : Addr} : Mono H (m.hold p) H m := ⟨fun a u h _ _ _ => h, List.prefix_refl _, fun _ h => .inl h, fun _ h => .inl (List.mem_cons_of_mem _ h), rfl⟩
theorem RelS.drop {S : Store} {p : Addr} (s : RelS K H (m.hold p) S) : RelS K H m S :=
  ⟨s.len, s.nd, fun a ha z => s.dis a ha (List.mem_cons_of_mem _ z), fun a ha => s.prs a (List.mem_cons_of_mem _ ha), s.tabs, fun k u e => by
    obtain ⟨a, h1, h2⟩ := s.at_ k u e
    exact ⟨a, h1, h2.monoU Mono.drop rfl⟩⟩
/-- it changes from now on -/
theorem Mono.adopt {p : Addr} : Mono H (m.hold p) H (m.push p) := ⟨fun a u h _ _ _ => h, List.prefix_append _ _, fun a h => by
    rcases List.mem_append.mp h with h | h
    · exact .inl h
    · exact .inr (.inl (by rw [List.mem_singleton.mp h]; exact List.mem_cons_self)), fun _ h => .inl (List.mem_cons_of_mem _ h), rfl⟩
theorem RelS.adopt {S : Store} {p : Addr} {xs : List D} {vs : List V} (s : RelS K H (m.hold p) S) (hp : H p = Option.some (.lst vs)) (hq : p ∉ m.pr) (r : RelDs K H (m.hold p) xs vs) : RelS K H (m.push p) (S ++ [.lst xs]) := by
  have hl : p ∉ m.locs := fun z => s.dis p z List.mem_cons_self
  refine ⟨by have := s.len; simp [Mp.push, Mp.hold] at this ⊢; omega, ?_, fun a ha => ?_, fun b hb => s.prs b (List.mem_cons_of_mem _ hb), s.tabs, fun k o e => ?_⟩
  · show (m.locs ++ [p]).Nodup
    refine List.nodup_append.mpr ⟨s.nd, by simp, fun a ha b hb z => ?_⟩
    rw [List.mem_singleton] at hb
    exact hl (by rw [← hb, ← z]; exact ha)
  · rcases List.mem_append.mp ha with ha | ha
    · exact fun z => s.dis a ha (List.mem_cons_of_mem _ z)
    · rw [List.mem_singleton.mp ha]; exact hq
  · have sl : m.locs.length = S.length := s.len
    by_cases hk : k < S.length
    · rw [List.getElem?_append_left hk] at e
      obtain ⟨a, h1, h2⟩ := s.at_ k o e
      refine ⟨a, ?_, h2.monoU Mono.adopt rfl⟩
      show (m.locs ++ [p])[k]? = _
      rw [List.getElem?_append_left (by rw [sl]; exact hk)]
      exact h1
    · have hk2 : k = S.length := by
        have := (List.getElem?_eq_some_iff.mp e).1
        simp at this; omega
      subst hk2
      rw [List.getElem?_append_right (Nat.le_refl _)] at e
      simp at e
      subst e
      refine ⟨p, ?_, vs, hp, RelDs.mono Mono.adopt _ _ r⟩
      show (m.locs ++ [p])[S.length]? = _
      rw [List.getElem?_append_right (by rw [sl]; exact Nat.le_refl _)]
      simp [sl]
theorem Ext.pr' {ps qs : List Addr} {ls : List Addr} {T : List (Addr × Str)} (e : Ext H m H' m') (h : m = ⟨ls, ps, T⟩) : Ext H ⟨ls, qs, T⟩ H' ⟨m'.locs, qs, T⟩ := by
  subst h
  exact ⟨e.keep, e.tbl, e.pre, e.newl, rfl, rfl⟩
end
end KF

set_option Elab.async false
set_option linter.all false
set_option maxRecDepth 100000
set_option maxHeartbeats 4000000
/-! KF2: the resolved syntax, its evaluation -/
namespace KF
open PySem PySem.Spec PyProof.Rows L2
inductive O2 where | add | sub | mul | fdiv | mod | pow
inductive C2 where | eq | ne | lt | le | gt | ge | inn | nin
inductive Bi where | len | min | max | int | list | tuple | all | any
inductive Ty where | list | tuple | int | bool | str | dict
mutual
inductive Tg where | n (i : Nat) | t (ts : Tgs)
inductive Tgs where | nil | cons (t : Tg) (r : Tgs)
end
mutual
inductive E where
  | v (i : Nat) | kn | kb (b : Bool) | ki (i : Int) | ks (x : Str) | g (k : Nat)
  | op (o : O2) (a b : E) | neg (a : E) | cmp (o : C2) (a b : E) | isn (ng : Bool) (a : E)
  | and (a b : E) | or (a b : E) | not (a : E) | ite (t a b : E)
  | call (f : Nat) (as : Es) | bi (b : Bi) (as : Es) | isi (a : E) (ts : List Ty)
  | tup (as : Es) | lst (fz : Bool) (as : Es) | ix (a i : E) | fx (i : Nat) (f : Str)
  | lc (fz : Bool) (e : E) (tg : Tg) (it : It) (cs : Cs) | lrng (a : E)
inductive Es where | nil | cons (e : E) (r : Es)
inductive It where | val (e : E) | rng (a : E)
inductive Cs where | no | one (e : E)
end
/-! ### operations by values -/
def mulOk (i j : Int) : Bool := (decide (-(2 ^ 64) < i) && decide (i < 2 ^ 64)) || (decide (-(2 ^ 64) < j) && decide (j < 2 ^ 64))
def dop : O2 → D → D → Option D
  | .add, .int i, .int j => some (.int (i + j))
  | .add, .str i, .str j => if i.length + j.length ≤ sizeLine then some (.str (i ++ j)) else none
  | .add, .lst xs, .lst ys => if xs.length + ys.length ≤ sizeLine then some (.lst (xs ++ ys)) else none
  | .sub, .int i, .int j => some (.int (i - j))
  | .mul, .int i, .int j => if mulOk i j = true then some (.int (i * j)) else none
  | .fdiv, .int i, .int j => if 0 < j ∧ j < 1073741824 then some (.int (i / j)) else none
  | .mod, .int i, .int j => if 0 < j then some (.int (i % j)) else none
  | .pow, .int i, .int j => if 0 ≤ j ∧ j ≤ 1000000 ∧ i.natAbs < 2 ^ 64 then some (.int (i ^ j.toNat)) else none
  | _, _, _ => none
/-- op= on what never changes -/
def dopI : O2 → D → D → Option D
  | .add, .int i, .int j => some (.int (i + j))
  | .add, .str i, .str j => if i.length + j.length ≤ sizeLine then some (.str (i ++ j)) else none
  | .sub, .int i, .int j => some (.int (i - j))
  | _, _, _ => none
mutual
def D.py : D → Option PyData
  | .non => some .none
  | .bl b => some (.bool b)
  | .int i => some (.int i)
  | .str x => some (.str x)
  | .tup xs => (D.pys xs).map .tuple
  | .lst xs => (D.pys xs).map .list
  | .loc _ => none
def D.pys : List D → Option (List PyData)
  | [] => some []
  | x :: xs => match D.py x, D.pys xs with
    | some d, some ds => some (d :: ds)
    | _, _ => none
end
def deq (x y : D) : Option Bool := match x.py, y.py with
  | some d, some e => if SeqAt.shaped d = true ∧ SeqAt.shaped e = true then some (PyData.eqv d e) else none
  | _, _ => none
def D.flat : D → Bool
  | .non | .bl _ | .int _ | .str _ => true
  | _ => false
def D.toV : D → V
  | .non => .non
  | .bl b => .bl b
  | .int i => .int i
  | .str x => .str x
  | _ => .non
def din (x : D) (xs : List D) : Option Bool := if x.flat = true ∧ xs.all D.flat = true then some (xs.any fun y => eqV y.toV x.toV) else none
def items (S : Store) : D → Option (List D)
  | .lst xs => some xs
  | .tup xs => some xs
  | .loc n => match S[n]? with
    | some (.lst xs) => some xs
    | none => none
  | _ => none
def nb (ng b : Bool) : Bool := if ng = true then !b else b
def dEq (ng : Bool) (x y : D) : Option D := match deq x y with
  | some b => some (.bl (nb ng b))
  | none => none
def dIn (S : Store) (ng : Bool) (x y : D) : Option D := match items S y with
  | some ys => match din x ys with
    | some b => some (.bl (nb ng b))
    | none => none
  | none => none
def dRel (p : Int → Int → Bool) : D → D → Option D
  | .int i, .int j => some (.bl (p i j))
  | _, _ => none
def dcmp (S : Store) : C2 → D → D → Option D
  | .eq, x, y => dEq false x y
  | .ne, x, y => dEq true x y
  | .lt, x, y => dRel (fun i j => decide (i < j)) x y
  | .le, x, y => dRel (fun i j => decide (i ≤ j)) x y
  | .gt, x, y => dRel (fun i j => decide (j < i)) x y
  | .ge, x, y => dRel (fun i j => decide (j ≤ i)) x y
  | .inn, x, y => dIn S false x y
  | .nin, x, y => dIn S true x y
def dix (S : Store) (x y : D) : Option D := match items S x, y with
  | some xs, .int i => atI xs i
  | _, _ => none
def D.isInt : D → Option Int
  | .int i => some i
  | _ => none
def D.isBl : D → Option Bool
  | .bl b => some b
  | _ => none
def mapO {α β : Type} (f : α → Option β) : List α → Option (List β)
  | [] => some []
  | x :: xs => match f x, mapO f xs with
    | some y, some ys => some (y :: ys)
    | _, _ => none
def least : List Int → Int → Int
  | [], m => m
  | x :: xs, m => least xs (if x < m then x else m)
def most : List Int → Int → Int
  | [], m => m
  | x :: xs, m => most xs (if m < x then x else m)
def lstOf (S : Store) : D → Option (List D)
  | .lst xs => some xs
  | .loc n => match S[n]? with
    | some (.lst xs) => some xs
    | none => none
  | _ => none
def dLen (S : Store) : List D → Option D
  | [x] => match items S x with
    | some xs => some (.int xs.length)
    | none => none
  | _ => none
def dMin1 (S : Store) (x : D) : Option D := match lstOf S x with
  | some xs => match mapO D.isInt xs with
    | some (n :: ns) => some (.int (least ns n))
    | _ => none
  | none => none
def dMin (S : Store) : List D → Option D
  | [x] => dMin1 S x
  | [.int i, .int j] => some (.int (if j < i then j else i))
  | _ => none
def dMax1 (S : Store) (x : D) : Option D := match lstOf S x with
  | some xs => match mapO D.isInt xs with
    | some (n :: ns) => some (.int (most ns n))
    | _ => none
  | none => none
def dMax (S : Store) : List D → Option D
  | [x] => dMax1 S x
  | [.int i, .int j] => some (.int (if j > i then j else i))
  | _ => none
def dInt : List D → Option D
  | [.int i] => some (.int i)
  | _ => none
def dList (S : Store) : List D → Option D
  | [x] => match items S x with
    | some xs => some (.lst xs)
    | none => none
  | _ => none
def dTuple : List D → Option D
  | [.tup xs] => some (.tup xs)
  | [.lst xs] => some (.tup xs)
  | _ => none
def dAll (f : List Bool → Bool) : List D → Option D
  | [.lst xs] => match mapO D.isBl xs with
    | some bs => some (.bl (f bs))
    | none => none
  | _ => none
def dbi (S : Store) : Bi → List D → Option D
  | .len, ds => dLen S ds
  | .min, ds => dMin S ds
  | .max, ds => dMax S ds
  | .int, ds => dInt ds
  | .list, ds => dList S ds
  | .tuple, ds => dTuple ds
  | .all, ds => dAll (fun bs => bs.all id) ds
  | .any, ds => dAll (fun bs => bs.any id) ds
inductive Kd where | non | bl | int | str | tup | lst
def D.kd : D → Kd
  | .non => .non
  | .bl _ => .bl
  | .int _ => .int
  | .str _ => .str
  | .tup _ => .tup
  | .lst _ => .lst
  | .loc _ => .lst
def Ty.hasK : Ty → Kd → Bool
  | .list, .lst => true
  | .tuple, .tup => true
  | .int, .int => true
  | .int, .bl => true
  | .bool, .bl => true
  | .str, .str => true
  | _, _ => false
def Ty.has (y : Ty) (d : D) : Bool := y.hasK d.kd
/-! ### targets -/
mutual
def asg : Tg → D → Env → Option Env
  | .n i, d, env => if i < env.length then some (env.set i (some d)) else none
  | .t ts, .tup ds, env => asgs ts ds env
  | .t _, _, _ => none
def asgs : Tgs → List D → Env → Option Env
  | .nil, [], env => some env
  | .cons t r, d :: ds, env => match asg t d env with
    | some env' => asgs r ds env'
    | none => none
  | _, _, _ => none
end
mutual
def Tg.sl : Tg → List Nat
  | .n i => [i]
  | .t ts => ts.sl
def Tgs.sl : Tgs → List Nat
  | .nil => []
  | .cons t r => t.sl ++ r.sl
end
def wipeE (env : Env) : List Nat → Env
  | [] => env
  | v :: vs => (wipeE env vs).set v none
/-! ### evaluation -/
structure Cfg where
  call : Nat → List D → Store → R D
  glob : Nat → Option D
  ef : Nat → List Str
  cur : Option (Nat × List D)
  sub : Nat → Nat → Bool
def D.isNon : D → Bool
  | .non => true
  | _ => false
def isnB (ng : Bool) (x : D) : Bool := if ng = true then !x.isNon else x.isNon
def lift (o : Option D) (S : Store) : R D := match o with
  | some d => .ok d S
  | none => .bad
def asB (d : D) (S : Store) : R Bool := match d with
  | .bl b => .ok b S
  | _ => .bad
/-- a comprehension's turns -/
def lcL (f : D → Store → R (Option D)) : List D → Store → R (List D)
  | [], S => .ok [] S
  | x :: xs, S => (f x S).bind fun o S1 => (lcL f xs S1).bind fun r S2 => .ok (match o with
    | some y => y :: r
    | none => r) S2
/-- what is raised within doesn't come out of a comprehension here -/
def noexc {α : Type} : R α → R α
  | .exc _ _ _ => .bad
  | r => r
def finL (fz : Bool) (ys : List D) (S : Store) : R D := if ys.length ≤ sizeLine then (if fz = true then .ok (.lst ys) S else .ok (.loc S.length) (S ++ [.lst ys])) else .bad
def lcF (tg : Tg) (env : Env) (fc : Env → Store → R Bool) (fe : Env → Store → R D) (x : D) (S : Store) : R (Option D) := match asg tg x (wipeE env tg.sl) with
  | some env' => (fc env' S).bind fun b S1 => if b = true then (fe env' S1).bind fun y S2 => .ok (some y) S2 else .ok none S1
  | none => .bad
def rngD (n : Int) : List D := (List.range n.toNat).map fun (i : Nat) => D.int (0 + (i : Int))
def seqIt (d : D) (S : Store) : R (List D) := match d with
  | .lst xs => .ok xs S
  | .tup xs => .ok xs S
  | _ => .bad
def rngIt (d : D) (S : Store) : R (List D) := match d with
  | .int n => if -(2 ^ 62) ≤ n ∧ n < 2 ^ 62 then .ok (rngD n) S else .bad
  | _ => .bad
def curX (c : Cfg) (f : Str) : Option D := match c.cur with
  | some (k, fs) => ((c.ef k).zip fs).reverse.lookup f
  | none => none
mutual
def ev (c : Cfg) : E → Env → Store → R D
  | .v i, env, S => lift ((env[i]?).join) S
  | .kn, _, S => .ok .non S
  | .kb b, _, S => .ok (.bl b) S
  | .ki i, _, S => .ok (.int i) S
  | .ks x, _, S => .ok (.str x) S
  | .g k, _, S => lift (c.glob k) S
  | .op o a b, env, S => (ev c a env S).bind fun x S1 => (ev c b env S1).bind fun y S2 => lift (dop o x y) S2
  | .neg a, env, S => (ev c a env S).bind fun x S1 => lift (x.isInt.map fun i => .int (-i)) S1
  | .cmp o a b, env, S => (ev c a env S).bind fun x S1 => (ev c b env S1).bind fun y S2 => lift (dcmp S2 o x y) S2
  | .isn ng a, env, S => (ev c a env S).bind fun x S1 => .ok (.bl (isnB ng x)) S1
  | .and a b, env, S => ((ev c a env S).bind asB).bind fun x S1 => if x = true then ev c b env S1 else .ok (.bl false) S1
  | .or a b, env, S => ((ev c a env S).bind asB).bind fun x S1 => if x = true then .ok (.bl true) S1 else ev c b env S1
  | .not a, env, S => ((ev c a env S).bind asB).bind fun x S1 => .ok (.bl (!x)) S1
  | .ite t a b, env, S => ((ev c t env S).bind asB).bind fun x S1 => if x = true then ev c a env S1 else ev c b env S1
  | .call f as, env, S => (evs c as env S).bind fun ds S1 => c.call f ds S1
  | .bi b as, env, S => (evs c as env S).bind fun ds S1 => lift (dbi S1 b ds) S1
  | .isi a ts, env, S => (ev c a env S).bind fun x S1 => .ok (.bl (ts.any fun t => t.has x)) S1
  | .tup as, env, S => (evs c as env S).bind fun ds S1 => if ds.length ≤ sizeLine then .ok (.tup ds) S1 else .bad
  | .lst fz as, env, S => (evs c as env S).bind fun ds S1 => finL fz ds S1
  | .ix a i, env, S => (ev c a env S).bind fun x S1 => (ev c i env S1).bind fun y S2 => lift (dix S2 x y) S2
  | .fx _ f, _, S => lift (curX c f) S
  | .lc fz e tg it cs, env, S => (evI c it env S).bind fun xs S1 => (noexc (lcL (lcF tg env (fun env' S' => evC c cs env' S') (fun env' S' => ev c e env' S')) xs S1)).bind fun ys S5 => finL fz ys S5
  | .lrng a, env, S => (ev c a env S).bind fun x S1 => match x with
    | .int n => if 0 ≤ n ∧ n ≤ 1000000 then .ok (.lst (rngD n)) S1 else .bad
    | _ => .bad
def evs (c : Cfg) : Es → Env → Store → R (List D)
  | .nil, _, S => .ok [] S
  | .cons e r, env, S => (ev c e env S).bind fun x S1 => (evs c r env S1).bind fun xs S2 => .ok (x :: xs) S2
def evI (c : Cfg) : It → Env → Store → R (List D)
  | .val e, env, S => (ev c e env S).bind seqIt
  | .rng a, env, S => (ev c a env S).bind rngIt
def evC (c : Cfg) : Cs → Env → Store → R Bool
  | .no, _, S => .ok true S
  | .one e, env, S => (ev c e env S).bind asB
end
/-! ### statements -/
mutual
inductive St where
  | ex (e : E) | ret (e : E) | retN | asg (t : Tg) (e : E) | augN (i : Nat) (o : O2) (e : E) | augX (a i : E) (o : O2) (e : E)
  | ifs (t : E) (a b : Sts) | for_ (t : Tg) (it : It) (b : Sts) | raise (c : Nat) (as : Es) | pass | brk | cont
  | deeds (rows : Dds) (di du fi : Nat) (x : Nat) (b h : Sts)
inductive Sts where | nil | cons (s : St) (r : Sts)
inductive Dds where | nil | cons (e d : E) (r : Dds)
end
inductive RS where
  | next (env : Env) (S : Store) | ret (d : D) (S : Store) | brk (env : Env) (S : Store) | cont (env : Env) (S : Store)
  | exc (c : Nat) (fs : List D) (env : Env) (S : Store) | bad
def forL (f : D → Env → Store → RS) : List D → Env → Store → RS
  | [], env, S => .next env S
  | x :: xs, env, S => match f x env S with
    | .next env' S' => forL f xs env' S'
    | .cont env' S' => forL f xs env' S'
    | .brk env' S' => .next env' S'
    | r => r
def R.st {α : Type} (r : R α) (env : Env) (f : α → Store → RS) : RS := match r with
  | .ok a S => f a S
  | .exc c fs S => .exc c fs env S
  | .bad => .bad
/-- the rows' dues -/
def evD (c : Cfg) : Dds → Env → Store → R (List D)
  | .nil, _, S => .ok [] S
  | .cons _ d r, env, S => (ev c d env S).bind fun x S1 => (evD c r env S1).bind fun xs S2 => .ok (x :: xs) S2
def unset (i : Nat) : RS → RS
  | .next env S => .next (env.set i none) S
  | .brk env S => .brk (env.set i none) S
  | .cont env S => .cont (env.set i none) S
  | .ret d S => .ret d S
  | _ => .bad
/-- one deed: what is done, else what is caught -/
def deed1 (r : R D) (env : Env) (ok : Store → RS) (sub : Nat → Bool) (h : Nat → List D → Store → RS) : RS := match r with
  | .ok _ S => (match ok S with
    | .exc _ _ _ _ => .bad
    | r => r)
  | .exc k fs S => if sub k = true then h k fs S else .bad
  | .bad => .bad
mutual
def exec (c : Cfg) : St → Env → Store → RS
  | .ex e, env, S => (ev c e env S).st env fun _ S1 => .next env S1
  | .ret e, env, S => (ev c e env S).st env fun d S1 => .ret d S1
  | .retN, _, S => .ret .non S
  | .asg t e, env, S => (ev c e env S).st env fun d S1 => match asg t d env with
    | some env' => .next env' S1
    | none => .bad
  | .augN i o e, env, S => match (env[i]?).join with
    | some x => (ev c e env S).st env fun y S1 => match dopI o x y with
      | some z => .next (env.set i (some z)) S1
      | none => .bad
    | none => .bad
  | .augX a i o e, env, S => (ev c a env S).st env fun x S1 => (ev c i env S1).st env fun k S2 => match dix S2 x k with
    | some old => (ev c e env S2).st env fun y S3 => match dopI o old y, x, k with
      | some z, .loc n, .int j => (match S3[n]? with
        | some (.lst xs) => (match ixN xs.length j with
          | some p => .next env (S3.set n (.lst (xs.set p z)))
          | none => .bad)
        | none => .bad)
      | _, _, _ => .bad
    | none => .bad
  | .ifs t a b, env, S => ((ev c t env S).bind asB).st env fun x S1 => if x = true then execs c a env S1 else execs c b env S1
  | .for_ t it b, env, S => (evI c it env S).st env fun xs S1 => forL (fun x env S => match asg t x env with
    | some env' => execs c b env' S
    | none => .bad) xs env S1
  | .raise k as, env, S => (evs c as env S).st env fun ds S1 => if ds.length = (c.ef k).length then .exc k ds env S1 else .bad
  | .pass, env, S => .next env S
  | .brk, env, S => .brk env S
  | .cont, env, S => .cont env S
  | .deeds rows di du fi x b h, env, S => (evD c rows env S).st env fun ds S1 => deedL c rows di du (fun env' S' => execs c b env' S') (fun k => c.sub k x) (fun k fs env' S' => unset fi (execs { c with cur := some (k, fs) } h (env'.set fi none) S')) ds env S1
def execs (c : Cfg) : Sts → Env → Store → RS
  | .nil, env, S => .next env S
  | .cons s r, env, S => match exec c s env S with
    | .next env' S' => execs c r env' S'
    | r => r
def deedL (c : Cfg) : Dds → Nat → Nat → (Env → Store → RS) → (Nat → Bool) → (Nat → List D → Env → Store → RS) → List D → Env → Store → RS
  | .cons e _ r, di, du, b, sub, h, x :: xs, env, S => match deed1 (ev c e ((env.set di none).set du (some x)) S) env (b ((env.set di none).set du (some x))) sub (fun k fs => h k fs ((env.set di none).set du (some x))) with
    | .next env' S' => deedL c r di du b sub h xs env' S'
    | .cont env' S' => deedL c r di du b sub h xs env' S'
    | .brk env' S' => .next env' S'
    | .ret d S' => .ret d S'
    | _ => .bad
  | .nil, _, _, _, _, _, [], env, S => .next env S
  | _, _, _, _, _, _, _, _, _ => .bad
end
example (c : Cfg) (env : Env) (S : Store) : ev c (.op .add (.ki 1) (.ki 2)) env S = .ok (.int 3) S := rfl
example (c : Cfg) (env : Env) (S : Store) : execs c (.cons (.ex .kn) (.cons (.ret (.ki 2)) .nil)) env S = .ret (.int 2) S := rfl
end KF

set_option Elab.async false
set_option linter.all false
set_option maxRecDepth 100000
set_option maxHeartbeats 4000000
/-! KF3: readings by the evaluation; operations by values -/
namespace KF
open PySem PySem.Spec PyProof.Rows L2
/-- where the text's things stand -/
structure Lk where
  K : PySem.W.Frag
  ea : Nat → Addr
  ef : Nat → List Str
  T : List (Addr × Str)
def Cont (L : Lk) (W : WX) (σ : L2.St) {α β : Type} (Rl : Hp → Mp → α → β → Prop) (Q : β → Hp → Prop) (H : Hp) (m : Mp) : R α → Prop
  | .ok d S' => ∀ H' m' v, Ext H m H' m' → RelS L.K H' m' S' → Rl H' m' d v → Q v H'
  | .exc c fs S' => ∀ H' m' dx vs, Ext H m H' m' → RelS L.K H' m' S' → RelDs L.K H' m' fs vs → H' dx = some (.xd ((L.ef c).zip vs).reverse) → dx ∉ m'.locs → dx ∉ m'.pr → W (.ref (L.ea c)) (some dx) σ H'
  | .bad => False
section
variable {L : Lk} {W : WX} {σ : L2.St} {α β γ δ : Type} {Rl : Hp → Mp → α → β → Prop} {Rl2 : Hp → Mp → γ → δ → Prop} {Q Q' : β → Hp → Prop} {H H1 : Hp} {m m1 : Mp}
theorem Cont.ext (e : Ext H m H1 m1) : ∀ {r : R α}, Cont L W σ Rl Q H m r → Cont L W σ Rl Q H1 m1 r
  | .ok d S', h => fun H' m' v e' s r => h H' m' v (e.trans e') s r
  | .exc c fs S', h => fun H' m' dx vs e' s r h1 h2 h3 => h H' m' dx vs (e.trans e') s r h1 h2 h3
  | .bad, h => h
theorem Cont.imp (k : ∀ v H', Q v H' → Q' v H') : ∀ {r : R α}, Cont L W σ Rl Q H m r → Cont L W σ Rl Q' H m r
  | .ok d S', h => fun H' m' v e' s r => k _ _ (h H' m' v e' s r)
  | .exc c fs S', h => h
  | .bad, h => h
theorem Cont.bind {Q : δ → Hp → Prop} {f : α → Store → R γ} : ∀ {r : R α}, Cont L W σ Rl2 Q H m (r.bind f) →
    Cont L W σ Rl (fun v H1 => ∃ m1 d S1, Ext H m H1 m1 ∧ RelS L.K H1 m1 S1 ∧ Rl H1 m1 d v ∧ Cont L W σ Rl2 Q H1 m1 (f d S1)) H m r
  | .ok d S', h => fun H' m' v e' s r => ⟨m', d, S', e', s, r, Cont.ext e' h⟩
  | .exc c fs S', h => h
  | .bad, h => h
end
/-- the frame's values; Z: what else holds -/
abbrev ZP := L2.St → Hp → Mp → Prop
def RelE (L : Lk) (Z : ZP) (H : Hp) (m : Mp) (env : Env) (σ : L2.St) : Prop :=
  env.length = σ.length ∧ (∀ (i : Nat) (d : D), env[i]? = some (some d) → ∃ v, σ[i]? = some (some v) ∧ RelD L.K H m d v) ∧ Z σ H m ∧ m.T = L.T
def ZMono (Z : ZP) : Prop := ∀ σ H m H' m', Mono H m H' m' → Z σ H m → Z σ H' m'
theorem RelE.mono {L : Lk} {Z : ZP} {H H' : Hp} {m m' : Mp} {env : Env} {σ : L2.St} (z : ZMono Z) (e : Mono H m H' m') (h : RelE L Z H m env σ) : RelE L Z H' m' env σ :=
  ⟨h.1, fun i d q => let ⟨v, a, b⟩ := h.2.1 i d q; ⟨v, a, b.mono e⟩, z _ _ _ _ _ e h.2.2.1, e.T.trans h.2.2.2⟩
def tE (L : Lk) (W : WX) (Z : ZP) {α β : Type} (Rl : Hp → Mp → α → β → Prop) (f : Env → Store → R α) : L2.St → Hp → (β → Hp → Prop) → Prop := fun σ H Q =>
  ∃ env S m, RelE L Z H m env σ ∧ RelS L.K H m S ∧ Cont L W σ Rl Q H m (f env S)
abbrev tD (L : Lk) (W : WX) (Z : ZP) (f : Env → Store → R D) : TE := tE L W Z (RelD L.K) f
abbrev tB' (L : Lk) (W : WX) (Z : ZP) (f : Env → Store → R D) : TT := tE L W Z (fun _ _ d b => d = .bl b) f
abbrev tBb (L : Lk) (W : WX) (Z : ZP) (f : Env → Store → R Bool) : TT := tE L W Z (fun _ _ d b => d = b) f
abbrev tDs (L : Lk) (W : WX) (Z : ZP) (f : Env → Store → R (List D)) : TA := tE L W Z (RelDs L.K) f
section
variable {L : Lk} {W : WX} {Z : ZP} {α β γ δ : Type} {Rl : Hp → Mp → α → β → Prop} {Rl2 : Hp → Mp → γ → δ → Prop} {σ : L2.St} {H : Hp} {Q : δ → Hp → Prop}
/-- one part, then the rest: at the state behind the part -/
theorem tE.seq (z : ZMono Z) {f : Env → Store → R α} {g : Env → α → Store → R γ} (h : tE L W Z Rl2 (fun env S => (f env S).bind fun x S1 => g env x S1) σ H Q) :
    tE L W Z Rl f σ H fun v H1 => ∃ env S1 m1 d, RelE L Z H1 m1 env σ ∧ RelS L.K H1 m1 S1 ∧ Rl H1 m1 d v ∧ Cont L W σ Rl2 Q H1 m1 (g env d S1) := by
  obtain ⟨env, S, m, he, hs, hc⟩ := h
  exact ⟨env, S, m, he, hs, hc.bind.imp fun v H1 ⟨m1, d, S1, e, s, r, c⟩ => ⟨env, S1, m1, d, he.mono z e.mono, s, r, c⟩⟩
theorem tE.imp {Q Q' : β → Hp → Prop} {f : Env → Store → R α} (k : ∀ v H', Q v H' → Q' v H') (h : tE L W Z Rl f σ H Q) : tE L W Z Rl f σ H Q' := by
  obtain ⟨env, S, m, he, hs, hc⟩ := h
  exact ⟨env, S, m, he, hs, hc.imp k⟩
end
section
variable {X : Cx} {e : Expr}
theorem _root_.L2.PE.imp {t t' : TE} (h : PE X e t) (k : ∀ σ H Q, t' σ H Q → t σ H Q) : PE X e t' := ⟨fun pins s σ H Q I w => h.run pins s σ H Q I (k σ H Q w)⟩
theorem _root_.L2.PT.imp {t t' : TT} (h : PT X e t) (k : ∀ σ H Q, t' σ H Q → t σ H Q) : PT X e t' := ⟨fun pins s σ H Q I w => h.run pins s σ H Q I (k σ H Q w)⟩
theorem _root_.L2.PW.imp {t t' : TT} (h : PW X e t) (k : ∀ σ H Q, t' σ H Q → t σ H Q) : PW X e t' := ⟨fun wh pins s σ H Q I w => h.run wh pins s σ H Q I (k σ H Q w)⟩
theorem _root_.L2.PA.imp {es : List Expr} {t t' : TA} (h : PA X es t) (k : ∀ σ H Q, t' σ H Q → t σ H Q) : PA X es t' := ⟨fun pos pins s σ H Q I w => h.run pos pins s σ H Q I (k σ H Q w)⟩
theorem _root_.L2.PSs.imp {st : List Stmt} {t t' : TS} (h : PSs X st t) (k : ∀ D σ H, t' D σ H → t D σ H) : PSs X st t' := ⟨fun pins s σ H Q I w => h.run pins s σ H Q I (k _ σ H w)⟩
theorem _root_.L2.PS.imp {st : Stmt} {t t' : TS} (h : PS X st t) (k : ∀ D σ H, t' D σ H → t D σ H) : PS X st t' := ⟨fun pins s σ H Q I w => h.run pins s σ H Q I (k _ σ H w)⟩
theorem OpR.imp {f : Value → Value → Sem Value} {r r' : R2} (h : OpR X f r) (k : ∀ x y H Q, r' x y H Q → r x y H Q) : OpR X f r' := fun pins s σ H x y v u Q I rx ry w => h pins s σ H x y v u Q I rx ry (k _ _ _ _ w)
theorem CallR.imp {f : Value} {r r' : List V → Hp → VK → Prop} (h : CallR X f r) (k : ∀ xs H Q, r' xs H Q → r xs H Q) : CallR X f r' := fun pins s σ H xs us Q I rx w => h pins s σ H xs us Q I rx (k _ _ _ w)
theorem IxR.imp {r r' : R2} (h : IxR X r) (k : ∀ x y H Q, r' x y H Q → r x y H Q) : IxR X r' := fun a b pins s σ H x y v u Q I rx ry w hs => h a b pins s σ H x y v u Q I rx ry (k _ _ _ _ w) hs
/-- by cases on what the reading says -/
theorem OpR.any {f : Value → Value → Sem Value} {r' : R2} (h : ∀ x y H Q, r' x y H Q → ∃ r : R2, OpR X f r ∧ r x y H Q) : OpR X f r' := fun pins s σ H x y v u Q I rx ry w => by
  obtain ⟨r, h1, h2⟩ := h x y H Q w
  exact h1 pins s σ H x y v u Q I rx ry h2
theorem CallR.any {f : Value} {r' : List V → Hp → VK → Prop} (h : ∀ xs H Q, r' xs H Q → ∃ r : List V → Hp → VK → Prop, CallR X f r ∧ r xs H Q) : CallR X f r' := fun pins s σ H xs us Q I rx w => by
  obtain ⟨r, h1, h2⟩ := h xs H Q w
  exact h1 pins s σ H xs us Q I rx h2
theorem IxR.any {r' : R2} (h : ∀ x y H Q, r' x y H Q → ∃ r : R2, IxR X r ∧ r x y H Q) : IxR X r' := fun a b pins s σ H x y v u Q I rx ry w hs => by
  obtain ⟨r, h1, h2⟩ := h x y H Q w
  exact h1 a b pins s σ H x y v u Q I rx ry h2 hs
end
/-! ### operators -/
def rO (L : Lk) (g : Store → D → D → Option D) : R2 := fun x y H Q => ∃ d e z m S, RelS L.K H m S ∧ RelD L.K H m d x ∧ RelD L.K H m e y ∧ g S d e = some z ∧ ∀ H' m' v, Ext H m H' m' → RelS L.K H' m' S → RelD L.K H' m' z v → Q v H'
def O2.py : O2 → Operator
  | .add => .Add | .sub => .Sub | .mul => .Mult | .fdiv => .FloorDiv | .mod => .Mod | .pow => .Pow
theorem mulOk_ok {i j : Int} (h : mulOk i j = true) : CMul i j := by
  unfold mulOk at h
  simpa [CMul] using h
section
variable {X : Cx} {L : Lk}
/-- list + list, each read -/
def rCatL (K : PySem.W.Frag) : R2 := fun x y H Q => ∃ l b xs zs, x = .ref l ∧ y = .ref b ∧ Rd H l (.lst xs) ∧ Rd H b (.lst zs) ∧ xs.length + zs.length ≤ sizeLine ∧ ∀ p, H p = none → Q (.ref p) (upd H p (.lst (xs ++ zs)))
theorem rdL {pins : List (Addr × Obj)} {s : Shared} {σ : L2.St} {H : Hp} {l : Addr} {xs : List V} (I : Inv X pins σ H s) (h : Rd H l (.lst xs)) : ∃ (its : List Value) (n : Nat), Vals xs its ∧ s.heap.get? l = some { cls := .type "list", data := .seq its.toArray n } := by
  obtain ⟨z, its, n, r, e⟩ := h.ok I.hok
  exact ⟨its, n, r, e⟩
theorem op_catL : OpR X (binaryOp .Add) (rCatL X.K) := by
  intro pins s σ H x y v u Q I rx ry h
  obtain ⟨l, b, xs, zs, rfl, rfl, hH, hB, hz, q⟩ := h
  cases rx
  cases ry
  obtain ⟨its, n, r, e⟩ := rdL I hH
  obtain ⟨its2, n2, r2, e2⟩ := rdL I hB
  have l1 := r.length
  have l2 := r2.length
  refine PySem.P.add_list e e2 ?_ (by rw [List.size_toArray, List.size_toArray]; omega)
  have ea : its.toArray ++ its2.toArray = (its ++ its2).toArray := by simp
  rw [ea]
  exact ⟨.ref _, _, I.lnew (t' := s.toks) (r.append r2) (by rw [List.length_append]; omega), rfl, q _ I.fresh⟩
theorem op_all (o : O2) : OpR X (binaryOp o.py) (rO L fun _ => dop o) := by
  refine OpR.any fun x y H Q h => ?_
  obtain ⟨d, e, z, m, S, hs, rx, ry, hz, k⟩ := h
  have fin : ∀ v, RelD L.K H m z v → Q v H := fun v r => k H m v (Ext.refl H m) hs r
  cases o
  · -- add
    cases d <;> cases e <;> simp only [dop] at hz <;> try (cases hz; done)
    · cases hz
      exact ⟨_, op_add, _, _, rx, ry, fin _ rfl⟩
    · split at hz
      · rename_i hl
        cases hz
        exact ⟨_, op_add_str, _, _, rx, ry, hl, fin _ rfl⟩
      · cases hz
    · split at hz
      · rename_i hl
        cases hz
        obtain ⟨a, vs, rfl, ha, r1⟩ := rx
        obtain ⟨b, ws, rfl, hb, r2⟩ := ry
        refine ⟨_, op_catL, a, b, vs, ws, rfl, rfl, ha.2.2, hb.2.2, by rw [r1.length, r2.length]; exact hl, fun p hp => ?_⟩
        exact k _ m _ (Ext.new hp) (hs.new hp) ⟨p, _, rfl, LstA.new hs hp, (r1.app r2).mono (Mono.new hp)⟩
      · cases hz
  · cases d <;> cases e <;> simp only [dop] at hz <;> try (cases hz; done)
    cases hz
    exact ⟨_, op_sub, _, _, rx, ry, fin _ rfl⟩
  · cases d <;> cases e <;> simp only [dop] at hz <;> try (cases hz; done)
    split at hz
    · rename_i hl
      cases hz
      exact ⟨_, op_mul, _, _, rx, ry, mulOk_ok hl, fin _ rfl⟩
    · cases hz
  · cases d <;> cases e <;> simp only [dop] at hz <;> try (cases hz; done)
    split at hz
    · rename_i hl
      cases hz
      exact ⟨_, op_fdiv, _, _, rx, ry, hl, fin _ rfl⟩
    · cases hz
  · cases d <;> cases e <;> simp only [dop] at hz <;> try (cases hz; done)
    split at hz
    · rename_i hl
      cases hz
      exact ⟨_, op_mod, _, _, rx, ry, hl, fin _ rfl⟩
    · cases hz
  · cases d <;> cases e <;> simp only [dop] at hz <;> try (cases hz; done)
    split at hz
    · rename_i hl
      cases hz
      exact ⟨_, op_pow, _, _, rx, ry, hl, fin _ rfl⟩
    · cases hz
end
end KF

set_option Elab.async false
set_option linter.all false
set_option maxRecDepth 100000
set_option maxHeartbeats 4000000
/-! KF4: comparisons, subscripts, built-ins by values -/
namespace KF
open PySem PySem.Spec PyProof.Rows L2
section
variable {K : PySem.W.Frag} {H : Hp} {m : Mp}
mutual
theorem RelD.dp : ∀ (d : D) (p : PyData) (v : V), d.py = some p → RelD K H m d v → Dp K H v p
  | .non, p, v, h, r => by
    have r : v = .non := r
    cases h; subst r; exact .non
  | .bl b, p, v, h, r => by
    have r : v = .bl b := r
    cases h; subst r; exact .bl b
  | .int i, p, v, h, r => by
    have r : v = .int i := r
    cases h; subst r; exact .int i
  | .str x, p, v, h, r => by
    have r : v = .str x := r
    cases h; subst r; exact .str x
  | .tup xs, p, v, h, r => by
    obtain ⟨a, vs, rfl, ha, hr⟩ := r
    unfold D.py at h
    cases q : D.pys xs with
    | none => rw [q] at h; cases h
    | some ds =>
      rw [q] at h; cases h
      exact .tup ha.sq (RelDs.dp xs ds vs q hr)
  | .lst xs, p, v, h, r => by
    obtain ⟨a, vs, rfl, ha, hr⟩ := r
    unfold D.py at h
    cases q : D.pys xs with
    | none => rw [q] at h; cases h
    | some ds =>
      rw [q] at h; cases h
      exact .lst ha.sq (RelDs.dp xs ds vs q hr)
  | .loc _, p, v, h, r => by cases h
theorem RelDs.dp : ∀ (ds : List D) (ps : List PyData) (vs : List V), D.pys ds = some ps → RelDs K H m ds vs → DpAll K H vs ps
  | [], ps, vs, h, r => by
    have r : vs = [] := r
    cases h; subst r; exact .nil
  | x :: xs, ps, vs, h, r => by
    obtain ⟨v, w, rfl, r1, r2⟩ := r
    unfold D.pys at h
    cases q : D.py x with
    | none => rw [q] at h; cases h
    | some d =>
      cases q2 : D.pys xs with
      | none => rw [q, q2] at h; cases h
      | some ds =>
        rw [q, q2] at h; cases h
        exact .cons (RelD.dp x d v q r1) (RelDs.dp xs ds w q2 r2)
end
theorem RelD.flat {d : D} {v : V} (hf : d.flat = true) (r : RelD K H m d v) : v = d.toV ∧ flatV v = true := by
  cases d with
  | non => exact ⟨r, by rw [show v = _ from r]; rfl⟩
  | bl b => exact ⟨r, by rw [show v = _ from r]; rfl⟩
  | int i => exact ⟨r, by rw [show v = _ from r]; rfl⟩
  | str x => exact ⟨r, by rw [show v = _ from r]; rfl⟩
  | _ => cases hf
theorem RelDs.flat : ∀ {ds : List D} {vs : List V}, ds.all D.flat = true → RelDs K H m ds vs → vs = ds.map D.toV ∧ vs.all flatV = true
  | [], vs, _, r => by rw [show vs = [] from r]; exact ⟨rfl, rfl⟩
  | x :: xs, vs, h, r => by
    obtain ⟨v, w, rfl, r1, r2⟩ := r
    rw [List.all_cons, Bool.and_eq_true] at h
    obtain ⟨e1, f1⟩ := r1.flat h.1
    obtain ⟨e2, f2⟩ := r2.flat h.2
    exact ⟨by rw [e1, e2]; rfl, by rw [List.all_cons, f1, f2]; rfl⟩
theorem items_sq {S : Store} {d : D} {v : V} {xs : List D} (s : RelS K H m S) (r : RelD K H m d v) (h : items S d = some xs) :
    ∃ a vs, v = .ref a ∧ RelDs K H m xs vs ∧ (SqL K H a vs ∨ SqT K H a vs) := by
  cases d with
  | lst ys =>
    cases h
    obtain ⟨a, vs, rfl, ha, hr⟩ := r
    exact ⟨a, vs, rfl, hr, .inl ha.sq⟩
  | tup ys =>
    cases h
    obtain ⟨a, vs, rfl, ha, hr⟩ := r
    exact ⟨a, vs, rfl, hr, .inr ha.sq⟩
  | loc n =>
    obtain ⟨a, rfl, ha⟩ := r
    unfold items at h
    cases q : S[n]? with
    | none => simp only [q] at h; cases h
    | some o =>
      simp only [q] at h
      cases o with
      | lst ys =>
        cases h
        obtain ⟨b, e1, vs, e2, e3⟩ := s.at_ n _ q
        rw [ha] at e1; cases e1
        exact ⟨a, vs, rfl, e3, .inl (.of e2)⟩
  | _ => cases h
theorem atI_rel {xs : List D} {vs : List V} {i : Int} {d : D} (r : RelDs K H m xs vs) (h : atI xs i = some d) : ∃ v, atI vs i = some v ∧ RelD K H m d v := by
  unfold atI at h ⊢
  rw [r.length]
  cases q : ixN xs.length i with
  | none => rw [q] at h; cases h
  | some j =>
    rw [q] at h
    obtain ⟨v, e, rv⟩ := r.get h
    exact ⟨v, e, rv⟩
theorem RelDs.ofInts : ∀ {xs : List D} {ns : List Int} {vs : List V}, mapO D.isInt xs = some ns → RelDs K H m xs vs → vs = ns.map V.int
  | [], ns, vs, h, r => by cases h; exact r
  | x :: xs, ns, vs, h, r => by
    obtain ⟨v, w, rfl, r1, r2⟩ := r
    unfold mapO at h
    cases q : x.isInt with
    | none => rw [q] at h; cases h
    | some i =>
      cases q2 : mapO D.isInt xs with
      | none => rw [q, q2] at h; cases h
      | some js =>
        rw [q, q2] at h; cases h
        have e : x = .int i := by
          cases x <;> simp [D.isInt] at q
          rw [q]
        subst e
        rw [show v = _ from r1, RelDs.ofInts q2 r2]; rfl
theorem RelDs.ofBls : ∀ {xs : List D} {ns : List Bool} {vs : List V}, mapO D.isBl xs = some ns → RelDs K H m xs vs → vs = ns.map V.bl
  | [], ns, vs, h, r => by cases h; exact r
  | x :: xs, ns, vs, h, r => by
    obtain ⟨v, w, rfl, r1, r2⟩ := r
    unfold mapO at h
    cases q : x.isBl with
    | none => rw [q] at h; cases h
    | some i =>
      cases q2 : mapO D.isBl xs with
      | none => rw [q, q2] at h; cases h
      | some js =>
        rw [q, q2] at h; cases h
        have e : x = .bl i := by
          cases x <;> simp [D.isBl] at q
          rw [q]
        subst e
        rw [show v = _ from r1, RelDs.ofBls q2 r2]; rfl
theorem least_spec : ∀ (xs : List Int) (n : Int), least xs n ∈ n :: xs ∧ ∀ y ∈ n :: xs, least xs n ≤ y
  | [], n => ⟨by simp [least], by simp [least]⟩
  | x :: xs, n => by
    obtain ⟨h1, h2⟩ := least_spec xs (if x < n then x else n)
    refine ⟨?_, fun y hy => ?_⟩
    · unfold least
      rcases List.mem_cons.mp h1 with h | h
      · rw [h]; split <;> simp
      · exact List.mem_cons_of_mem _ (List.mem_cons_of_mem _ h)
    · unfold least
      have h0 := h2 _ List.mem_cons_self
      rcases List.mem_cons.mp hy with rfl | hy
      · split at h0 <;> rename_i hc
        · rw [if_pos hc]; omega
        · rw [if_neg hc]; omega
      · rcases List.mem_cons.mp hy with rfl | hy
        · split at h0 <;> rename_i hc
          · rw [if_pos hc]; omega
          · rw [if_neg hc]; omega
        · exact h2 y (List.mem_cons_of_mem _ hy)
theorem most_spec : ∀ (xs : List Int) (n : Int), most xs n ∈ n :: xs ∧ ∀ y ∈ n :: xs, y ≤ most xs n
  | [], n => ⟨by simp [most], by simp [most]⟩
  | x :: xs, n => by
    obtain ⟨h1, h2⟩ := most_spec xs (if n < x then x else n)
    refine ⟨?_, fun y hy => ?_⟩
    · unfold most
      rcases List.mem_cons.mp h1 with h | h
      · rw [h]; split <;> simp
      · exact List.mem_cons_of_mem _ (List.mem_cons_of_mem _ h)
    · unfold most
      have h0 := h2 _ List.mem_cons_self
      rcases List.mem_cons.mp hy with rfl | hy
      · split at h0 <;> rename_i hc
        · rw [if_pos hc]; omega
        · rw [if_neg hc]; omega
      · rcases List.mem_cons.mp hy with rfl | hy
        · split at h0 <;> rename_i hc
          · rw [if_pos hc]; omega
          · rw [if_neg hc]; omega
        · exact h2 y (List.mem_cons_of_mem _ hy)
end
def C2.py : C2 → CmpOp
  | .eq => .Eq | .ne => .NotEq | .lt => .Lt | .le => .LtE | .gt => .Gt | .ge => .GtE | .inn => .In | .nin => .NotIn
section
variable {X : Cx} {L : Lk}
theorem op_cmpAll (hK : X.K = L.K) (hu : X.A.units + 64 < cLine) (o : C2) : OpR X (compareOp o.py) (rO L fun S => dcmp S o) := by
  refine OpR.any fun x y H Q h => ?_
  obtain ⟨d, e, z, m, S, hs, rx, ry, hz, k⟩ := h
  have fin : ∀ v, RelD L.K H m z v → Q v H := fun v r => k H m v (Ext.refl H m) hs r
  have eqs : ∀ {b : Bool}, deq d e = some b → ∃ p q, Dp X.K H x p ∧ Dp X.K H y q ∧ SeqAt.shaped p = true ∧ SeqAt.shaped q = true ∧ PyData.eqv p q = b := by
    intro b hb
    unfold deq at hb
    cases q1 : d.py with
    | none => rw [q1] at hb; cases hb
    | some p =>
      cases q2 : e.py with
      | none => rw [q1, q2] at hb; cases hb
      | some q =>
        rw [q1, q2] at hb
        dsimp only at hb
        split at hb
        · rename_i hc
          cases hb
          rw [hK]
          exact ⟨p, q, rx.dp _ _ _ q1, ry.dp _ _ _ q2, hc.1, hc.2, rfl⟩
        · cases hb
  have ins : ∀ {ys : List D} {b : Bool}, items S e = some ys → din d ys = some b → ∃ p xs, y = .ref p ∧ (SqL X.K H p xs ∨ SqT X.K H p xs) ∧ flatV x = true ∧ xs.all flatV = true ∧ inV x xs = b := by
    intro ys b h1 h2
    obtain ⟨a, vs, rfl, hr, hq⟩ := items_sq hs ry h1
    unfold din at h2
    split at h2
    · rename_i hc
      cases h2
      obtain ⟨e1, f1⟩ := rx.flat hc.1
      obtain ⟨e2, f2⟩ := hr.flat hc.2
      refine ⟨a, vs, rfl, by rw [hK]; exact hq, f1, f2, ?_⟩
      unfold inV
      rw [e2, List.any_map, e1]; rfl
    · cases h2
  have rels : ∀ {p : Int → Int → Bool}, dRel p d e = some z → ∃ i j, x = .int i ∧ y = .int j ∧ z = .bl (p i j) := by
    intro p hp
    unfold dRel at hp
    split at hp
    · cases hp
      exact ⟨_, _, rx, ry, rfl⟩
    · cases hp
  have eqz : ∀ ng, dEq ng d e = some z → ∃ p q, Dp X.K H x p ∧ Dp X.K H y q ∧ SeqAt.shaped p = true ∧ SeqAt.shaped q = true ∧ z = .bl (nb ng (PyData.eqv p q)) := by
    intro ng h
    unfold dEq at h
    split at h
    · rename_i b hb
      cases h
      obtain ⟨p, q', h1, h2, h3, h4, h5⟩ := eqs hb
      exact ⟨p, q', h1, h2, h3, h4, by rw [h5]⟩
    · cases h
  have inz : ∀ ng, dIn S ng d e = some z → ∃ p xs, y = .ref p ∧ (SqL X.K H p xs ∨ SqT X.K H p xs) ∧ flatV x = true ∧ xs.all flatV = true ∧ z = .bl (nb ng (inV x xs)) := by
    intro ng h
    unfold dIn at h
    split at h
    · rename_i ys q
      split at h
      · rename_i b q2
        cases h
        obtain ⟨p, xs, h1, h2, h3, h4, h5⟩ := ins q q2
        exact ⟨p, xs, h1, h2, h3, h4, by rw [h5]⟩
      · cases h
    · cases h
  cases o
  · obtain ⟨p, q', h1, h2, h3, h4, h5⟩ := eqz false hz
    exact ⟨_, op_eqD hu, p, q', h1, h2, h3, h4, fin _ (by rw [h5]; rfl)⟩
  · obtain ⟨p, q', h1, h2, h3, h4, h5⟩ := eqz true hz
    exact ⟨_, op_neD hu, p, q', h1, h2, h3, h4, fin _ (by rw [h5]; rfl)⟩
  · obtain ⟨i, j, h1, h2, h3⟩ := rels hz
    exact ⟨_, op_lt, i, j, h1, h2, fin _ (by rw [h3]; rfl)⟩
  · obtain ⟨i, j, h1, h2, h3⟩ := rels hz
    exact ⟨_, op_le, i, j, h1, h2, fin _ (by rw [h3]; rfl)⟩
  · obtain ⟨i, j, h1, h2, h3⟩ := rels hz
    exact ⟨_, op_gt, i, j, h1, h2, fin _ (by rw [h3]; rfl)⟩
  · obtain ⟨i, j, h1, h2, h3⟩ := rels hz
    exact ⟨_, op_ge, i, j, h1, h2, fin _ (by rw [h3]; rfl)⟩
  · obtain ⟨p, xs, h1, h2, h3, h4, h5⟩ := inz false hz
    refine ⟨_, op_in_seq, p, xs, h1, h2, h3, h4, ?_⟩
    rw [if_neg Bool.false_ne_true]
    exact fin _ (by rw [h5]; rfl)
  · obtain ⟨p, xs, h1, h2, h3, h4, h5⟩ := inz true hz
    refine ⟨_, op_notIn_seq, p, xs, h1, h2, h3, h4, ?_⟩
    rw [if_pos rfl]
    exact fin _ (by rw [h5]; rfl)
theorem RelD.isNon {K : PySem.W.Frag} {H : Hp} {m : Mp} {d : D} {x : V} (rx : RelD K H m d x) : decide (x = V.non) = d.isNon := by
  cases d with
  | non => rw [show x = _ from rx]; rfl
  | bl b => rw [show x = _ from rx]; rfl
  | int i => rw [show x = _ from rx]; rfl
  | str y => rw [show x = _ from rx]; rfl
  | tup xs => obtain ⟨a, vs, rfl, _⟩ := rx; rfl
  | lst xs => obtain ⟨a, vs, rfl, _⟩ := rx; rfl
  | loc n => obtain ⟨a, rfl, _⟩ := rx; rfl
def rIs (L : Lk) (ng : Bool) : R2 := fun x y H Q => ∃ d m S, RelS L.K H m S ∧ RelD L.K H m d x ∧ y = .non ∧ ∀ H' m' v, Ext H m H' m' → RelS L.K H' m' S → RelD L.K H' m' (.bl (isnB ng d)) v → Q v H'
theorem op_isAll (ng : Bool) : OpR X (compareOp (if ng = true then .IsNot else .Is)) (rIs L ng) := by
  refine OpR.any fun x y H Q h => ?_
  obtain ⟨d, m, S, hs, rx, hy, k⟩ := h
  have e := rx.isNon
  cases ng with
  | false =>
    refine ⟨_, op_isN, hy, k H m _ (Ext.refl H m) hs ?_⟩
    rw [e]; rfl
  | true =>
    refine ⟨_, op_notN, hy, k H m _ (Ext.refl H m) hs ?_⟩
    rw [e]; rfl
theorem ix_all (hK : X.K = L.K) : IxR X (rO L dix) := by
  refine IxR.any fun x y H Q h => ?_
  obtain ⟨d, e, z, m, S, hs, rx, ry, hz, k⟩ := h
  have fin : ∀ v, RelD L.K H m z v → Q v H := fun v r => k H m v (Ext.refl H m) hs r
  unfold dix at hz
  cases q : items S d with
  | none => rw [q] at hz; cases hz
  | some xs =>
    rw [q] at hz
    cases e <;> try (cases hz; done)
    rename_i i
    obtain ⟨a, vs, rfl, hr, hq⟩ := items_sq hs rx q
    obtain ⟨v, e1, rv⟩ := atI_rel hr hz
    rcases hq with hq | hq
    · exact ⟨_, ix_list, a, vs, i, v, rfl, ry, by rw [hK]; exact hq, e1, fin _ rv⟩
    · exact ⟨_, ix_tup, a, vs, i, v, rfl, ry, by rw [hK]; exact hq, e1, fin _ rv⟩
/-! ### built-ins -/
def rC (L : Lk) (g : Store → List D → Option D) : List V → Hp → VK → Prop := fun xs H Q => ∃ ds z m S, RelS L.K H m S ∧ RelDs L.K H m ds xs ∧ g S ds = some z ∧ ∀ H' m' v, Ext H m H' m' → RelS L.K H' m' S → RelD L.K H' m' z v → Q v H'
def Bi.py : Bi → Value
  | .len => .builtin "len" | .min => .builtin "min" | .max => .builtin "max" | .int => .type "int" | .list => .type "list" | .tuple => .type "tuple" | .all => .builtin "all" | .any => .builtin "any"
theorem lstOf_items {S : Store} {d : D} {xs : List D} (h : lstOf S d = some xs) : items S d = some xs := by
  cases d <;> first | exact h | cases h
theorem lst_sq {K : PySem.W.Frag} {H : Hp} {m : Mp} {S : Store} {d : D} {v : V} {xs : List D} (s : RelS K H m S) (r : RelD K H m d v) (h : lstOf S d = some xs) :
    ∃ a vs, v = .ref a ∧ RelDs K H m xs vs ∧ SqL K H a vs := by
  cases d with
  | lst ys =>
    cases h
    obtain ⟨a, vs, rfl, ha, hr⟩ := r
    exact ⟨a, vs, rfl, hr, ha.sq⟩
  | loc n =>
    obtain ⟨a, rfl, ha⟩ := r
    unfold lstOf at h
    cases q : S[n]? with
    | none => simp only [q] at h; cases h
    | some o =>
      simp only [q] at h
      cases o with
      | lst ys =>
        cases h
        obtain ⟨b, e1, vs, e2, e3⟩ := s.at_ n _ q
        rw [ha] at e1; cases e1
        exact ⟨a, vs, rfl, e3, .of e2⟩
  | _ => cases h
theorem one_of {K : PySem.W.Frag} {H : Hp} {m : Mp} {d : D} {vs : List V} (r : RelDs K H m [d] vs) : ∃ v, vs = [v] ∧ RelD K H m d v := by
  obtain ⟨v, w, rfl, h1, h2⟩ := r
  rw [show w = [] from h2]
  exact ⟨v, rfl, h1⟩
theorem two_of {K : PySem.W.Frag} {H : Hp} {m : Mp} {d e : D} {vs : List V} (r : RelDs K H m [d, e] vs) : ∃ v w, vs = [v, w] ∧ RelD K H m d v ∧ RelD K H m e w := by
  obtain ⟨v, w, rfl, h1, h2⟩ := r
  obtain ⟨u, rfl, h3⟩ := one_of h2
  exact ⟨v, u, rfl, h1, h3⟩
theorem call_bi (hK : X.K = L.K) (hc : X.calm = true) (b : Bi) : CallR X b.py (rC L fun S => dbi S b) := by
  refine CallR.any fun xs H Q h => ?_
  obtain ⟨ds, z, m, S, hs, rx, hz, k⟩ := h
  have fin : ∀ v, RelD L.K H m z v → Q v H := fun v r => k H m v (Ext.refl H m) hs r
  have hz : dbi S b ds = some z := hz
  cases b
  · -- len
    have hz : dLen S ds = some z := hz
    unfold dLen at hz
    split at hz
    · rename_i d
      obtain ⟨v, rfl, r1⟩ := one_of rx
      split at hz
      · rename_i ys q
        cases hz
        obtain ⟨a, vs, rfl, hr, hq⟩ := items_sq hs r1 q
        exact ⟨_, call_len_seq, a, vs, rfl, by rw [hK]; exact hq, fin _ (by rw [hr.length]; rfl)⟩
      · cases hz
    · cases hz
  · -- min
    have hz : dMin S ds = some z := hz
    unfold dMin at hz
    split at hz
    · rename_i d
      obtain ⟨v, rfl, r1⟩ := one_of rx
      unfold dMin1 at hz
      split at hz
      · rename_i ys q
        split at hz
        · rename_i n ns q2
          cases hz
          obtain ⟨a, vs, rfl, hr, hq⟩ := lst_sq hs r1 q
          rw [hr.ofInts q2] at hq
          refine ⟨_, cr_min hc, a, n :: ns, rfl, by rw [hK]; exact hq, by simp, fun y h1 h2 => ?_⟩
          obtain ⟨s1, s2⟩ := least_spec ns n
          have e : y = least ns n := Int.le_antisymm (h2 _ s1) (s2 _ h1)
          rw [e]; exact fin _ rfl
        · cases hz
      · cases hz
    · obtain ⟨v, w, rfl, r1, r2⟩ := two_of rx
      cases hz
      exact ⟨_, call_min2 hc, _, _, by rw [show v = _ from r1, show w = _ from r2], fin _ rfl⟩
    · cases hz
  · -- max
    have hz : dMax S ds = some z := hz
    unfold dMax at hz
    split at hz
    · rename_i d
      obtain ⟨v, rfl, r1⟩ := one_of rx
      unfold dMax1 at hz
      split at hz
      · rename_i ys q
        split at hz
        · rename_i n ns q2
          cases hz
          obtain ⟨a, vs, rfl, hr, hq⟩ := lst_sq hs r1 q
          rw [hr.ofInts q2] at hq
          refine ⟨_, cr_max hc, a, n :: ns, rfl, by rw [hK]; exact hq, by simp, fun y h1 h2 => ?_⟩
          obtain ⟨s1, s2⟩ := most_spec ns n
          have e : y = most ns n := Int.le_antisymm (s2 _ h1) (h2 _ s1)
          rw [e]; exact fin _ rfl
        · cases hz
      · cases hz
    · obtain ⟨v, w, rfl, r1, r2⟩ := two_of rx
      cases hz
      exact ⟨_, call_max2 hc, _, _, by rw [show v = _ from r1, show w = _ from r2], fin _ rfl⟩
    · cases hz
  · -- int
    have hz : dInt ds = some z := hz
    unfold dInt at hz
    split at hz
    · obtain ⟨v, rfl, r1⟩ := one_of rx
      cases hz
      exact ⟨_, call_int1, .inl ⟨_, by rw [show v = _ from r1], fin _ rfl⟩⟩
    · cases hz
  · -- list
    have hz : dList S ds = some z := hz
    unfold dList at hz
    split at hz
    · rename_i d
      obtain ⟨v, rfl, r1⟩ := one_of rx
      split at hz
      · rename_i ys q
        cases hz
        obtain ⟨a, vs, rfl, hr, hq⟩ := items_sq hs r1 q
        refine ⟨_, call_list_of, a, vs, rfl, by rw [hK]; exact hq, fun p hp => ?_⟩
        exact k _ m _ (Ext.new hp) (hs.new hp) ⟨p, _, rfl, LstA.new hs hp, hr.mono (Mono.new hp)⟩
      · cases hz
    · cases hz
  · -- tuple
    have hz : dTuple ds = some z := hz
    unfold dTuple at hz
    split at hz
    · obtain ⟨v, rfl, r1⟩ := one_of rx
      cases hz
      obtain ⟨a, vs, rfl, ha, hr⟩ := id r1
      exact ⟨_, call_tuple_of, a, vs, rfl, .inr ⟨by rw [hK]; exact ha.sq, fin _ r1⟩⟩
    · obtain ⟨v, rfl, r1⟩ := one_of rx
      cases hz
      obtain ⟨a, vs, rfl, ha, hr⟩ := id r1
      refine ⟨_, call_tuple_of, a, vs, rfl, .inl ⟨by rw [hK]; exact ha.sq, fun p hp => ?_⟩⟩
      exact k _ m _ (Ext.new hp) (hs.new hp) ⟨p, _, rfl, TupA.new hs hp, hr.mono (Mono.new hp)⟩
    · cases hz
  · -- all
    have hz : dAll (fun bs => bs.all id) ds = some z := hz
    unfold dAll at hz
    split at hz
    · obtain ⟨v, rfl, r1⟩ := one_of rx
      split at hz
      · rename_i bs q
        cases hz
        obtain ⟨a, vs, rfl, ha, hr⟩ := id r1
        rw [hr.ofBls q] at ha
        exact ⟨_, cr_all hc, a, bs, rfl, by rw [hK]; exact ha.sq, fin _ rfl⟩
      · cases hz
    · cases hz
  · -- any
    have hz : dAll (fun bs => bs.any id) ds = some z := hz
    unfold dAll at hz
    split at hz
    · obtain ⟨v, rfl, r1⟩ := one_of rx
      split at hz
      · rename_i bs q
        cases hz
        obtain ⟨a, vs, rfl, ha, hr⟩ := id r1
        rw [hr.ofBls q] at ha
        exact ⟨_, cr_any hc, a, bs, rfl, by rw [hK]; exact ha.sq, fin _ rfl⟩
      · cases hz
    · cases hz
end
end KF

set_option Elab.async false
set_option linter.all false
set_option maxRecDepth 100000
set_option maxHeartbeats 4000000
/-! KF5: does the resolved syntax say the row's text; expressions -/
namespace KF
open PySem PySem.Spec PyProof.Rows L2
structure Tb where
  fnN : List (Str × Nat)
  exN : List Str
  glN : List Str
  blt : List Str
structure Cc where
  N : List Str
  sc : Scope
  own : Option Scope
  suite : Option Nat
def visB (sc : Scope) (x : Str) : Bool := match sc.names.lookup x with
  | some .local => true
  | some .cell => true
  | some .free => true
  | _ => false
def glB (sc : Scope) (x : Str) : Bool := decide (sc.names.lookup x = some .globalImplicit)
def dunB (x : Str) : Bool := !(x == ("__debug__" : Str)) && !(x == ("__classdict__" : Str))
def bltB (t : Tb) (c : Cc) (x y : Str) : Bool := decide (x = y) && (glB c.sc x && t.blt.contains x)
def calmB (c : Cc) : Bool := c.suite.isNone
def locB (c : Cc) (x : Str) : Bool := match c.sc.names.lookup x with
  | some .local => true
  | some .cell => (match c.own with
    | none => true
    | some s => decide (s.names.lookup x = some .cell))
  | _ => false
def notStar : Expr → Bool
  | .Starred _ _ => false
  | _ => true
def O2.is (o : O2) (p : Operator) : Bool := match o, p with
  | .add, .Add => true | .sub, .Sub => true | .mul, .Mult => true | .fdiv, .FloorDiv => true | .mod, .Mod => true | .pow, .Pow => true
  | _, _ => false
theorem O2.is_eq {o : O2} {p : Operator} (h : o.is p = true) : p = o.py := by cases o <;> cases p <;> first | rfl | cases h
def C2.is (o : C2) (p : CmpOp) : Bool := match o, p with
  | .eq, .Eq => true | .ne, .NotEq => true | .lt, .Lt => true | .le, .LtE => true | .gt, .Gt => true | .ge, .GtE => true | .inn, .In => true | .nin, .NotIn => true
  | _, _ => false
theorem C2.is_eq {o : C2} {p : CmpOp} (h : o.is p = true) : p = o.py := by cases o <;> cases p <;> first | rfl | cases h
def notSet : Expr → Bool
  | .Set _ _ _ => false
  | _ => true
theorem notSet_behind {op : CmpOp} {b : Expr} (h : notSet b = true) : behindInMarks op b = false := by cases b <;> first | rfl | cases h
theorem notSet_fold {b : Expr} (h : notSet b = true) (env : PySem.Env) (x : Value) : foldedSetIterable b env x = pure x := by cases b <;> first | rfl | cases h
def notSlice : Expr → Bool
  | .Slice _ _ _ _ => false
  | _ => true
theorem notSlice_ix {b : Expr} (h : notSlice b = true) : PlainIx b := by cases b <;> first | (intro _ _; rfl) | cases h
theorem star_cons {e : Expr} {es : List Expr} {env : PySem.Env} (h : notStar e = true) : starEach (e :: es) env = (false, eval e env) :: starEach es env := by cases e <;> first | rfl | cases h
theorem star_any {env : PySem.Env} {pos : Pos} : ∀ {es : List Expr}, es.all notStar = true → (backTo pos (starEach es env)).any (·.1) = false
  | [], _ => rfl
  | e :: es, h => by
    rw [List.all_cons, Bool.and_eq_true] at h
    rw [star_cons h.1]
    exact star_any (es := es) h.2
theorem asgE_cons {e : Expr} {es : List Expr} {env : PySem.Env} (h : notStar e = true) : assignEach (e :: es) env = (false, assign e env) :: assignEach es env := by cases e <;> first | rfl | cases h
theorem asgE_len {env : PySem.Env} : ∀ {es : List Expr}, es.all notStar = true → (assignEach es env).length = es.length
  | [], _ => rfl
  | e :: es, h => by
    rw [List.all_cons, Bool.and_eq_true] at h
    rw [asgE_cons h.1, List.length_cons, List.length_cons, asgE_len h.2]
theorem asgE_star {env : PySem.Env} : ∀ {es : List Expr}, es.all notStar = true → (assignEach es env).findIdx? (·.1) = none
  | [], _ => rfl
  | e :: es, h => by
    rw [List.all_cons, Bool.and_eq_true] at h
    rw [asgE_cons h.1, List.findIdx?_cons, asgE_star h.2]
    rfl
/-- a test that isn't taken apart -/
def plainT : Expr → Bool
  | .UnaryOp .Not _ _ => false
  | .BoolOp _ _ _ => false
  | .IfExp _ _ _ _ => false
  | .Compare _ _ _ _ => false
  | _ => true
theorem plainT_ok {e : Expr} {env : PySem.Env} (h : plainT e = true) (whole : Sem Value) : isTrue e env whole = (do let v ← whole; standAt e.pos; holding [v] (truthy v)) := by
  cases e <;> first | rfl | (cases h; done) | skip
  rename_i op a p
  cases op <;> first | rfl | cases h
def Ty.py : Ty → Str
  | .list => "list" | .tuple => "tuple" | .int => "int" | .bool => "bool" | .str => "str" | .dict => "dict"
def Bi.nm : Bi → Str
  | .len => "len" | .min => "min" | .max => "max" | .int => "int" | .list => "list" | .tuple => "tuple" | .all => "all" | .any => "any"
def tysB (t : Tb) (c : Cc) : List Ty → List Expr → Bool
  | [], [] => true
  | y :: ys, .Name x _ :: es => bltB t c x y.py && tysB t c ys es
  | _, _ => false
def isiB (t : Tb) (c : Cc) (ts : List Ty) : Expr → Bool
  | .Name x _ => (match ts with
    | [y] => bltB t c x y.py
    | _ => false)
  | .Tuple es _ _ => decide (ts.length ≤ 100) && tysB t c ts es
  | _ => false
mutual
def chkT (c : Cc) : Tg → Expr → Bool
  | .n i, a => (match a with
    | .Name x _ => decide (c.N[i]? = some x) && locB c x
    | _ => false)
  | .t ts, a => (match a with
    | .Tuple es _ _ => es.all notStar && chkTs c ts es
    | _ => false)
def chkTs (c : Cc) : Tgs → List Expr → Bool
  | .nil, es => es.isEmpty
  | .cons t r, es => (match es with
    | e :: es' => chkT c t e && chkTs c r es'
    | [] => false)
end
def ownOf (c : Cc) (tg : Tg) : List (Str × Nat) := tg.sl.map fun i => (c.N.getD i "", i)
def blkCc (c : Cc) (s : Scope) : Cc := ⟨c.N, relS s c.sc, some s, none⟩
mutual
def chk (t : Tb) : E → Cc → Expr → Bool
  | .v i, c, a => (match a with
    | .Name x _ => decide (c.N[i]? = some x) && (visB c.sc x && dunB x)
    | _ => false)
  | .kn, _, a => (match a with
    | .Constant .none _ _ => true
    | _ => false)
  | .kb b, _, a => (match a with
    | .Constant (.bool b') _ _ => b == b'
    | _ => false)
  | .ki i, _, a => (match a with
    | .Constant (.int j) _ _ => decide (i = j)
    | _ => false)
  | .ks x, _, a => (match a with
    | .Constant (.str y) _ _ => decide (x = y)
    | _ => false)
  | .g k, c, a => (match a with
    | .Name x _ => decide (t.glN[k]? = some x) && (glB c.sc x && dunB x)
    | _ => false)
  | .op o x y, c, a => (match a with
    | .BinOp l p r _ => o.is p && (chk t x c l && chk t y c r)
    | _ => false)
  | .neg x, c, a => (match a with
    | .UnaryOp .USub l _ => chk t x c l
    | _ => false)
  | .cmp o x y, c, a => (match a with
    | .Compare l [p] [r] _ => o.is p && (notSet r && (chk t x c l && chk t y c r))
    | _ => false)
  | .isn ng x, c, a => (match a with
    | .Compare l [p] [.Constant .none _ _] _ => decide (p = if ng = true then .IsNot else .Is) && chk t x c l
    | _ => false)
  | .and x y, c, a => (match a with
    | .BoolOp .And [l, r] _ => chk t x c l && chk t y c r
    | .BoolOp .And (l :: r :: r2 :: rs) pos => chk t x c l && chk t y c (.BoolOp .And (r :: r2 :: rs) pos)
    | _ => false)
  | .or x y, c, a => (match a with
    | .BoolOp .Or [l, r] _ => chk t x c l && chk t y c r
    | .BoolOp .Or (l :: r :: r2 :: rs) pos => chk t x c l && chk t y c (.BoolOp .Or (r :: r2 :: rs) pos)
    | _ => false)
  | .not x, c, a => (match a with
    | .UnaryOp .Not l _ => chk t x c l
    | _ => false)
  | .ite x y z, c, a => (match a with
    | .IfExp l m r _ => chk t x c l && (chk t y c m && chk t z c r)
    | _ => false)
  | .call f as, c, a => (match a with
    | .Call (.Name x _) (e :: es) [] _ => calmB c && (decide (t.fnN[f]? = some (x, (e :: es).length)) && (glB c.sc x && (dunB x && ((e :: es).all notStar && chks t as c (e :: es)))))
    | _ => false)
  | .bi b as, c, a => (match a with
    | .Call (.Name x _) (e :: es) [] _ => calmB c && (bltB t c x b.nm && ((e :: es).all notStar && chks t as c (e :: es)))
    | _ => false)
  | .isi x ts, c, a => (match a with
    | .Call (.Name f _) [e, y] [] _ => bltB t c f "isinstance" && (notStar e && (chk t x c e && isiB t c ts y))
    | _ => false)
  | .tup as, c, a => (match a with
    | .Tuple es _ _ => es.all notStar && chks t as c es
    | _ => false)
  | .lst _ as, c, a => (match a with
    | .List es _ => es.all notStar && chks t as c es
    | _ => false)
  | .ix x y, c, a => (match a with
    | .Subscript l r _ => notSlice r && (chk t x c l && chk t y c r)
    | _ => false)
  | .fx i f, c, a => (match a with
    | .Attribute (.Name x _) g _ => decide (f = g) && (decide (c.suite = some i) && (decide (c.N[i]? = some x) && (visB c.sc x && dunB x)))
    | _ => false)
  | .lc _ e tg it cs, c, a => (match a with
    | .ListComp elt [⟨tgt, iter, ifs, k⟩] s _ => calmB c && (decide (k = 0) && (notSet iter && (blkC c.N c.sc s (ownOf c tg) && (chkI t it c iter && (chkT (blkCc c s) tg tgt && (chkC t cs (blkCc c s) ifs && chk t e (blkCc c s) elt))))))
    | _ => false)
  | .lrng x, c, a => (match a with
    | .Call (.Name l _) [.Call (.Name r _) [e] [] _] [] _ => calmB c && (bltB t c l "list" && (bltB t c r "range" && (notStar e && chk t x c e)))
    | _ => false)
def chks (t : Tb) : Es → Cc → List Expr → Bool
  | .nil, _, es => es.isEmpty
  | .cons e r, c, es => (match es with
    | a :: as => chk t e c a && chks t r c as
    | [] => false)
def chkI (t : Tb) : It → Cc → Expr → Bool
  | .val e, c, a => chk t e c a
  | .rng e, c, a => (match a with
    | .Call (.Name r _) [x] [] _ => bltB t c r "range" && (notStar x && chk t e c x)
    | _ => false)
def chkC (t : Tb) : Cs → Cc → List Expr → Bool
  | .no, _, es => es.isEmpty
  | .one e, c, es => (match es with
    | [a] => chk t e c a
    | _ => false)
end
end KF

set_option Elab.async false
set_option linter.all false
set_option maxRecDepth 100000
set_option maxHeartbeats 4000000
/-! KF6: soundness, the simple expressions -/
namespace KF
open PySem PySem.Spec PyProof.Rows L2
/-- a def's promise: what the evaluation gives -/
def spC (L : Lk) (n : Nat) (g : List D → Store → R D) : Sp := fun vs H Q E => vs.length = n ∧ ∃ ds S m, m.T = L.T ∧ RelS L.K H m S ∧ RelDs L.K H m ds vs ∧ Cont L (fun cls d _ H => E cls d H) [] (RelD L.K) Q H m (g ds S)
theorem Cont.toE {L : Lk} {W : WX} {σ : L2.St} {Q : VK} {H : Hp} {m : Mp} : ∀ {r : R D}, Cont L W σ (RelD L.K) Q H m r → Cont L (fun cls d _ H => WE W σ cls d H) [] (RelD L.K) Q H m r
  | .ok _ _, h => h
  | .exc _ _ _, h => h
  | .bad, h => h
/-- the exception that a suite holds -/
def ZX (L : Lk) (i : Nat) (a dd : Addr) (k : Nat) (fs : List D) : ZP := fun σ H m => σ[i]? = some (some (.ref a)) ∧ ∃ vs, H dd = some (.xd ((L.ef k).zip vs).reverse) ∧ dd ∉ m.locs ∧ dd ∉ m.pr ∧ RelDs L.K H m fs vs
theorem ZX.mono {L : Lk} {i : Nat} {a dd : Addr} {k : Nat} {fs : List D} : ZMono (ZX L i a dd k fs) := by
  rintro σ H m H' m' e ⟨h1, vs, h2, h3, h4, h5⟩
  refine ⟨h1, vs, e.keep dd _ h2 h3 h4 (fun ps z => nomatch z), fun z => ?_, fun z => ?_, h5.mono e⟩
  · rcases e.newl dd z with z | z | z
    · exact h3 z
    · exact h4 z
    · rw [h2] at z; cases z
  · rcases e.newp dd z with z | z
    · exact h4 z
    · rw [h2] at z; cases z
structure Good (t : Tb) (L : Lk) (g : Cfg) (W : WX) (Z : ZP) (X : Cx) (c : Cc) : Prop where
  K : X.K = L.K
  N : X.N = c.N
  nd : c.N.Nodup
  sc : X.env.scope = c.sc
  fn : ∀ x, (match c.own with | none => True | some s => s.names.lookup x = some .cell) → X.fn x = true
  un : X.A.units + 64 < cLine
  free : ∀ x ∈ t.blt, X.mg x = none
  glob : ∀ k x d, t.glN[k]? = some x → g.glob k = some d → ∃ v u, X.mg x = some u ∧ RelV v u ∧ ∀ H m, RelD L.K H m d v
  tk : Takes X W
  po : PassesOwn (model X.prog X.w) X.A X.env X.xe
  ef : g.ef = L.ef
  zm : ZMono Z
  calm : c.suite = none → X.calm = true
  zt : c.suite = none → ∀ σ H m, Z σ H m
  call : c.suite = none → ∀ f x n, t.fnN[f]? = some (x, n) → ∃ (a : Addr) (fd : FuncData) (ps : List Str) (k : Nat), X.mg x = some (.ref a) ∧ PySem.W.keepIn X.K (.ref a) = true ∧ Binds X.K fd ps [] ∧ ps.length = n ∧ Room k X.A ∧
    FnOk X.prog X.w X.K X.mg X.base (L2.CX X.prog X.w) k a fd ps (spC L n (g.call f))
  suite : ∀ i, c.suite = some i → ∃ (a : Addr) (oe : Obj) (k : Nat) (fs : List D) (dd : Addr) (pn : List (Addr × Obj)) (X0 : Cx), X = X0.suite a ((a, oe) :: pn) ∧ Zc (.ref (L.ea k)) (some dd) oe ∧ (∃ vs, oe.data = .fields vs) ∧ g.cur = some (k, fs) ∧ XfC L.K (L.ea k) ∧
    (∀ f ∈ L.ef k, PySem.W.findIn L.K (.ref (L.ea k)) f = some none) ∧ Z = ZX L i a dd k fs
section
variable {t : Tb} {L : Lk} {g : Cfg} {W : WX} {Z : ZP} {X : Cx} {c : Cc} {a b : Expr}
abbrev Ev := KF.Env → Store → R D
/-- as a value | as a test -/
def SE (t : Tb) (L : Lk) (g : Cfg) (X : Cx) (W : WX) (Z : ZP) (a : Expr) (f : Ev) : Prop := PE X a (tD L W Z f)
def ST (t : Tb) (L : Lk) (g : Cfg) (X : Cx) (W : WX) (Z : ZP) (a : Expr) (f : Ev) : Prop := PT X a (tBb L W Z fun env S => (f env S).bind asB)
theorem R.bind_assoc {α β γ : Type} (r : R α) (f : α → Store → R β) (h : β → Store → R γ) : (r.bind f).bind h = r.bind fun x S => (f x S).bind h := by
  cases r <;> rfl
theorem Cont.here {L : Lk} {W : WX} {σ : L2.St} {α β : Type} {Rl : Hp → Mp → α → β → Prop} {Q : β → Hp → Prop} {H : Hp} {m : Mp} {d : α} {S : Store} {v : β} (h : Cont L W σ Rl Q H m (.ok d S)) (s : RelS L.K H m S) (r : Rl H m d v) : Q v H := h H m v (Ext.refl H m) s r
/-- a value that is a truth, as a test -/
theorem test_of (zm : ZMono Z) {f : Ev} (h : PE X a (tD L W Z f)) (hp : plainT a = true) : PT X a (tBb L W Z fun env S => (f env S).bind asB) := by
  refine (pt_val h (plainT_ok hp)).imp fun σ H Q w => ?_
  refine (tE.seq (Rl := RelD L.K) zm (g := fun env d S1 => asB d S1) w).imp fun v H1 ⟨env, S1, m1, d, he, hs, r, k⟩ => ?_
  cases d with
  | bl b =>
    have r : v = .bl b := r
    exact ⟨b, r, k.here hs rfl⟩
  | _ => exact k.elim
theorem e_name (G : Good t L g W Z X c) {i : Nat} (h : chk t (.v i) c a = true) : PE X a (tD L W Z fun env S => ev g (.v i) env S) := by
  unfold chk at h
  split at h
  · rename_i x p
    simp only [Bool.and_eq_true, decide_eq_true_eq] at h
    obtain ⟨h1, h2, h3⟩ := h
    unfold dunB at h3
    simp only [Bool.and_eq_true, Bool.not_eq_true'] at h3
    have hv : Vis X.env.scope x := by
      rw [G.sc]
      unfold visB at h2
      split at h2
      · exact .inl (by assumption)
      · exact .inr (.inl (by assumption))
      · exact .inr (.inr (by assumption))
      · cases h2
    refine (pe_var (i := i) (by rw [G.N]; exact h1) hv h3.1 h3.2).imp fun σ H Q ⟨env, S, m, he, hs, k⟩ => ?_
    have k : Cont L W σ (RelD L.K) Q H m (lift ((env[i]?).join) S) := k
    cases q : env[i]? with
    | none => rw [q] at k; exact k.elim
    | some o =>
      cases o with
      | none => rw [q] at k; exact k.elim
      | some d =>
        rw [q] at k
        obtain ⟨v, e1, r⟩ := he.2.1 i d q
        exact ⟨v, e1, k.here hs r⟩
  · cases h
/-- a constant -/
theorem e_const (h : PE X a (tC v)) {d : D} (r : ∀ H m, RelD L.K H m d v) : PE X a (tD L W Z fun _ S => .ok d S) :=
  h.imp fun σ H Q ⟨env, S, m, he, hs, k⟩ => k.here hs (r H m)
theorem e_glob (G : Good t L g W Z X c) {i : Nat} (h : chk t (.g i) c a = true) : PE X a (tD L W Z fun env S => ev g (.g i) env S) := by
  unfold chk at h
  split at h
  · rename_i x p
    simp only [Bool.and_eq_true, decide_eq_true_eq] at h
    obtain ⟨h1, h2, h3⟩ := h
    unfold dunB at h3
    simp only [Bool.and_eq_true, Bool.not_eq_true'] at h3
    unfold glB at h2
    have hg : Gl X x := by
      show X.env.scope.names.lookup x = _
      rw [G.sc]; exact of_decide_eq_true h2
    cases q : g.glob i with
    | none =>
      refine ⟨fun pins s σ H Q I w => ?_⟩
      obtain ⟨env, S, m, he, hs, k⟩ := w
      have k : Cont L W σ (RelD L.K) Q H m (lift (g.glob i) S) := k
      rw [q] at k
      exact k.elim
    | some d =>
      obtain ⟨v, u, e1, e2, e3⟩ := G.glob i x d h1 q
      refine (pe_glob hg e1 e2 h3.1).imp fun σ H Q ⟨env, S, m, he, hs, k⟩ => ?_
      have k : Cont L W σ (RelD L.K) Q H m (lift (g.glob i) S) := k
      rw [q] at k
      exact k.here hs (e3 H m)
  · cases h
/-- what is raised isn't: by a def that lets nothing out -/
theorem e_op (G : Good t L g W Z X c) {o : O2} {fa fb : Ev} {p : Pos} (ha : PE X a (tD L W Z fa)) (hb : PE X b (tD L W Z fb)) :
    PE X (.BinOp a o.py b p) (tD L W Z fun env S => (fa env S).bind fun x S1 => (fb env S1).bind fun y S2 => lift (dop o x y) S2) := by
  refine (pe_op (op_all (L := L) o) ha hb).imp fun σ H Q w => ?_
  refine (tE.seq (Rl := RelD L.K) G.zm (g := fun env x S1 => (fb env S1).bind fun y S2 => lift (dop o x y) S2) w).imp fun v H1 ⟨env, S1, m1, d, he, hs, r, k⟩ => ?_
  refine ⟨env, S1, m1, he, hs, k.bind.imp fun v2 H2 ⟨m2, d2, S2, e2, s2, r2, k2⟩ => ?_⟩
  cases q : dop o d d2 with
  | none => rw [q] at k2; exact k2.elim
  | some z =>
    rw [q] at k2
    exact ⟨d, d2, z, m2, S2, s2, r.mono e2.mono, r2, q, k2⟩
theorem e_neg (G : Good t L g W Z X c) {fa : Ev} {p : Pos} (ha : PE X a (tD L W Z fa)) :
    PE X (.UnaryOp .USub a p) (tD L W Z fun env S => (fa env S).bind fun x S1 => lift (x.isInt.map fun i => D.int (-i)) S1) := by
  refine (pe_un un_neg ha).imp fun σ H Q w => ?_
  refine (tE.seq (Rl := RelD L.K) G.zm (g := fun env x S1 => lift (x.isInt.map fun i => D.int (-i)) S1) w).imp fun v H1 ⟨env, S1, m1, d, he, hs, r, k⟩ => ?_
  cases d <;> first | (exact ⟨_, r, k.here hs rfl⟩) | exact k.elim
theorem e_cmpR (G : Good t L g W Z X c) {o : C2} {fa fb : Ev} {Q : VK} {σ : L2.St} {H : Hp} (w : tD L W Z (fun env S => (fa env S).bind fun x S1 => (fb env S1).bind fun y S2 => lift (dcmp S2 o x y) S2) σ H Q) :
    tOp (rO L fun S => dcmp S o) (tD L W Z fa) (tD L W Z fb) σ H Q := by
  refine (tE.seq (Rl := RelD L.K) G.zm (g := fun env x S1 => (fb env S1).bind fun y S2 => lift (dcmp S2 o x y) S2) w).imp fun v H1 ⟨env, S1, m1, d, he, hs, r, k⟩ => ?_
  refine ⟨env, S1, m1, he, hs, k.bind.imp fun v2 H2 ⟨m2, d2, S2, e2, s2, r2, k2⟩ => ?_⟩
  cases q : dcmp S2 o d d2 with
  | none => rw [q] at k2; exact k2.elim
  | some z =>
    rw [q] at k2
    exact ⟨d, d2, z, m2, S2, s2, r.mono e2.mono, r2, q, k2⟩
theorem tb_of (zm : ZMono Z) {f : Ev} {σ : L2.St} {H : Hp} {Q : Bool → Hp → Prop} (w : tBb L W Z (fun env S => (f env S).bind asB) σ H Q) : tD L W Z f σ H fun x H1 => ∃ k, x = .bl k ∧ Q k H1 := by
  refine (tE.seq (Rl := RelD L.K) zm (g := fun env d S1 => asB d S1) w).imp fun v H1 ⟨env, S1, m1, d, he, hs, r, k⟩ => ?_
  cases d with
  | bl b =>
    have r : v = .bl b := r
    exact ⟨b, r, k.here hs rfl⟩
  | _ => exact k.elim
theorem e_cmp (G : Good t L g W Z X c) {o : C2} {fa fb : Ev} {p : Pos} (ha : PE X a (tD L W Z fa)) (hb : PE X b (tD L W Z fb)) (hn : notSet b = true) :
    PE X (.Compare a [o.py] [b] p) (tD L W Z fun env S => (fa env S).bind fun x S1 => (fb env S1).bind fun y S2 => lift (dcmp S2 o x y) S2) ∧
    PT X (.Compare a [o.py] [b] p) (tBb L W Z fun env S => ((fa env S).bind fun x S1 => (fb env S1).bind fun y S2 => lift (dcmp S2 o x y) S2).bind asB) :=
  ⟨(pe_cmpR (op_cmpAll (L := L) G.K G.un o) ha hb (notSet_behind hn)).imp fun σ H Q w => e_cmpR G w,
   (pt_cmpR (op_cmpAll (L := L) G.K G.un o) ha hb (notSet_behind hn)).imp fun σ H Q w => e_cmpR G (tb_of G.zm w)⟩
theorem e_isR (G : Good t L g W Z X c) {ng : Bool} {fa : Ev} {Q : VK} {σ : L2.St} {H : Hp} (w : tD L W Z (fun env S => (fa env S).bind fun x S1 => R.ok (D.bl (isnB ng x)) S1) σ H Q) :
    tOp (rIs L ng) (tD L W Z fa) (tC .non) σ H Q := by
  refine (tE.seq (Rl := RelD L.K) G.zm (g := fun env x S1 => R.ok (D.bl (isnB ng x)) S1) w).imp fun v H1 ⟨env, S1, m1, d, he, hs, r, k⟩ => ?_
  exact ⟨d, m1, S1, hs, r, rfl, k⟩
theorem e_is (G : Good t L g W Z X c) {ng : Bool} {fa : Ev} {p p2 : Pos} {j : Nat} (ha : PE X a (tD L W Z fa)) :
    PE X (.Compare a [if ng = true then .IsNot else .Is] [.Constant .none j p2] p) (tD L W Z fun env S => (fa env S).bind fun x S1 => R.ok (D.bl (isnB ng x)) S1) ∧
    PT X (.Compare a [if ng = true then .IsNot else .Is] [.Constant .none j p2] p) (tBb L W Z fun env S => ((fa env S).bind fun x S1 => R.ok (D.bl (isnB ng x)) S1).bind asB) :=
  ⟨(pe_cmpR (op_isAll (L := L) ng) ha pe_non rfl).imp fun σ H Q w => e_isR G w,
   (pt_cmpR (op_isAll (L := L) ng) ha pe_non rfl).imp fun σ H Q w => e_isR G (tb_of G.zm w)⟩
theorem e_ix (G : Good t L g W Z X c) {fa fb : Ev} {p : Pos} (ha : PE X a (tD L W Z fa)) (hb : PE X b (tD L W Z fb)) (hn : notSlice b = true) :
    PE X (.Subscript a b p) (tD L W Z fun env S => (fa env S).bind fun x S1 => (fb env S1).bind fun y S2 => lift (dix S2 x y) S2) := by
  refine (pe_ix (ix_all (L := L) G.K) ha hb (notSlice_ix hn)).imp fun σ H Q w => ?_
  refine (tE.seq (Rl := RelD L.K) G.zm (g := fun env x S1 => (fb env S1).bind fun y S2 => lift (dix S2 x y) S2) w).imp fun v H1 ⟨env, S1, m1, d, he, hs, r, k⟩ => ?_
  refine ⟨env, S1, m1, he, hs, k.bind.imp fun v2 H2 ⟨m2, d2, S2, e2, s2, r2, k2⟩ => ?_⟩
  cases q : dix S2 d d2 with
  | none => rw [q] at k2; exact k2.elim
  | some z =>
    rw [q] at k2
    exact ⟨d, d2, z, m2, S2, s2, r.mono e2.mono, r2, q, k2⟩
/-! ### and, or, not, if else -/
theorem e_not (G : Good t L g W Z X c) {fa : Ev} {p : Pos} (hv : PE X a (tD L W Z fa)) (ht : PT X a (tBb L W Z fun env S => (fa env S).bind asB)) :
    PE X (.UnaryOp .Not a p) (tD L W Z fun env S => ((fa env S).bind asB).bind fun x S1 => R.ok (D.bl (!x)) S1) ∧
    PT X (.UnaryOp .Not a p) (tBb L W Z fun env S => (((fa env S).bind asB).bind fun x S1 => R.ok (D.bl (!x)) S1).bind asB) := by
  refine ⟨(pe_not hv).imp fun σ H Q w => ?_, (pt_not ht).imp fun σ H Q w => ?_⟩
  · refine tb_of G.zm ?_
    exact (tE.seq (Rl := fun _ _ (d : Bool) b => d = b) G.zm (g := fun env x S1 => R.ok (D.bl (!x)) S1) w).imp fun v H1 ⟨env, S1, m1, d, he, hs, r, k⟩ => k.here hs (by rw [r]; rfl)
  · simp only [R.bind_assoc] at w ⊢
    have w' : tBb L W Z (fun env S => ((fa env S).bind asB).bind fun x S1 => R.ok (!x) S1) σ H Q := by
      simp only [R.bind_assoc]
      exact w
    exact (tE.seq (Rl := fun _ _ (d : Bool) b => d = b) G.zm (g := fun env x S1 => R.ok (!x) S1) w').imp fun v H1 ⟨env, S1, m1, d, he, hs, r, k⟩ => k.here hs (by rw [r])
end
end KF

set_option Elab.async false
set_option linter.all false
set_option maxRecDepth 100000
set_option maxHeartbeats 4000000
/-! KF7: soundness: and, or, if else, calls, displays -/
namespace KF
open PySem PySem.Spec PyProof.Rows L2
section
variable {t : Tb} {L : Lk} {g : Cfg} {W : WX} {Z : ZP} {X : Cx} {c : Cc} {a b : Expr}
/-- a test's reading, then the rest -/
theorem tb_seq (zm : ZMono Z) {γ δ : Type} {Rl2 : Hp → Mp → γ → δ → Prop} {f : Ev} {k : KF.Env → Bool → Store → R γ} {σ : L2.St} {H : Hp} {Q : δ → Hp → Prop} (w : tE L W Z Rl2 (fun env S => ((f env S).bind asB).bind fun x S1 => k env x S1) σ H Q) :
    tBb L W Z (fun env S => (f env S).bind asB) σ H fun b H1 => tE L W Z Rl2 (fun env S => k env b S) σ H1 Q := by
  refine (tE.seq (Rl := fun _ _ (d : Bool) b => d = b) zm (g := fun env x S1 => k env x S1) w).imp fun v H1 ⟨env, S1, m1, d, he, hs, r, q⟩ => ?_
  have r : d = v := r
  subst r
  exact ⟨env, S1, m1, he, hs, q⟩
theorem te_ok {γ δ : Type} {Rl2 : Hp → Mp → γ → δ → Prop} {x : γ} {v : δ} {σ : L2.St} {H : Hp} {Q : δ → Hp → Prop} (h : tE L W Z Rl2 (fun _ S => .ok x S) σ H Q) (r : ∀ H m, Rl2 H m x v) : Q v H := by
  obtain ⟨env, S, m, he, hs, k⟩ := h
  exact k.here hs (r H m)
theorem te_if {γ δ : Type} {Rl2 : Hp → Mp → γ → δ → Prop} {f1 f2 : KF.Env → Store → R γ} {x : Bool} {σ : L2.St} {H : Hp} {Q : δ → Hp → Prop} (h : tE L W Z Rl2 (fun env S => if x = true then f1 env S else f2 env S) σ H Q) :
    if x = true then tE L W Z Rl2 f1 σ H Q else tE L W Z Rl2 f2 σ H Q := by
  cases x with
  | true => rw [if_pos rfl]; exact h
  | false => rw [if_neg Bool.false_ne_true]; exact h
theorem if_imp {x : Bool} {A B C D : Prop} (h : if x = true then A else B) (k1 : A → C) (k2 : B → D) : if x = true then C else D := by
  cases x with
  | true => exact k1 h
  | false => exact k2 h
theorem e_and (G : Good t L g W Z X c) {fa fb : Ev} {e : Expr} {es : List Expr} {p : Pos} (hv : PE X a (tD L W Z fa)) (ht : PT X a (tBb L W Z fun env S => (fa env S).bind asB)) (hv2 : PE X (.BoolOp .And (e :: es) p) (tD L W Z fb)) (ht2 : PW X (.BoolOp .And (e :: es) p) (tBb L W Z fun env S => (fb env S).bind asB)) :
    PE X (.BoolOp .And (a :: e :: es) p) (tD L W Z fun env S => ((fa env S).bind asB).bind fun x S1 => if x = true then fb env S1 else .ok (.bl false) S1) ∧
    PW X (.BoolOp .And (a :: e :: es) p) (tBb L W Z fun env S => (((fa env S).bind asB).bind fun x S1 => if x = true then fb env S1 else .ok (.bl false) S1).bind asB) := by
  refine ⟨(pe_and hv hv2).imp fun σ H Q w => ?_, (pw_and ht ht2).imp fun σ H Q w => ?_⟩
  · refine tb_of G.zm ?_
    refine (tb_seq G.zm w).imp fun b H1 w1 => ?_
    exact if_imp (te_if w1) id fun w2 => te_ok w2 fun _ _ => rfl
  · have w' : tBb L W Z (fun env S => ((fa env S).bind asB).bind fun x S1 => if x = true then (fb env S1).bind asB else .ok false S1) σ H Q := by
      have e : (fun env S => (((fa env S).bind asB).bind fun x S1 => if x = true then fb env S1 else R.ok (D.bl false) S1).bind asB) = (fun env S => ((fa env S).bind asB).bind fun x S1 => if x = true then (fb env S1).bind asB else R.ok false S1) := by
        funext env S
        rw [R.bind_assoc]
        congr 1
        funext x S1
        cases x <;> rfl
      rw [e] at w
      exact w
    refine (tb_seq G.zm w').imp fun b H1 w1 => ?_
    exact if_imp (te_if w1) id fun w2 => te_ok w2 fun _ _ => rfl
theorem e_or (G : Good t L g W Z X c) {fa fb : Ev} {e : Expr} {es : List Expr} {p : Pos} (hv : PE X a (tD L W Z fa)) (ht : PT X a (tBb L W Z fun env S => (fa env S).bind asB)) (hv2 : PE X (.BoolOp .Or (e :: es) p) (tD L W Z fb)) (ht2 : PW X (.BoolOp .Or (e :: es) p) (tBb L W Z fun env S => (fb env S).bind asB)) :
    PE X (.BoolOp .Or (a :: e :: es) p) (tD L W Z fun env S => ((fa env S).bind asB).bind fun x S1 => if x = true then .ok (.bl true) S1 else fb env S1) ∧
    PW X (.BoolOp .Or (a :: e :: es) p) (tBb L W Z fun env S => (((fa env S).bind asB).bind fun x S1 => if x = true then .ok (.bl true) S1 else fb env S1).bind asB) := by
  refine ⟨(pe_or hv hv2).imp fun σ H Q w => ?_, (pw_or ht ht2).imp fun σ H Q w => ?_⟩
  · refine tb_of G.zm ?_
    refine (tb_seq G.zm w).imp fun b H1 w1 => ?_
    exact if_imp (te_if w1) (fun w2 => te_ok w2 fun _ _ => rfl) id
  · have w' : tBb L W Z (fun env S => ((fa env S).bind asB).bind fun x S1 => if x = true then .ok true S1 else (fb env S1).bind asB) σ H Q := by
      have e : (fun env S => (((fa env S).bind asB).bind fun x S1 => if x = true then R.ok (D.bl true) S1 else fb env S1).bind asB) = (fun env S => ((fa env S).bind asB).bind fun x S1 => if x = true then R.ok true S1 else (fb env S1).bind asB) := by
        funext env S
        rw [R.bind_assoc]
        congr 1
        funext x S1
        cases x <;> rfl
      rw [e] at w
      exact w
    refine (tb_seq G.zm w').imp fun b H1 w1 => ?_
    exact if_imp (te_if w1) (fun w2 => te_ok w2 fun _ _ => rfl) id
/-- .. of one operand more -/
theorem e_one (hv : PE X a (tD L W Z f)) (ht : PT X a (tBb L W Z fun env S => (f env S).bind asB)) {p : Pos} :
    (PE X (.BoolOp .And [a] p) (tD L W Z f) ∧ PW X (.BoolOp .And [a] p) (tBb L W Z fun env S => (f env S).bind asB)) ∧ (PE X (.BoolOp .Or [a] p) (tD L W Z f) ∧ PW X (.BoolOp .Or [a] p) (tBb L W Z fun env S => (f env S).bind asB)) :=
  ⟨⟨pe_one hv, pw_and1 ht⟩, ⟨pe_one hv, pw_or1 ht⟩⟩
theorem pt_ifExp {c : Expr} {tc ta tb : TT} {p : Pos} (hc : PT X c tc) (ha : PT X a ta) (hb : PT X b tb) : PT X (.IfExp c a b p) (fun σ H Q => tc σ H fun x H1 => if x = true then ta σ H1 Q else tb σ H1 Q) := by
  refine ⟨fun pins s σ H Q I h => ?_⟩
  refine isTrue_IfExp (thn (hc.run pins s σ H _ I h) fun d s1 ⟨H1, I1, q1⟩ => ?_)
  cases d with
  | true => exact ha.run pins s1 σ H1 Q I1 q1
  | false => exact hb.run pins s1 σ H1 Q I1 q1
theorem e_ite (G : Good t L g W Z X c) {fc fa fb : Ev} {q : Expr} {p : Pos} (hc : PT X q (tBb L W Z fun env S => (fc env S).bind asB)) (hv : PE X a (tD L W Z fa)) (ht : PT X a (tBb L W Z fun env S => (fa env S).bind asB)) (hv2 : PE X b (tD L W Z fb)) (ht2 : PT X b (tBb L W Z fun env S => (fb env S).bind asB)) :
    PE X (.IfExp q a b p) (tD L W Z fun env S => ((fc env S).bind asB).bind fun x S1 => if x = true then fa env S1 else fb env S1) ∧
    PT X (.IfExp q a b p) (tBb L W Z fun env S => (((fc env S).bind asB).bind fun x S1 => if x = true then fa env S1 else fb env S1).bind asB) := by
  refine ⟨(pe_ifExp hc hv hv2).imp fun σ H Q w => ?_, (pt_ifExp hc ht ht2).imp fun σ H Q w => ?_⟩
  · exact (tb_seq G.zm w).imp fun b H1 w1 => te_if w1
  · have w' : tBb L W Z (fun env S => ((fc env S).bind asB).bind fun x S1 => if x = true then (fa env S1).bind asB else (fb env S1).bind asB) σ H Q := by
      have e : (fun env S => (((fc env S).bind asB).bind fun x S1 => if x = true then fa env S1 else fb env S1).bind asB) = (fun env S => ((fc env S).bind asB).bind fun x S1 => if x = true then (fa env S1).bind asB else (fb env S1).bind asB) := by
        funext env S
        rw [R.bind_assoc]
        congr 1
        funext x S1
        cases x <;> rfl
      rw [e] at w
      exact w
    exact (tb_seq G.zm w').imp fun b H1 w1 => te_if w1
/-! ### arguments -/
theorem a_nil : PA X [] (tDs L W Z fun _ S => .ok [] S) := pa_nil.imp fun σ H Q h => te_ok h fun _ _ => rfl
theorem a_cons (G : Good t L g W Z X c) {f : Ev} {fs : KF.Env → Store → R (List D)} {e : Expr} {es : List Expr} (hn : notStar e = true) (he : PE X e (tD L W Z f)) (hr : PA X es (tDs L W Z fs)) :
    PA X (e :: es) (tDs L W Z fun env S => (f env S).bind fun x S1 => (fs env S1).bind fun xs S2 => .ok (x :: xs) S2) := by
  refine (pa_cons he hr (star_cons hn)).imp fun σ H Q w => ?_
  refine (tE.seq (Rl := RelD L.K) G.zm (g := fun env x S1 => (fs env S1).bind fun xs S2 => R.ok (x :: xs) S2) w).imp fun v H1 ⟨env, S1, m1, d, he, hs, r, k⟩ => ?_
  refine ⟨env, S1, m1, he, hs, k.bind.imp fun vs H2 ⟨m2, ds, S2, e2, s2, r2, k2⟩ => ?_⟩
  exact k2.here s2 ⟨v, vs, rfl, r.mono e2.mono, r2⟩
theorem e_tup (G : Good t L g W Z X c) {fs : KF.Env → Store → R (List D)} {es : List Expr} {k : Nat} {p : Pos} (h : PA X es (tDs L W Z fs)) :
    PE X (.Tuple es k p) (tD L W Z fun env S => (fs env S).bind fun ds S1 => if ds.length ≤ sizeLine then .ok (.tup ds) S1 else .bad) := by
  refine (pe_tup h).imp fun σ H Q w => ?_
  refine (tE.seq (Rl := RelDs L.K) G.zm (g := fun env ds S1 => if ds.length ≤ sizeLine then R.ok (D.tup ds) S1 else R.bad) w).imp fun vs H1 ⟨env, S1, m1, ds, he, hs, r, k⟩ => ?_
  by_cases hl : ds.length ≤ sizeLine
  · rw [if_pos hl] at k
    refine ⟨by rw [r.length]; exact hl, fun p hp => ?_⟩
    exact k _ m1 _ (Ext.new hp) (hs.new hp) ⟨p, _, rfl, TupA.new hs hp, RelDs.mono (Mono.new hp) _ _ r⟩
  · rw [if_neg hl] at k
    exact k.elim
theorem e_lst (G : Good t L g W Z X c) {fz : Bool} {fs : KF.Env → Store → R (List D)} {es : List Expr} {p : Pos} (h : PA X es (tDs L W Z fs)) :
    PE X (.List es p) (tD L W Z fun env S => (fs env S).bind fun ds S1 => finL fz ds S1) := by
  refine (pe_lst h).imp fun σ H Q w => ?_
  refine (tE.seq (Rl := RelDs L.K) G.zm (g := fun env ds S1 => finL fz ds S1) w).imp fun vs H1 ⟨env, S1, m1, ds, he, hs, r, k⟩ => ?_
  unfold finL at k
  by_cases hl : ds.length ≤ sizeLine
  · rw [if_pos hl] at k
    refine ⟨by rw [r.length]; exact hl, fun p hp => ?_⟩
    cases fz with
    | true =>
      rw [if_pos rfl] at k
      exact k _ m1 _ (Ext.new hp) (hs.new hp) ⟨p, _, rfl, LstA.new hs hp, RelDs.mono (Mono.new hp) _ _ r⟩
    | false =>
      rw [if_neg Bool.false_ne_true] at k
      refine k _ (m1.push p) _ (Ext.push hp) (hs.push hp r) ⟨p, rfl, ?_⟩
      show (m1.locs ++ [p])[S1.length]? = _
      rw [List.getElem?_append_right (by rw [hs.len]; exact Nat.le_refl _)]
      simp [hs.len]
  · rw [if_neg hl] at k
    exact k.elim
/-! ### calls -/
theorem gl_of (G : Good t L g W Z X c) {x : Str} (h : glB c.sc x = true) : Gl X x := by
  show X.env.scope.names.lookup x = _
  rw [G.sc]
  exact of_decide_eq_true h
theorem blt_of (G : Good t L g W Z X c) {x y : Str} (h : bltB t c x y = true) : x = y ∧ Gl X y ∧ X.mg y = none := by
  unfold bltB at h
  simp only [Bool.and_eq_true, decide_eq_true_eq] at h
  obtain ⟨rfl, h2, h3⟩ := h
  exact ⟨rfl, gl_of G h2, G.free x (by simpa using h3)⟩
theorem calm_of {c : Cc} (h : calmB c = true) : c.suite = none := by
  unfold calmB at h
  cases q : c.suite with
  | none => rfl
  | some i => rw [q] at h; cases h
theorem e_call (G : Good t L g W Z X c) {f : Nat} {fs : KF.Env → Store → R (List D)} {x : Str} {e : Expr} {es : List Expr} {p p2 : Pos} (hc : calmB c = true) (hf : t.fnN[f]? = some (x, (e :: es).length)) (hg : glB c.sc x = true) (hd : dunB x = true) (hn : (e :: es).all notStar = true)
    (hl : ∀ env S ds S1, fs env S = .ok ds S1 → ds.length = (e :: es).length) (ha : PA X (e :: es) (tDs L W Z fs)) :
    PE X (.Call (.Name x p) (e :: es) [] p2) (tD L W Z fun env S => (fs env S).bind fun ds S1 => g.call f ds S1) := by
  obtain ⟨aa, fd, ps, k, e1, e2, e3, e4, e5, e6⟩ := G.call (calm_of hc) f x _ hf
  unfold dunB at hd
  simp only [Bool.and_eq_true, Bool.not_eq_true'] at hd
  rw [List.all_cons, Bool.and_eq_true] at hn
  refine (pe_callS e6 e5 (gl_of G hg) e1 e2 e3 (fun σ => passAt G.tk σ) ha hd.1 (star_cons hn.1) (star_any hn.2)).imp fun σ H Q w => ?_
  obtain ⟨env, S, m, he, hs, q⟩ := w
  refine ⟨env, S, m, he, hs, ?_⟩
  have q : Cont L W σ (RelD L.K) Q H m ((fs env S).bind fun ds S1 => g.call f ds S1) := q
  cases q2 : fs env S with
  | ok ds S1 =>
    rw [q2] at q
    intro H' m' vs ex s r
    exact ⟨by rw [r.length]; exact hl _ _ _ _ q2, ds, S1, m', ex.T.trans he.2.2.2, s, r, (Cont.ext ex q).toE⟩
  | exc c fs S1 => rw [q2] at q; exact q
  | bad => rw [q2] at q; exact q
theorem bi_cases (b : Bi) : (∃ id, b.py = .builtin id ∧ bootBuiltins b.nm = some (.builtin id)) ∨ (∃ T, b.py = .type T ∧ bootBuiltins b.nm = some (.type T)) := by
  cases b
  · exact .inl ⟨_, rfl, by decide +kernel⟩
  · exact .inl ⟨_, rfl, by decide +kernel⟩
  · exact .inl ⟨_, rfl, by decide +kernel⟩
  · exact .inr ⟨_, rfl, by decide +kernel⟩
  · exact .inr ⟨_, rfl, by decide +kernel⟩
  · exact .inr ⟨_, rfl, by decide +kernel⟩
  · exact .inl ⟨_, rfl, by decide +kernel⟩
  · exact .inl ⟨_, rfl, by decide +kernel⟩
theorem bi_nm (b : Bi) : b.nm ≠ ("__name__" : Str) ∧ (b.nm == ("__debug__" : Str)) = false := by cases b <;> exact ⟨by decide +kernel, by decide +kernel⟩
theorem e_bi (G : Good t L g W Z X c) {b : Bi} {fs : KF.Env → Store → R (List D)} {x : Str} {e : Expr} {es : List Expr} {p p2 : Pos} (hc : calmB c = true) (hb : bltB t c x b.nm = true) (hn : (e :: es).all notStar = true) (ha : PA X (e :: es) (tDs L W Z fs)) :
    PE X (.Call (.Name x p) (e :: es) [] p2) (tD L W Z fun env S => (fs env S).bind fun ds S1 => lift (dbi S1 b ds) S1) := by
  obtain ⟨rfl, h1, h2⟩ := blt_of G hb
  obtain ⟨n1, n2⟩ := bi_nm b
  rw [List.all_cons, Bool.and_eq_true] at hn
  have fin : ∀ σ H Q, tD L W Z (fun env S => (fs env S).bind fun ds S1 => lift (dbi S1 b ds) S1) σ H Q → tCB (rC L fun S => dbi S b) (tDs L W Z fs) σ H Q := by
    intro σ H Q w
    refine (tE.seq (Rl := RelDs L.K) G.zm (g := fun env ds S1 => lift (dbi S1 b ds) S1) w).imp fun vs H1 ⟨env, S1, m1, ds, he, hs, r, k⟩ => ?_
    cases q : dbi S1 b ds with
    | none => rw [q] at k; exact k.elim
    | some z =>
      rw [q] at k
      exact ⟨ds, z, m1, S1, hs, r, q, k⟩
  have hcb := call_bi (X := X) (L := L) G.K (G.calm (calm_of hc)) b
  rcases bi_cases b with ⟨id, q1, q2⟩ | ⟨T, q1, q2⟩
  · rw [q1] at hcb
    exact (pe_callB hcb h1 h2 q2 ha n1 n2 (star_cons hn.1) (star_any hn.2)).imp fin
  · rw [q1] at hcb
    exact (pe_callTy hcb h1 h2 q2 ha n1 n2 (star_cons hn.1) (star_any hn.2)).imp fin
/-! ### isinstance, list(range(..)), an error's field -/
def Ty.ts : Ty → String
  | .list => "list" | .tuple => "tuple" | .int => "int" | .bool => "bool" | .str => "str" | .dict => "dict"
theorem ty_boot (y : Ty) : bootBuiltins y.py = some (.type y.ts) := by cases y <;> decide +kernel
theorem ty_nm (y : Ty) : y.py ≠ ("__name__" : Str) ∧ (y.py == ("__debug__" : Str)) = false := by cases y <;> exact ⟨by decide +kernel, by decide +kernel⟩
def Kd.ts : Kd → String
  | .non => "NoneType" | .bl => "bool" | .int => "int" | .str => "str" | .tup => "tuple" | .lst => "list"
theorem kit_kd (k : Kd) (y : Ty) : kitB k.ts y.ts = some (y.hasK k) := by cases k <;> cases y <;> decide +kernel
/-- a value's type -/
theorem tyx (K : PySem.W.Frag) {H : Hp} {m : Mp} {S : Store} {d : D} {v : V} (s : RelS K H m S) (r : RelD K H m d v) : TyX K H v (.type d.kd.ts) := by
  cases d with
  | non => rw [show v = _ from r]; exact .base .non
  | bl b => rw [show v = _ from r]; exact .base (.bl b)
  | int i => rw [show v = _ from r]; exact .base (.int i)
  | str x => rw [show v = _ from r]; exact .base (.str x)
  | tup xs =>
    obtain ⟨a, vs, rfl, ha, _⟩ := r
    rcases ha with ⟨_, _, ha | ⟨o, ha⟩⟩ | ⟨o, its, n, h1, h2, _⟩
    · exact .base (.tup ha)
    · exact .fTuple ha
    · exact .kTuple h1 h2
  | lst xs =>
    obtain ⟨a, vs, rfl, ha, _⟩ := r
    rcases ha with ⟨_, _, ha | ⟨o, ha⟩⟩
    · exact .base (.lst ha)
    · exact .base (.frz ha)
  | loc n =>
    obtain ⟨a, rfl, ha⟩ := r
    have hl : n < S.length := by rw [← s.len]; exact (List.getElem?_eq_some_iff.mp ha).1
    obtain ⟨b, e1, e2⟩ := s.at_ n S[n] (List.getElem?_eq_getElem hl)
    rw [ha] at e1; cases e1
    cases q : S[n] with
    | lst xs =>
      rw [q] at e2
      obtain ⟨vs, h1, _⟩ := e2
      exact .base (.lst h1)
theorem kit_any {K : PySem.W.Frag} {d : D} : ∀ ts : List Ty, PySem.W.kitAny K (.type d.kd.ts) (ts.map fun y => Value.type y.ts) = some (ts.any fun y => y.has d)
  | [] => kitAny_nil
  | y :: ys => by
    rw [List.map_cons, List.any_cons]
    refine kitAny_cons (b := y.has d) (kit_ty (kit_kd _ y)) (fun e => ?_) (fun e => ?_)
    · rw [e, Bool.false_or]; exact kit_any ys
    · rw [e, Bool.true_or]
theorem pa_tys (G : Good t L g W Z X c) : ∀ {ts : List Ty} {es : List Expr}, tysB t c ts es = true → PA X es (fun σ H Q => Q (ts.map fun y => V.ty y.ts) H)
  | [], [], _ => pa_nil
  | [], _ :: _, h => by cases h
  | y :: ys, [], h => by cases h
  | y :: ys, e :: es, h => by
    unfold tysB at h
    split at h
    · rename_i h0 _
      cases h0
    · rename_i y' ys' x p es' h1 h2
      cases h1; cases h2
      simp only [Bool.and_eq_true] at h
      obtain ⟨rfl, h3, h4⟩ := blt_of G h.1
      obtain ⟨n1, n2⟩ := ty_nm y
      exact pa_cons (pe_bltn (v := .ty y.ts) h3 h4 (ty_boot y) rfl n1 n2) (pa_tys G h.2)
    · cases h
theorem e_isi (G : Good t L g W Z X c) {f : Ev} {ts : List Ty} {x : Str} {e y : Expr} {p p2 : Pos} (hb : bltB t c x "isinstance" = true) (hn : notStar e = true) (hi : isiB t c ts y = true) (he : PE X e (tD L W Z f)) :
    PE X (.Call (.Name x p) [e, y] [] p2) (tD L W Z fun env S => (f env S).bind fun x S1 => .ok (.bl (ts.any fun t => t.has x)) S1) := by
  obtain ⟨rfl, h1, h2⟩ := blt_of G hb
  have ny : notStar y = true := by
    unfold isiB at hi
    split at hi <;> first | rfl | cases hi
  have seq : ∀ σ H Q, tD L W Z (fun env S => (f env S).bind fun x S1 => R.ok (D.bl (ts.any fun t => t.has x)) S1) σ H Q →
      tD L W Z f σ H fun v H1 => ∃ m1 S1 d, RelS L.K H1 m1 S1 ∧ RelD L.K H1 m1 d v ∧ ∀ H' m' v', Ext H1 m1 H' m' → RelS L.K H' m' S1 → RelD L.K H' m' (.bl (ts.any fun t => t.has d)) v' → Q v' H' := by
    intro σ H Q w
    refine (tE.seq (Rl := RelD L.K) G.zm (g := fun env x S1 => R.ok (D.bl (ts.any fun t => t.has x)) S1) w).imp fun v H1 ⟨env, S1, m1, d, he, hs, r, k⟩ => ?_
    exact ⟨m1, S1, d, hs, r, k⟩
  unfold isiB at hi
  split at hi
  · rename_i z q
    split at hi
    · rename_i y'
      obtain ⟨rfl, h3, h4⟩ := blt_of G hi
      obtain ⟨n1, n2⟩ := ty_nm y'
      refine (pe_callB call_isi h1 h2 (by decide +kernel) (pa_cons he (pa_cons (pe_bltn (v := .ty y'.ts) h3 h4 (ty_boot y') rfl n1 n2) pa_nil) (star_cons hn)) (by decide +kernel) (by decide +kernel) (star_cons hn) (star_any (by rw [List.all_cons]; rfl))).imp fun σ H Q w => ?_
      refine (seq σ H Q w).imp fun v H1 ⟨m1, S1, d, hs, r, k⟩ => ?_
      refine ⟨v, .ty y'.ts, .type d.kd.ts, .type y'.ts, _, rfl, .ty _, by rw [G.K]; exact tyx L.K hs r, kit_ty (kit_kd _ y'), k H1 m1 _ (Ext.refl _ _) hs ?_⟩
      show V.bl _ = V.bl _
      rw [List.any_cons, List.any_nil, Bool.or_false]; rfl
    · cases hi
  · rename_i es k q
    rw [Bool.and_eq_true, decide_eq_true_eq] at hi
    obtain ⟨hlen, hi⟩ := hi
    refine (pe_callB call_isiT h1 h2 (by decide +kernel) (pa_cons he (pa_cons (pe_tup (pa_tys G hi)) pa_nil) (star_cons hn)) (by decide +kernel) (by decide +kernel) (star_cons hn) (star_any (by rw [List.all_cons]; rfl))).imp fun σ H Q w => ?_
    refine (seq σ H Q w).imp fun v H1 ⟨m1, S1, d, hs, r, k⟩ => ?_
    have hz : (ts.map fun y => V.ty y.ts).length ≤ sizeLine := by rw [List.length_map, sizeLine_eq]; omega
    refine ⟨hz, fun q hq => ?_⟩
    have clsv : ∀ l : List Ty, Paired ClsV (l.map fun y => V.ty y.ts) (l.map fun y => Value.type y.ts) := fun l => by
      induction l with
      | nil => exact .nil
      | cons y l ih => exact .cons (.ty _) ih
    exact ⟨v, q, _, .type d.kd.ts, _, _, rfl, upd_same, clsv ts, by rw [G.K]; exact tyx L.K (hs.new hq) (r.mono (Mono.new hq)), kit_any ts, k _ m1 _ (Ext.new hq) (hs.new hq) rfl⟩
  · cases hi
theorem rng_rel {K : PySem.W.Frag} {H : Hp} {m : Mp} : ∀ l : List Nat, RelDs K H m (l.map fun (i : Nat) => D.int (0 + (i : Int))) (l.map fun (i : Nat) => V.int (0 + (i : Int)))
  | [] => rfl
  | i :: l => ⟨_, _, rfl, rfl, rng_rel l⟩
theorem e_lrng (G : Good t L g W Z X c) {f : Ev} {x y : Str} {e : Expr} {p p2 p3 p4 : Pos} (hc : calmB c = true) (hb : bltB t c x "list" = true) (hb2 : bltB t c y "range" = true) (hn : notStar e = true) (he : PE X e (tD L W Z f)) :
    PE X (.Call (.Name x p) [.Call (.Name y p2) [e] [] p3] [] p4) (tD L W Z fun env S => (f env S).bind fun x S1 => match x with
    | .int n => if 0 ≤ n ∧ n ≤ 1000000 then .ok (.lst (rngD n)) S1 else .bad
    | _ => .bad) := by
  obtain ⟨rfl, h1, h2⟩ := blt_of G hb
  obtain ⟨rfl, h3, h4⟩ := blt_of G hb2
  refine (pe_listRg (G.calm (calm_of hc)) h1 h2 (prg_1 h3 h4 he (star_cons hn)) (star_cons rfl)).imp fun σ H Q w => ?_
  refine (tE.seq (Rl := RelD L.K) G.zm (g := fun env x S1 => (match x with
    | .int n => if 0 ≤ n ∧ n ≤ 1000000 then R.ok (D.lst (rngD n)) S1 else R.bad
    | _ => R.bad)) w).imp fun v H1 ⟨env, S1, m1, d, he, hs, r, k⟩ => ?_
  cases d <;> try exact k.elim
  rename_i n
  by_cases hn : 0 ≤ n ∧ n ≤ 1000000
  · dsimp only at k
    rw [if_pos hn] at k
    refine ⟨n, r, .of_le (Int.le_refl 0) (by omega) (by omega) hn.1, fun q hq => ?_⟩
    refine k _ m1 _ (Ext.new hq) (hs.new hq) ⟨q, _, rfl, LstA.new hs hq, ?_⟩
    have e : rgV 0 n = (List.range n.toNat).map fun (i : Nat) => V.int (0 + (i : Int)) := by unfold rgV; rw [Int.sub_zero]
    rw [e]
    exact rng_rel _
  · dsimp only at k
    rw [if_neg hn] at k
    exact k.elim
theorem zip_lookup {K : PySem.W.Frag} {H : Hp} {m : Mp} {f : Str} {d : D} : ∀ {l : List (Str × D)} {l' : List (Str × V)}, Paired (fun p q => p.1 = q.1 ∧ RelD K H m p.2 q.2) l l' → l.lookup f = some d → ∃ v, l'.lookup f = some v ∧ RelD K H m d v
  | _, _, .nil, h => by cases h
  | (x, y) :: l, (x', y') :: l', .cons r t, h => by
    obtain ⟨e, r⟩ := r
    have e : x = x' := e
    subst e
    rw [List.lookup_cons] at h ⊢
    cases hb : f == x with
    | true =>
      rw [hb] at h
      cases h
      exact ⟨y', rfl, r⟩
    | false =>
      rw [hb] at h
      exact zip_lookup t h
theorem paired_zip {K : PySem.W.Frag} {H : Hp} {m : Mp} : ∀ {ns : List Str} {fs : List D} {vs : List V}, RelDs K H m fs vs → Paired (fun (p : Str × D) (q : Str × V) => p.1 = q.1 ∧ RelD K H m p.2 q.2) (ns.zip fs) (ns.zip vs)
  | [], _, _, _ => by simp; exact .nil
  | n :: ns, [], vs, h => by rw [show vs = [] from h]; simp; exact .nil
  | n :: ns, x :: xs, vs, h => by
    obtain ⟨v, r, rfl, h1, h2⟩ := h
    exact .cons ⟨rfl, h1⟩ (paired_zip h2)
theorem paired_app {α β : Type} {F : α → β → Prop} : ∀ {l1 l2 : List α} {k1 k2 : List β}, Paired F l1 k1 → Paired F l2 k2 → Paired F (l1 ++ l2) (k1 ++ k2)
  | _, _, _, _, .nil, s => s
  | _, _, _, _, .cons r t, s => .cons r (paired_app t s)
theorem paired_rev {α β : Type} {F : α → β → Prop} : ∀ {l : List α} {k : List β}, Paired F l k → Paired F l.reverse k.reverse
  | _, _, .nil => .nil
  | _, _, .cons r t => by
    rw [List.reverse_cons, List.reverse_cons]
    exact paired_app (paired_rev t) (.cons r .nil)
theorem e_fx (G : Good t L g W Z X c) {i : Nat} {f : Str} {x : Str} {p p2 : Pos} (hc : c.suite = some i) (hx : c.N[i]? = some x) (hv : visB c.sc x = true) (hd : dunB x = true) :
    PE X (.Attribute (.Name x p) f p2) (tD L W Z fun _ S => lift (curX g f) S) := by
  obtain ⟨aa, oe, k, fs, dd, pn, X0, eX, hz, hf, hcur, T, hno, eZ⟩ := G.suite i hc
  unfold dunB at hd
  simp only [Bool.and_eq_true, Bool.not_eq_true'] at hd
  have hvis : Vis X.env.scope x := by
    rw [G.sc]
    unfold visB at hv
    split at hv
    · exact .inl (by assumption)
    · exact .inr (.inl (by assumption))
    · exact .inr (.inr (by assumption))
    · cases hv
  have hvar : PE X (.Name x p) (tVar i) := pe_var (by rw [G.N]; exact hx) hvis hd.1 hd.2
  by_cases hm : f ∈ L.ef k
  · have K0 : X0.K = L.K := by rw [← G.K, eX]
    have hvar2 := hvar
    rw [eX] at hvar2
    have h := pe_xf (pos := p2) (n := f) (T := show XfC X0.K (L.ea k) by rw [K0]; exact T) (show PySem.W.findIn X0.K (.ref (L.ea k)) f = some none by rw [K0]; exact hno f hm) hz hf hvar2
    rw [← eX] at h
    refine h.imp fun σ H Q ⟨env, S, m, he, hs, q⟩ => ?_
    have q : Cont L W σ (RelD L.K) Q H m (lift (curX g f) S) := q
    unfold curX at q
    rw [hcur] at q
    dsimp only at q
    rw [G.ef] at q
    have z := he.2.2.1
    rw [eZ] at z
    obtain ⟨z1, vs, z2, z3, z4, z5⟩ := z
    cases ql : ((L.ef k).zip fs).reverse.lookup f with
    | none => rw [ql] at q; exact q.elim
    | some d =>
      rw [ql] at q
      obtain ⟨v, lv, rv⟩ := zip_lookup (paired_rev (paired_zip (ns := L.ef k) z5)) ql
      exact ⟨.ref aa, z1, rfl, rfl, dd, _, v, rfl, z2, lv, q.here hs rv⟩
  · refine ⟨fun pins s σ H Q I w => ?_⟩
    obtain ⟨env, S, m, he, hs, q⟩ := w
    have q : Cont L W σ (RelD L.K) Q H m (lift (curX g f) S) := q
    unfold curX at q
    rw [hcur] at q
    dsimp only at q
    rw [G.ef] at q
    cases ql : ((L.ef k).zip fs).reverse.lookup f with
    | none => rw [ql] at q; exact q.elim
    | some d =>
      refine (hm ?_).elim
      have h1 := PySem.mem_of_lookup ql
      rw [List.mem_reverse] at h1
      exact (List.of_mem_zip h1).1
end
end KF

set_option Elab.async false
set_option linter.all false
set_option maxRecDepth 100000
set_option maxHeartbeats 4000000
/-! KF8: soundness: targets, what is walked, comprehensions -/
namespace KF
open PySem PySem.Spec PyProof.Rows L2
theorem wipe_get : ∀ (vs : List Nat) (σ : L2.St) (i : Nat), (wipe σ vs)[i]? = if i ∈ vs then (σ[i]?).map (fun _ => none) else σ[i]?
  | [], σ, i => by simp [wipe]
  | v :: vs, σ, i => by
    have ih := wipe_get vs σ i
    have hl := wipe_length σ vs
    show ((wipe σ vs).set v none)[i]? = _
    by_cases hv : v = i
    · subst hv
      rw [if_pos List.mem_cons_self]
      by_cases hi : v < σ.length
      · rw [List.getElem?_set_self (by rw [hl]; exact hi), List.getElem?_eq_getElem hi]; rfl
      · rw [List.getElem?_eq_none (by rw [List.length_set, hl]; omega), List.getElem?_eq_none (by omega)]; rfl
    · rw [List.getElem?_set_ne hv, ih]
      by_cases hm : i ∈ vs
      · rw [if_pos hm, if_pos (List.mem_cons_of_mem _ hm)]
      · rw [if_neg hm, if_neg (fun z => by rcases List.mem_cons.mp z with z | z; exact hv z.symm; exact hm z)]
theorem wipeE_get : ∀ (vs : List Nat) (σ : KF.Env) (i : Nat), (wipeE σ vs)[i]? = if i ∈ vs then (σ[i]?).map (fun _ => none) else σ[i]?
  | [], σ, i => by simp [wipeE]
  | v :: vs, σ, i => by
    have ih := wipeE_get vs σ i
    have hl : (wipeE σ vs).length = σ.length := by
      clear ih
      induction vs with
      | nil => rfl
      | cons w vs ih => show ((wipeE σ vs).set w none).length = _; rw [List.length_set, ih]
    show ((wipeE σ vs).set v none)[i]? = _
    by_cases hv : v = i
    · subst hv
      rw [if_pos List.mem_cons_self]
      by_cases hi : v < σ.length
      · rw [List.getElem?_set_self (by rw [hl]; exact hi), List.getElem?_eq_getElem hi]; rfl
      · rw [List.getElem?_eq_none (by rw [List.length_set, hl]; omega), List.getElem?_eq_none (by omega)]; rfl
    · rw [List.getElem?_set_ne hv, ih]
      by_cases hm : i ∈ vs
      · rw [if_pos hm, if_pos (List.mem_cons_of_mem _ hm)]
      · rw [if_neg hm, if_neg (fun z => by rcases List.mem_cons.mp z with z | z; exact hv z.symm; exact hm z)]
theorem wipeE_length (σ : KF.Env) : ∀ vs : List Nat, (wipeE σ vs).length = σ.length
  | [] => rfl
  | w :: vs => by show ((wipeE σ vs).set w none).length = _; rw [List.length_set, wipeE_length σ vs]
/-- but for some slots alike -/
def Alike (vs : List Nat) (σ σ' : L2.St) : Prop := σ.length = σ'.length ∧ ∀ i, i ∉ vs → σ[i]? = σ'[i]?
theorem Alike.refl (vs : List Nat) (σ : L2.St) : Alike vs σ σ := ⟨rfl, fun _ _ => rfl⟩
theorem Alike.trans {vs : List Nat} {a b c : L2.St} (h : Alike vs a b) (k : Alike vs b c) : Alike vs a c := ⟨h.1.trans k.1, fun i hi => (h.2 i hi).trans (k.2 i hi)⟩
theorem Alike.more {vs ws : List Nat} {a b : L2.St} (h : Alike vs a b) (k : ∀ i ∈ vs, i ∈ ws) : Alike ws a b := ⟨h.1, fun i hi => h.2 i fun z => hi (k i z)⟩
theorem Alike.wipe {vs : List Nat} {σ σ' : L2.St} (h : Alike vs σ σ') : wipe σ' vs = wipe σ vs := by
  apply List.ext_getElem?
  intro i
  rw [wipe_get, wipe_get]
  by_cases hi : i ∈ vs
  · rw [if_pos hi, if_pos hi]
    by_cases hl : i < σ.length
    · rw [List.getElem?_eq_getElem hl, List.getElem?_eq_getElem (by rw [← h.1]; exact hl)]; rfl
    · rw [List.getElem?_eq_none (by have := h.1; omega), List.getElem?_eq_none (by have := h.1; omega)]
  · rw [if_neg hi, if_neg hi, h.2 i hi]
theorem RelE.wipe {L : Lk} {Z : ZP} (zt : ∀ σ H m, Z σ H m) {H : Hp} {m : Mp} {env : KF.Env} {σ : L2.St} (h : RelE L Z H m env σ) (vs : List Nat) : RelE L Z H m (wipeE env vs) (L2.wipe σ vs) := by
  refine ⟨by rw [wipeE_length, wipe_length]; exact h.1, fun i d e => ?_, zt _ _ _, h.2.2.2⟩
  rw [wipeE_get] at e
  split at e
  · cases q : env[i]? with
    | none => rw [q] at e; cases e
    | some o => rw [q] at e; cases e
  · rename_i hi
    obtain ⟨v, e1, r⟩ := h.2.1 i d e
    exact ⟨v, by rw [wipe_get, if_neg hi]; exact e1, r⟩
/-! ### targets -/
def Tgs.len : Tgs → Nat
  | .nil => 0
  | .cons _ r => r.len + 1
mutual
def tGr (K : PySem.W.Frag) : Tg → TG
  | .n i => gName i
  | .t ts => gTup K ts.len (tGs K ts)
def tGs (K : PySem.W.Frag) : Tgs → TGs
  | .nil => gNil
  | .cons t r => gCons (tGr K t) (tGs K r)
end
section
variable {t : Tb} {L : Lk} {g : Cfg} {W : WX} {Z : ZP} {X : Cx} {c : Cc}
theorem fn_loc (G : Good t L g W Z X c) {x : Str} (h : locB c x = true) : Loc X.env.scope x ∧ (X.fn x = true ∨ X.env.scope.names.lookup x = some .local) := by
  unfold locB at h
  rw [L2.Loc, G.sc]
  split at h
  · rename_i q
    exact ⟨.inl q, .inr q⟩
  · rename_i q
    refine ⟨.inr q, .inl (G.fn x ?_)⟩
    cases q2 : c.own with
    | none => trivial
    | some s => rw [q2] at h; exact of_decide_eq_true h
  · cases h
theorem len_tgs (c : Cc) : ∀ {ts : Tgs} {es : List Expr}, chkTs c ts es = true → es.length = ts.len
  | .nil, es, h => by
    unfold chkTs at h
    cases es with
    | nil => rfl
    | cons _ _ => cases h
  | .cons t r, es, h => by
    unfold chkTs at h
    cases es with
    | nil => cases h
    | cons e es =>
      dsimp only at h
      rw [Bool.and_eq_true] at h
      rw [List.length_cons, len_tgs c h.2]; rfl
mutual
theorem g_ok (G : Good t L g W Z X c) (hc : X.calm = true) : ∀ (tg : Tg) (a : Expr), chkT c tg a = true → PG X a (tGr X.K tg)
  | .n i, a, h => by
    unfold chkT at h
    split at h
    · rename_i x p
      rw [Bool.and_eq_true, decide_eq_true_eq] at h
      obtain ⟨h1, h2⟩ := fn_loc G h.2
      exact pg_name (by rw [G.N]; exact G.nd) (by rw [G.N]; exact h.1) h1 h2
    · cases h
  | .t ts, a, h => by
    unfold chkT at h
    split at h
    · rename_i es k p
      rw [Bool.and_eq_true] at h
      exact pg_tup hc (g_oks G hc ts es h.2 h.1) (by rw [asgE_len h.1, len_tgs c h.2]) (asgE_star h.1)
    · cases h
theorem g_oks (G : Good t L g W Z X c) (hc : X.calm = true) : ∀ (ts : Tgs) (es : List Expr), chkTs c ts es = true → es.all notStar = true → PGs X es (tGs X.K ts)
  | .nil, es, h, _ => by
    unfold chkTs at h
    cases es with
    | nil => exact pgs_nil
    | cons _ _ => cases h
  | .cons t r, es, h, hn => by
    unfold chkTs at h
    cases es with
    | nil => cases h
    | cons e es =>
      dsimp only at h
      rw [Bool.and_eq_true] at h
      rw [List.all_cons, Bool.and_eq_true] at hn
      exact pgs_cons (g_ok G hc t e h.1) (g_oks G hc r es h.2 hn.2) (by rw [asgE_cons hn.1]; rfl)
end
end
section
variable {L : Lk} {Z : ZP} {H : Hp} {m : Mp}
theorem asgs_len : ∀ {ts : Tgs} {ds : List D} {env env' : KF.Env}, asgs ts ds env = some env' → ds.length = ts.len
  | .nil, ds, env, env', h => by
    cases ds with
    | nil => rfl
    | cons _ _ => unfold asgs at h; cases h
  | .cons t ts, ds, env, env', h => by
    cases ds with
    | nil => unfold asgs at h; cases h
    | cons d ds =>
      unfold asgs at h
      split at h
      · rw [List.length_cons, asgs_len h]; rfl
      · cases h
mutual
theorem g_sem (zt : ∀ σ H m, Z σ H m) : ∀ (tg : Tg) (d : D) (env env' : KF.Env) (σ : L2.St) (v : V) (Q : L2.St → Hp → Prop), asg tg d env = some env' → RelE L Z H m env σ → RelD L.K H m d v →
    (∀ σ', RelE L Z H m env' σ' → Alike tg.sl σ σ' → Q σ' H) → tGr L.K tg v σ H Q
  | .n i, d, env, env', σ, v, Q, h, he, r, k => by
    unfold asg at h
    split at h
    · rename_i hi
      cases h
      refine k _ ⟨by rw [List.length_set, List.length_set]; exact he.1, fun j e q => ?_, zt _ _ _, he.2.2.2⟩ ⟨by rw [List.length_set], fun j hj => ?_⟩
      · by_cases hij : i = j
        · subst hij
          rw [List.getElem?_set_self hi] at q
          cases q
          exact ⟨v, by rw [List.getElem?_set_self (by rw [← he.1]; exact hi)], r⟩
        · rw [List.getElem?_set_ne hij] at q
          obtain ⟨w, e1, r1⟩ := he.2.1 j e q
          exact ⟨w, by rw [List.getElem?_set_ne hij]; exact e1, r1⟩
      · have hij : i ≠ j := fun z => hj (by rw [z]; exact List.mem_singleton.mpr rfl)
        rw [List.getElem?_set_ne hij]
    · cases h
  | .t ts, d, env, env', σ, v, Q, h, he, r, k => by
    cases d <;> (try (unfold asg at h; cases h; done))
    rename_i ds
    unfold asg at h
    obtain ⟨a, vs, rfl, ha, rs⟩ := r
    have hl : ds.length = ts.len := asgs_len h
    exact ⟨a, vs, rfl, ha.sq, by rw [rs.length, hl], g_sems zt ts ds env env' σ vs Q h he rs k⟩
theorem g_sems (zt : ∀ σ H m, Z σ H m) : ∀ (ts : Tgs) (ds : List D) (env env' : KF.Env) (σ : L2.St) (vs : List V) (Q : L2.St → Hp → Prop), asgs ts ds env = some env' → RelE L Z H m env σ → RelDs L.K H m ds vs →
    (∀ σ', RelE L Z H m env' σ' → Alike ts.sl σ σ' → Q σ' H) → tGs L.K ts vs σ H Q
  | .nil, ds, env, env', σ, vs, Q, h, he, r, k => by
    cases ds with
    | nil =>
      unfold asgs at h
      cases h
      exact ⟨r, k _ he (Alike.refl _ _)⟩
    | cons _ _ => unfold asgs at h; cases h
  | .cons t ts, ds, env, env', σ, vs, Q, h, he, r, k => by
    cases ds with
    | nil => unfold asgs at h; cases h
    | cons d ds =>
      unfold asgs at h
      split at h
      · rename_i env1 q
        obtain ⟨v, w, rfl, r1, r2⟩ := r
        refine ⟨v, w, rfl, g_sem zt t d env env1 σ v _ q he r1 fun σ1 he1 a1 => ?_⟩
        refine g_sems zt ts ds env1 env' σ1 w Q h he1 r2 fun σ2 he2 a2 => k σ2 he2 ?_
        exact (a1.more fun i hi => List.mem_append_left _ hi).trans (a2.more fun i hi => List.mem_append_right _ hi)
      · cases h
end
end
/-! ### what is walked -/
structure WalkJ (J : L2.It) (vs : List V) (std : Hp → Prop) : Prop where
  go : ∀ i H, std H → i < vs.length → J.go i H
  stop : ∀ i H, std H → vs.length ≤ i → J.stop i H
  yld : ∀ i H x H', std H → i < vs.length → J.yld i H x H' → H' = H ∧ vs[i]? = some x
abbrev Wk := L2.It × List V × (Hp → Prop)
def RlI (L : Lk) : Hp → Mp → List D → Wk → Prop := fun H m ds p => RelDs L.K H m ds p.2.1 ∧ WalkJ p.1 p.2.1 p.2.2 ∧ p.2.2 H ∧ ∀ H2 m2, Mono H m H2 m2 → p.2.2 H2
def tI (L : Lk) (W : WX) (Z : ZP) (f : KF.Env → Store → R (List D)) : TI := fun σ H R => tE L W Z (RlI L) f σ H fun p H' => R p.1 H'
theorem walk_list {K : PySem.W.Frag} {a : Addr} {vs : List V} : WalkJ (Itl K a) vs fun H => SqL K H a vs :=
  ⟨fun i H s h => ⟨vs, vs[i], s, by simp [h]⟩, fun i H s h => ⟨vs, s, h⟩, fun i H x H' s _ ⟨e, y⟩ => ⟨e, y vs s⟩⟩
theorem walk_tup {K : PySem.W.Frag} {a : Addr} {vs : List V} : WalkJ (Itt K a) vs fun H => SqT K H a vs :=
  ⟨fun i H s h => ⟨vs, vs[i], s, by simp [h]⟩, fun i H s h => ⟨vs, s, h⟩, fun i H x H' s _ ⟨e, y⟩ => ⟨e, y vs s⟩⟩
theorem walk_rng {n : Nat} : WalkJ (Itr 0 n) ((List.range n).map fun (i : Nat) => V.int (0 + (i : Int))) fun _ => True := by
  refine ⟨fun i H _ h => ?_, fun i H _ h => ?_, fun i H x H' _ h ⟨e, y⟩ => ?_⟩
  · rw [List.length_map, List.length_range] at h; exact h
  · rw [List.length_map, List.length_range] at h; exact h
  · rw [List.length_map, List.length_range] at h
    exact ⟨e, by rw [List.getElem?_map, List.getElem?_range h, y]; rfl⟩
theorem PI.imp {X : Cx} {tg e : Expr} {t t' : TI} (h : PI X tg e t) (k : ∀ σ H R, t' σ H R → t σ H R) : PI X tg e t' := ⟨fun pins s σ H R I w => h.run pins s σ H R I (k σ H R w)⟩
section
variable {t : Tb} {L : Lk} {g : Cfg} {W : WX} {Z : ZP} {X : Cx} {c : Cc}
theorem i_val (G : Good t L g W Z X c) {tg a : Expr} {f : Ev} (he : PE X a (tD L W Z f)) : PI X tg a (tI L W Z fun env S => (f env S).bind seqIt) := by
  refine ⟨fun pins s σ H R I w => ?_⟩
  have w2 := tE.seq (Rl := RelD L.K) G.zm (g := fun _ d S1 => seqIt d S1) w
  refine thn (he.run pins s σ H _ I w2) fun v s1 ⟨x, H1, I1, r1, env, S1, m1, d, hE, hs, r, k⟩ => ?_
  cases d <;> try exact k.elim
  · rename_i xs
    obtain ⟨a', vs, rfl, ha, hr⟩ := r
    cases r1
    have hq : SqT X.K H1 a' vs := by rw [G.K]; exact ha.sq
    obtain ⟨its, rv, p, hz⟩ := I1.tuple hq
    refine wpAny_pyIter_tuple (show s1.heap.IsTuple a' its.toArray from p) ?_
    refine ⟨s1.heap.objs.size, [s1.heap.objs.size], _, Itt X.K a', H1, rfl, I1.kept (t' := s1.toks) fun b o e => Heap.get?_push_of_some _ e, turn_tuple a' _, ⟨_, Heap.get?_push_size _ rfl, rfl, rfl⟩, fun b hb => ?_, ?_⟩
    · have e : b = s1.heap.objs.size := by simpa using hb
      subst e
      exact I1.fpOk (Nat.le_refl _) (I1.hok.fresh (Nat.le_refl _))
    · exact k H1 m1 (Itt X.K a', vs, fun H => SqT X.K H a' vs) (Ext.refl _ _) hs ⟨hr, walk_tup, hq, fun H2 m2 e => by rw [G.K]; exact (ha.mono e).sq⟩
  · rename_i xs
    obtain ⟨a', vs, rfl, ha, hr⟩ := r
    cases r1
    have hq : SqL X.K H1 a' vs := ha.sq
    obtain ⟨its, rv, p, hz⟩ := I1.list hq
    refine wpAny_pyIter_list p.isList ?_
    refine ⟨s1.heap.objs.size, [s1.heap.objs.size], _, Itl X.K a', H1, rfl, I1.kept (t' := s1.toks) fun b o e => Heap.get?_push_of_some _ e, turn_list a' _, ⟨_, Heap.get?_push_size _ rfl, rfl, rfl⟩, fun b hb => ?_, ?_⟩
    · have e : b = s1.heap.objs.size := by simpa using hb
      subst e
      exact I1.fpOk (Nat.le_refl _) (I1.hok.fresh (Nat.le_refl _))
    · exact k H1 m1 (Itl X.K a', vs, fun H => SqL X.K H a' vs) (Ext.refl _ _) hs ⟨hr, walk_list, hq, fun H2 m2 e => (ha.mono e).sq⟩
theorem i_rng (G : Good t L g W Z X c) {tg a : Expr} {x : Str} {p p2 : Pos} {f : Ev} (hb : bltB t c x "range" = true) (hn : notStar a = true) (he : PE X a (tD L W Z f)) : PI X tg (.Call (.Name x p) [a] [] p2) (tI L W Z fun env S => (f env S).bind rngIt) := by
  obtain ⟨rfl, h1, h2⟩ := blt_of G hb
  refine PI.imp (pi_range1 h1 h2 (pa_cons he pa_nil (star_cons hn)) (star_cons hn)) fun σ H R w => ?_
  refine (tE.seq (Rl := RelD L.K) G.zm (g := fun _ d S1 => rngIt d S1) w).imp fun v H1 ⟨env, S1, m1, d, hE, hs, r, k⟩ => ?_
  cases d <;> try exact k.elim
  rename_i n
  have r : v = .int n := r
  by_cases hn : -(2 ^ 62) ≤ n ∧ n < 2 ^ 62
  · unfold rngIt at k
    dsimp only at k
    rw [if_pos hn] at k
    refine ⟨n, by rw [r], hn.1, hn.2, ?_⟩
    exact k H1 m1 (Itr 0 n.toNat, _, fun _ => True) (Ext.refl _ _) hs ⟨rng_rel _, walk_rng, trivial, fun _ _ _ => trivial⟩
  · unfold rngIt at k
    dsimp only at k
    rw [if_neg hn] at k
    exact k.elim
end
end KF

set_option Elab.async false
set_option linter.all false
set_option maxRecDepth 100000
set_option maxHeartbeats 4000000
/-! KF9: soundness: a comprehension -/
namespace KF
open PySem PySem.Spec PyProof.Rows L2
abbrev W0 : WX := fun _ _ _ _ => False
abbrev Z0 : ZP := fun _ _ _ => True
section
variable {t : Tb} {L : Lk} {g : Cfg} {W : WX} {Z : ZP} {X : Cx} {c : Cc}
theorem lcL_cons {F : D → Store → R (Option D)} {x : D} {xs : List D} {S : Store} : lcL F (x :: xs) S = (F x S).bind fun o S1 => (lcL F xs S1).bind fun r S2 => .ok (match o with
    | some y => y :: r
    | none => r) S2 := rfl
theorem lcF_none {tg : Tg} {env : KF.Env} {fc : KF.Env → Store → R Bool} {fe : Ev} {x : D} {S : Store} (h : asg tg x (wipeE env tg.sl) = none) : lcF tg env fc fe x S = .bad := by
  unfold lcF; rw [h]
theorem lcF_some {tg : Tg} {env env' : KF.Env} {fc : KF.Env → Store → R Bool} {fe : Ev} {x : D} {S : Store} (h : asg tg x (wipeE env tg.sl) = some env') : lcF tg env fc fe x S = (fc env' S).bind fun b S1 => if b = true then (fe env' S1).bind fun y S2 => .ok (some y) S2 else .ok none S1 := by
  unfold lcF; rw [h]
theorem alike_wipe (σ : L2.St) (vs : List Nat) : Alike vs σ (wipe σ vs) := ⟨(wipe_length σ vs).symm, fun i hi => by rw [wipe_get, if_neg hi]⟩
theorem lc_read (G : Good t L g W Z X c) {fz : Bool} {tg : Tg} {fi : KF.Env → Store → R (List D)} {fc : KF.Env → Store → R Bool} {fe : Ev} {σ : L2.St} {H : Hp} {Q : VK}
    (w : tD L W Z (fun env S => (fi env S).bind fun xs S1 => (noexc (lcL (lcF tg env fc fe) xs S1)).bind fun ys S5 => finL fz ys S5) σ H Q) :
    tLc (tI L W Z fi) (tGr L.K tg) (tBb L W0 Z0 fc) (tD L W0 Z0 fe) ((ownOf c tg).map (·.2)) σ H Q := by
  have hown : (ownOf c tg).map (·.2) = tg.sl := by
    unfold ownOf
    rw [List.map_map]
    exact List.map_id' _
  rw [hown]
  refine (tE.seq (Rl := RlI L) G.zm (g := fun env xs S1 => (noexc (lcL (lcF tg env fc fe) xs S1)).bind fun ys S5 => finL fz ys S5) w).imp fun pJ H1 ⟨env, S1, m1, xs, hE, hs, hR, k⟩ => ?_
  obtain ⟨J, vs, std⟩ := pJ
  obtain ⟨hr, wj, st0, stm⟩ := hR
  have hr : RelDs L.K H1 m1 xs vs := hr
  have hlen : vs.length = xs.length := hr.length
  intro A hA
  have hAl : A ∉ m1.locs := hs.fresh hA
  have hAp : A ∉ m1.pr := hs.nopr hA
  let Inv' : Nat → Hp → Prop := fun i H' => ∃ (ls : List Addr) (S' : Store) (acc : List D) (avs : List V), H' A = some (.lst avs) ∧ RelDs L.K H' ⟨ls, A :: m1.pr, m1.T⟩ acc avs ∧ RelS L.K H' ⟨ls, A :: m1.pr, m1.T⟩ S' ∧
    Ext H1 m1 H' ⟨ls, m1.pr, m1.T⟩ ∧ Cont L W σ (RelD L.K) Q H1 m1 ((noexc (lcL (lcF tg env fc fe) (xs.drop i) S')).bind fun ys S5 => finL fz (acc ++ ys) S5)
  refine ⟨fun i n H' => n = vs.length - i ∧ i ≤ vs.length ∧ Inv' i H', ⟨vs.length, by simp, Nat.zero_le _, m1.locs, S1, [], [], upd_same, rfl, hs.hold hA .lst, Ext.new hA, k⟩, ?_⟩
  rintro i n H' ⟨rfl, hil0, ls, S', acc, avs, hAv, hacc, hS, hx, hk⟩
  have hil : i ≤ vs.length := hil0
  have hlsA : A ∉ ls := fun z => hS.dis A z List.mem_cons_self
  -- what stood at H1 stands
  have mono1 : Mono H1 m1 H' ⟨ls, A :: m1.pr, m1.T⟩ := ⟨fun a o h1 h2 _ h4 => hx.keep a o h1 h2 h4, hx.pre, fun a h => (hx.newl a h).imp id .inr, fun a h => by
    rcases List.mem_cons.mp h with h | h
    · exact .inr (by rw [h]; exact hA)
    · exact .inl h, hx.T⟩
  have hstd : std H' := stm _ _ mono1
  by_cases hlt : i < vs.length
  · refine .inr ⟨wj.go i H' hstd hlt, Inv' (i + 1), fun H2 h2 => ⟨vs.length - (i + 1), by omega, rfl, hlt, h2⟩, fun x H2 hy => ?_⟩
    obtain ⟨rfl, hxi⟩ := wj.yld i H' x H2 hstd hlt hy
    have hix : i < xs.length := by omega
    obtain ⟨x', hx1, rx⟩ := hr.get (List.getElem?_eq_getElem hix)
    rw [hxi] at hx1; cases hx1
    rw [List.drop_eq_getElem_cons hix, lcL_cons] at hk
    have rx' := RelD.mono mono1 _ _ rx
    cases qa : asg tg xs[i] (wipeE env tg.sl) with
    | none => rw [lcF_none qa] at hk; exact hk.elim
    | some env' =>
      rw [lcF_some qa] at hk
      have hE0 : RelE L Z0 H2 ⟨ls, A :: m1.pr, m1.T⟩ (wipeE env tg.sl) (wipe σ tg.sl) := by
        have h0 : RelE L Z H2 ⟨ls, A :: m1.pr, m1.T⟩ env σ := hE.mono G.zm mono1
        exact RelE.wipe (Z := Z0) (fun _ _ _ => trivial) ⟨h0.1, h0.2.1, trivial, h0.2.2.2⟩ _
      refine g_sem (fun _ _ _ => trivial) tg _ _ env' _ x _ qa hE0 rx' fun σ2 he2 al => ⟨?_, ?_⟩
      · exact ((alike_wipe σ tg.sl).trans al).wipe
      refine ⟨env', S', _, he2, hS, ?_⟩
      cases qc : fc env' S' with
      | bad => rw [qc] at hk; exact hk.elim
      | exc _ _ _ => rw [qc] at hk; exact hk.elim
      | ok b S3 =>
        rw [qc] at hk
        intro H3 m3 b' ex3 s3 r3
        have r3 : b = b' := r3
        subst r3
        obtain ⟨l3, p3, t3⟩ := m3
        have et3 : t3 = m1.T := ex3.T
        subst et3
        have ep3 : p3 = A :: m1.pr := ex3.pr
        subst ep3
        have hA3 : H3 A = some (.lst avs) := ex3.keep A _ hAv hlsA (fun ps z => nomatch z)
        have hx3 : Ext H1 m1 H3 ⟨l3, m1.pr, m1.T⟩ := hx.trans (ex3.pr' rfl)
        have hacc3 := RelDs.mono ex3.mono _ _ hacc
        cases b with
        | false =>
          rw [if_neg Bool.false_ne_true]
          exact ⟨l3, S3, acc, avs, hA3, hacc3, s3, hx3, by
            have e : ((R.ok false S3).bind fun (b : Bool) S1 => if b = true then (fe env' S1).bind fun y S2 => R.ok (some y) S2 else R.ok none S1) = R.ok none S3 := rfl
            rw [e] at hk
            have e2 : ((R.ok (none : Option D) S3).bind fun o S1 => (lcL (lcF tg env fc fe) (xs.drop (i + 1)) S1).bind fun r S2 => R.ok (match o with | some y => y :: r | none => r) S2) = (lcL (lcF tg env fc fe) (xs.drop (i + 1)) S3) := by
              show ((lcL (lcF tg env fc fe) (xs.drop (i + 1)) S3).bind fun r S2 => R.ok r S2) = _
              cases lcL (lcF tg env fc fe) (xs.drop (i + 1)) S3 <;> rfl
            rw [e2] at hk
            exact hk⟩
        | true =>
          rw [if_pos rfl]
          refine ⟨env', S3, _, he2.mono (fun _ _ _ _ _ _ _ => trivial) ex3.mono, s3, ?_⟩
          have e : ((R.ok true S3).bind fun (b : Bool) S1 => if b = true then (fe env' S1).bind fun y S2 => R.ok (some y) S2 else R.ok none S1) = (fe env' S3).bind fun y S2 => R.ok (some y) S2 := rfl
          rw [e] at hk
          cases qe : fe env' S3 with
          | bad => rw [qe] at hk; exact hk.elim
          | exc _ _ _ => rw [qe] at hk; exact hk.elim
          | ok y S4 =>
            rw [qe] at hk
            intro H4 m4 vy ex4 s4 ry
            obtain ⟨l4, p4, t4⟩ := m4
            have et4 : t4 = m1.T := ex4.T
            subst et4
            have ep4 : p4 = A :: m1.pr := ex4.pr
            subst ep4
            have hl3A : A ∉ l3 := fun z => s3.dis A z List.mem_cons_self
            have hA4 : H4 A = some (.lst avs) := ex4.keep A _ hA3 hl3A (fun ps z => nomatch z)
            have hacc4 := RelDs.mono ex4.mono _ _ hacc3
            have hx4 : Ext H1 m1 H4 ⟨l4, m1.pr, m1.T⟩ := hx3.trans (ex4.pr' rfl)
            have e3 : (((R.ok y S4).bind fun y S2 => R.ok (some y) S2).bind fun o S1 => (lcL (lcF tg env fc fe) (xs.drop (i + 1)) S1).bind fun r S2 => R.ok (match o with | some y => y :: r | none => r) S2) = ((lcL (lcF tg env fc fe) (xs.drop (i + 1)) S4).bind fun r S2 => R.ok (y :: r) S2) := rfl
            rw [e3] at hk
            have hk2 : Cont L W σ (RelD L.K) Q H1 m1 ((noexc (lcL (lcF tg env fc fe) (xs.drop (i + 1)) S4)).bind fun ys S5 => finL fz ((acc ++ [y]) ++ ys) S5) := by
              cases qr : lcL (lcF tg env fc fe) (xs.drop (i + 1)) S4 with
              | bad => rw [qr] at hk; exact hk
              | exc _ _ _ => rw [qr] at hk; exact hk
              | ok r S5 =>
                rw [qr] at hk
                have e4 : (acc ++ [y]) ++ r = acc ++ (y :: r) := by simp
                show Cont L W σ (RelD L.K) Q H1 m1 (finL fz ((acc ++ [y]) ++ r) S5)
                rw [e4]
                exact hk
            have hsz : acc.length < sizeLine := by
              cases qr : lcL (lcF tg env fc fe) (xs.drop (i + 1)) S4 with
              | bad => rw [qr] at hk; exact hk.elim
              | exc _ _ _ => rw [qr] at hk; exact hk.elim
              | ok r S5 =>
                rw [qr] at hk
                have hk3 : Cont L W σ (RelD L.K) Q H1 m1 (finL fz (acc ++ (y :: r)) S5) := hk
                unfold finL at hk3
                split at hk3
                · rename_i hh
                  rw [List.length_append, List.length_cons] at hh
                  omega
                · exact hk3.elim
            refine ⟨avs, hA4, by rw [hacc4.length]; exact hsz, l4, S4, acc ++ [y], avs ++ [vy], upd_same, ?_, ?_, ?_, hk2⟩
            · exact RelDs.mono (Mono.turn (p := A) (List.mem_cons_self) (by rw [hA4]; simp)) _ _ (hacc4.app (.one ry))
            · exact s4.turn List.mem_cons_self .lst
            · exact ⟨fun a o h1 h2 h3 => by rw [upd_ne (ne_of_none h1 hA)]; exact hx4.keep a o h1 h2 h3, fun a ps h => by
                obtain ⟨qs, z⟩ := hx4.tbl a ps h
                exact ⟨qs, by rw [upd_ne (ne_of_none h hA)]; exact z⟩, hx4.pre, hx4.newl, rfl, rfl⟩
  · have ei : i = vs.length := by omega
    refine .inl ⟨wj.stop i H' hstd (show vs.length ≤ i by omega), ?_⟩
    have ed : xs.drop i = [] := List.drop_eq_nil_of_le (by omega)
    rw [ed] at hk
    have hk2 : Cont L W σ (RelD L.K) Q H1 m1 (finL fz (acc ++ []) S') := hk
    rw [List.append_nil] at hk2
    unfold finL at hk2
    split at hk2
    · have sd : RelS L.K H' ⟨ls, m1.pr, m1.T⟩ S' := RelS.drop (m := ⟨ls, m1.pr, m1.T⟩) (p := A) hS
      cases fz with
      | true =>
        rw [if_pos rfl] at hk2
        exact hk2 H' ⟨ls, m1.pr, m1.T⟩ (.ref A) hx sd ⟨A, avs, rfl, ⟨hlsA, hAp, .inl hAv⟩, RelDs.mono (Mono.drop (m := ⟨ls, m1.pr, m1.T⟩) (p := A)) _ _ hacc⟩
      | false =>
        rw [if_neg Bool.false_ne_true] at hk2
        have sl : ls.length = S'.length := hS.len
        refine hk2 H' ⟨ls ++ [A], m1.pr, m1.T⟩ (.ref A) ⟨hx.keep, hx.tbl, hx.pre.trans (List.prefix_append _ _), fun a h => ?_, rfl, rfl⟩ (RelS.adopt (m := ⟨ls, m1.pr, m1.T⟩) hS hAv hAp hacc) ⟨A, rfl, ?_⟩
        · rcases List.mem_append.mp h with h | h
          · exact hx.newl a h
          · exact .inr (by rw [List.mem_singleton.mp h]; exact hA)
        · show (ls ++ [A])[S'.length]? = _
          rw [List.getElem?_append_right (by omega)]
          simp [sl]
    · exact hk2.elim
theorem e_lc (G : Good t L g W Z X c) {fz : Bool} {tg : Tg} {fi : KF.Env → Store → R (List D)} {fc : KF.Env → Store → R Bool} {fe : Ev} {elt tgt iter : Expr} {ifs : List Expr} {s : Scope} {p : Pos} (hc : c.suite = none) (hns : notSet iter = true)
    (hi : PI X tgt iter (tI L W Z fi)) (hb : blkC c.N c.sc s (ownOf c tg) = true)
    (hg : ∀ (s' : Shared) (H : Hp) (C : Addr) (cl : List (Str × Addr)) (fp : List Addr), PG (X.blk s' H s (compEnvC s cl C X.env) fp) tgt (tGr L.K tg))
    (ht : ∀ (s' : Shared) (H : Hp) (C : Addr) (cl : List (Str × Addr)) (fp : List Addr), PTs (X.blk s' H s (compEnvC s cl C X.env) fp) ifs (tBb L W0 Z0 fc))
    (he : ∀ (s' : Shared) (H : Hp) (C : Addr) (cl : List (Str × Addr)) (fp : List Addr), PE (X.blk s' H s (compEnvC s cl C X.env) fp) elt (tD L W0 Z0 fe)) :
    PE X (.ListComp elt [⟨tgt, iter, ifs, 0⟩] s p) (tD L W Z fun env S => (fi env S).bind fun xs S1 => (noexc (lcL (lcF tg env fc fe) xs S1)).bind fun ys S5 => finL fz ys S5) := by
  have hb' : blkC X.N X.env.scope s (ownOf c tg) = true := by rw [G.N, G.sc]; exact hb
  exact (pe_lc (G.calm hc) (by rw [G.N]; exact G.nd) hi (blkOk_by hb') hg ht he (notSet_fold hns _)).imp fun σ H Q w => lc_read G w
/-- stored within the comprehension's frame -/
theorem s_lc (G : Good t L g W Z X c) {fz : Bool} {tg : Tg} {fi : KF.Env → Store → R (List D)} {fc : KF.Env → Store → R Bool} {fe : Ev} {elt tgt iter : Expr} {ifs : List Expr} {s : Scope} {p py spos : Pos} {i : Nat} {y : Str} (hc : c.suite = none) (hns : notSet iter = true)
    (hy : c.N[i]? = some y) (hyl : c.sc.names.lookup y = some .local) (hsw : swapsWith (.ListComp elt [⟨tgt, iter, ifs, 0⟩] s p) (some (.Name y py)) spos.line X.env = pure true)
    (hi : PI X tgt iter (tI L W Z fi)) (hb : blkC c.N c.sc s (ownOf c tg) = true)
    (hg : ∀ (s' : Shared) (H : Hp) (C : Addr) (cl : List (Str × Addr)) (fp : List Addr), PG (X.blk s' H s (compEnvC s cl C X.env) fp) tgt (tGr L.K tg))
    (ht : ∀ (s' : Shared) (H : Hp) (C : Addr) (cl : List (Str × Addr)) (fp : List Addr), PTs (X.blk s' H s (compEnvC s cl C X.env) fp) ifs (tBb L W0 Z0 fc))
    (he : ∀ (s' : Shared) (H : Hp) (C : Addr) (cl : List (Str × Addr)) (fp : List Addr), PE (X.blk s' H s (compEnvC s cl C X.env) fp) elt (tD L W0 Z0 fe)) :
    PS X (.Assign [.Name y py] (.ListComp elt [⟨tgt, iter, ifs, 0⟩] s p) spos) (fun D σ H => tD L W Z (fun env S => (fi env S).bind fun xs S1 => (noexc (lcL (lcF tg env fc fe) xs S1)).bind fun ys S5 => finL fz ys S5) σ H fun x H1 => gName i x σ H1 D.nx) := by
  have hb' : blkC X.N X.env.scope s (ownOf c tg) = true := by rw [G.N, G.sc]; exact hb
  refine ⟨fun pins s' σ H D I w => (ps_setLc (G.calm hc) (by rw [G.N]; exact G.nd) (by rw [G.N]; exact hy) (by rw [G.sc]; exact hyl) hsw hi (blkOk_by hb') hg ht he (notSet_fold hns _)).run pins s' σ H D I (lc_read G w)⟩
end
end KF

set_option Elab.async false
set_option linter.all false
set_option maxRecDepth 100000
set_option maxHeartbeats 4000000
/-! KF10: soundness of all expressions -/
namespace KF
open PySem PySem.Spec PyProof.Rows L2
section
variable {t : Tb} {L : Lk} {g : Cfg} {W : WX} {Z : ZP} {X : Cx} {c : Cc}
theorem Good.blk (G : Good t L g W Z X c) (hc : c.suite = none) {s : Scope} (s' : Shared) (H : Hp) (C : Addr) (cl : List (Str × Addr)) (fp : List Addr) : Good t L g W0 Z0 (X.blk s' H s (compEnvC s cl C X.env) fp) (blkCc c s) where
  K := G.K
  N := G.N
  nd := G.nd
  sc := by
    show relS s X.env.scope = relS s c.sc
    rw [G.sc]
  fn := fun x (h : s.names.lookup x = some .cell) => by
    show (s.names.lookup x == some .cell) = true
    rw [h]; rfl
  un := G.un
  free := G.free
  glob := G.glob
  tk := takes0
  po := PassesOwn.never
  ef := G.ef
  zm := fun _ _ _ _ _ _ _ => trivial
  calm := fun _ => G.calm hc
  zt := fun _ _ _ _ => trivial
  call := fun _ => G.call hc
  suite := fun i h => by cases h
theorem pt_pw {o : BoolOp} {vs : List Expr} {p : Pos} {T : TT} (h : PT X (.BoolOp o vs p) T) : PW X (.BoolOp o vs p) T := ⟨fun wh pins s σ H Q I w => h.run pins s σ H Q I w⟩
def Es.len : Es → Nat
  | .nil => 0
  | .cons _ r => r.len + 1
theorem evs_len {g : Cfg} : ∀ {as : Es} {env : KF.Env} {S S1 : Store} {ds : List D}, evs g as env S = .ok ds S1 → ds.length = as.len
  | .nil, env, S, S1, ds, h => by cases h; rfl
  | .cons e r, env, S, S1, ds, h => by
    unfold evs at h
    cases q : ev g e env S with
    | bad => rw [q] at h; cases h
    | exc _ _ _ => rw [q] at h; cases h
    | ok x S2 =>
      rw [q] at h
      have h : ((evs g r env S2).bind fun xs S3 => R.ok (x :: xs) S3) = R.ok ds S1 := h
      cases q2 : evs g r env S2 with
      | bad => rw [q2] at h; cases h
      | exc _ _ _ => rw [q2] at h; cases h
      | ok xs S3 =>
        rw [q2] at h
        cases h
        rw [List.length_cons, evs_len q2]; rfl
theorem chks_len {t : Tb} {c : Cc} : ∀ {as : Es} {es : List Expr}, chks t as c es = true → es.length = as.len
  | .nil, es, h => by
    unfold chks at h
    cases es with
    | nil => rfl
    | cons _ _ => cases h
  | .cons e r, es, h => by
    unfold chks at h
    cases es with
    | nil => cases h
    | cons a es =>
      dsimp only at h
      rw [Bool.and_eq_true] at h
      rw [List.length_cons, chks_len h.2]; rfl
theorem e_pl (zm : ZMono Z) {f : Ev} {a : Expr} (h : PE X a (tD L W Z f)) (hp : plainT a = true) : PE X a (tD L W Z f) ∧ PT X a (tBb L W Z fun env S => (f env S).bind asB) := ⟨h, test_of zm h hp⟩
end
mutual
theorem sound {t : Tb} {L : Lk} {g : Cfg} : ∀ (e : E) (c : Cc) (a : Expr), chk t e c a = true → ∀ {W : WX} {Z : ZP} {X : Cx}, Good t L g W Z X c → PE X a (tD L W Z fun env S => ev g e env S) ∧ PT X a (tBb L W Z fun env S => (ev g e env S).bind asB)
  | .v i, c, a, h, W, Z, X, G => by
    refine e_pl G.zm (e_name G h) ?_
    unfold chk at h
    split at h
    · rfl
    · cases h
  | .kn, c, a, h, W, Z, X, G => by
    unfold chk at h
    split at h
    · exact e_pl G.zm (e_const pe_non fun _ _ => rfl) rfl
    · cases h
  | .kb b, c, a, h, W, Z, X, G => by
    unfold chk at h
    split at h
    · have e := eq_of_beq h
      subst e
      exact e_pl G.zm (e_const pe_bl fun _ _ => rfl) rfl
    · cases h
  | .ki i, c, a, h, W, Z, X, G => by
    unfold chk at h
    split at h
    · have e := of_decide_eq_true h
      subst e
      exact e_pl G.zm (e_const pe_int fun _ _ => rfl) rfl
    · cases h
  | .ks x, c, a, h, W, Z, X, G => by
    unfold chk at h
    split at h
    · have e := of_decide_eq_true h
      subst e
      exact e_pl G.zm (e_const pe_str fun _ _ => rfl) rfl
    · cases h
  | .g k, c, a, h, W, Z, X, G => by
    refine e_pl G.zm (e_glob G h) ?_
    unfold chk at h
    split at h
    · rfl
    · cases h
  | .op o x y, c, a, h, W, Z, X, G => by
    unfold chk at h
    split at h
    · rename_i l p r pos
      simp only [Bool.and_eq_true] at h
      obtain ⟨h1, h2, h3⟩ := h
      rw [O2.is_eq h1]
      exact e_pl G.zm (e_op G (sound x c l h2 G).1 (sound y c r h3 G).1) rfl
    · cases h
  | .neg x, c, a, h, W, Z, X, G => by
    unfold chk at h
    split at h
    · exact e_pl G.zm (e_neg G (sound x c _ h G).1) rfl
    · cases h
  | .cmp o x y, c, a, h, W, Z, X, G => by
    unfold chk at h
    split at h
    · rename_i l p r pos
      simp only [Bool.and_eq_true] at h
      obtain ⟨h1, h2, h3, h4⟩ := h
      rw [C2.is_eq h1]
      exact e_cmp G (sound x c l h3 G).1 (sound y c r h4 G).1 h2
    · cases h
  | .isn ng x, c, a, h, W, Z, X, G => by
    unfold chk at h
    split at h
    · rename_i l p j p2 pos
      rw [Bool.and_eq_true, decide_eq_true_eq] at h
      obtain ⟨h1, h2⟩ := h
      rw [h1]
      exact e_is G (sound x c l h2 G).1
    · cases h
  | .and x y, c, a, h, W, Z, X, G => by
    unfold chk at h
    split at h
    · rename_i l r p
      rw [Bool.and_eq_true] at h
      obtain ⟨v1, t1⟩ := sound x c l h.1 G
      obtain ⟨v2, t2⟩ := sound y c r h.2 G
      obtain ⟨⟨o1, o2⟩, _⟩ := e_one v2 t2 (p := p)
      obtain ⟨q1, q2⟩ := e_and G v1 t1 o1 o2
      exact ⟨q1, q2.pt⟩
    · rename_i l r r2 rs p
      rw [Bool.and_eq_true] at h
      obtain ⟨v1, t1⟩ := sound x c l h.1 G
      obtain ⟨v2, t2⟩ := sound y c _ h.2 G
      obtain ⟨q1, q2⟩ := e_and G v1 t1 v2 (pt_pw t2)
      exact ⟨q1, q2.pt⟩
    · cases h
  | .or x y, c, a, h, W, Z, X, G => by
    unfold chk at h
    split at h
    · rename_i l r p
      rw [Bool.and_eq_true] at h
      obtain ⟨v1, t1⟩ := sound x c l h.1 G
      obtain ⟨v2, t2⟩ := sound y c r h.2 G
      obtain ⟨_, o1, o2⟩ := e_one v2 t2 (p := p)
      obtain ⟨q1, q2⟩ := e_or G v1 t1 o1 o2
      exact ⟨q1, q2.pt⟩
    · rename_i l r r2 rs p
      rw [Bool.and_eq_true] at h
      obtain ⟨v1, t1⟩ := sound x c l h.1 G
      obtain ⟨v2, t2⟩ := sound y c _ h.2 G
      obtain ⟨q1, q2⟩ := e_or G v1 t1 v2 (pt_pw t2)
      exact ⟨q1, q2.pt⟩
    · cases h
  | .not x, c, a, h, W, Z, X, G => by
    unfold chk at h
    split at h
    · obtain ⟨v1, t1⟩ := sound x c _ h G
      exact e_not G v1 t1
    · cases h
  | .ite x y z, c, a, h, W, Z, X, G => by
    unfold chk at h
    split at h
    · simp only [Bool.and_eq_true] at h
      obtain ⟨h1, h2, h3⟩ := h
      obtain ⟨_, t1⟩ := sound x c _ h1 G
      obtain ⟨v2, t2⟩ := sound y c _ h2 G
      obtain ⟨v3, t3⟩ := sound z c _ h3 G
      exact e_ite G t1 v2 t2 v3 t3
    · cases h
  | .call f as, c, a, h, W, Z, X, G => by
    unfold chk at h
    split at h
    · simp only [Bool.and_eq_true, decide_eq_true_eq] at h
      obtain ⟨h1, h2, h3, h4, h5, h6⟩ := h
      exact e_pl G.zm (e_call G h1 h2 h3 h4 h5 (fun env S ds S1 q => by rw [evs_len q, chks_len h6]) (sounds as c _ h6 h5 G)) rfl
    · cases h
  | .bi b as, c, a, h, W, Z, X, G => by
    unfold chk at h
    split at h
    · simp only [Bool.and_eq_true] at h
      obtain ⟨h1, h2, h3, h4⟩ := h
      exact e_pl G.zm (e_bi G h1 h2 h3 (sounds as c _ h4 h3 G)) rfl
    · cases h
  | .isi x ts, c, a, h, W, Z, X, G => by
    unfold chk at h
    split at h
    · simp only [Bool.and_eq_true] at h
      obtain ⟨h1, h2, h3, h4⟩ := h
      exact e_pl G.zm (e_isi G h1 h2 h4 (sound x c _ h3 G).1) rfl
    · cases h
  | .tup as, c, a, h, W, Z, X, G => by
    unfold chk at h
    split at h
    · rw [Bool.and_eq_true] at h
      exact e_pl G.zm (e_tup G (sounds as c _ h.2 h.1 G)) rfl
    · cases h
  | .lst fz as, c, a, h, W, Z, X, G => by
    unfold chk at h
    split at h
    · rw [Bool.and_eq_true] at h
      exact e_pl G.zm (e_lst G (sounds as c _ h.2 h.1 G)) rfl
    · cases h
  | .ix x y, c, a, h, W, Z, X, G => by
    unfold chk at h
    split at h
    · simp only [Bool.and_eq_true] at h
      obtain ⟨h1, h2, h3⟩ := h
      exact e_pl G.zm (e_ix G (sound x c _ h2 G).1 (sound y c _ h3 G).1 h1) rfl
    · cases h
  | .fx i f, c, a, h, W, Z, X, G => by
    unfold chk at h
    split at h
    · simp only [Bool.and_eq_true, decide_eq_true_eq] at h
      obtain ⟨h1, h2, h3, h4, h5⟩ := h
      subst h1
      exact e_pl G.zm (e_fx G h2 h3 h4 h5) rfl
    · cases h
  | .lc fz e tg it cs, c, a, h, W, Z, X, G => by
    unfold chk at h
    split at h
    · rename_i elt tgt iter ifs k s p
      simp only [Bool.and_eq_true, decide_eq_true_eq] at h
      obtain ⟨h1, rfl, h3, h4, h5, h6, h7, h8⟩ := h
      have hc := calm_of h1
      refine e_pl G.zm (e_lc G hc h3 (soundI it c iter h5 G) h4 (fun s' H C cl fp => ?_) (fun s' H C cl fp => ?_) (fun s' H C cl fp => ?_)) rfl
      · have h := g_ok (G.blk hc (s := s) s' H C cl fp) (G.calm hc) tg tgt h6
        have e : (X.blk s' H s (compEnvC s cl C X.env) fp).K = L.K := G.K
        rw [e] at h
        exact h
      · exact soundC cs (blkCc c s) ifs h7 (G.blk hc s' H C cl fp)
      · exact (sound e (blkCc c s) elt h8 (G.blk hc s' H C cl fp)).1
    · cases h
  | .lrng x, c, a, h, W, Z, X, G => by
    unfold chk at h
    split at h
    · simp only [Bool.and_eq_true] at h
      obtain ⟨h1, h2, h3, h4, h5⟩ := h
      exact e_pl G.zm (e_lrng G h1 h2 h3 h4 (sound x c _ h5 G).1) rfl
    · cases h
theorem sounds {t : Tb} {L : Lk} {g : Cfg} : ∀ (as : Es) (c : Cc) (es : List Expr), chks t as c es = true → es.all notStar = true → ∀ {W : WX} {Z : ZP} {X : Cx}, Good t L g W Z X c → PA X es (tDs L W Z fun env S => evs g as env S)
  | .nil, c, es, h, _, W, Z, X, G => by
    unfold chks at h
    cases es with
    | nil => exact a_nil
    | cons _ _ => cases h
  | .cons e r, c, es, h, hn, W, Z, X, G => by
    unfold chks at h
    cases es with
    | nil => cases h
    | cons a es =>
      dsimp only at h
      rw [Bool.and_eq_true] at h
      rw [List.all_cons, Bool.and_eq_true] at hn
      exact a_cons G hn.1 (sound e c a h.1 G).1 (sounds r c es h.2 hn.2 G)
theorem soundI {t : Tb} {L : Lk} {g : Cfg} : ∀ (it : It) (c : Cc) (a : Expr), chkI t it c a = true → ∀ {W : WX} {Z : ZP} {X : Cx} {tgt : Expr}, Good t L g W Z X c → PI X tgt a (tI L W Z fun env S => evI g it env S)
  | .val e, c, a, h, W, Z, X, tgt, G => by
    unfold chkI at h
    exact i_val G (sound e c a h G).1
  | .rng e, c, a, h, W, Z, X, tgt, G => by
    unfold chkI at h
    split at h
    · simp only [Bool.and_eq_true] at h
      obtain ⟨h1, h2, h3⟩ := h
      exact i_rng G h1 h2 (sound e c _ h3 G).1
    · cases h
theorem soundC {t : Tb} {L : Lk} {g : Cfg} : ∀ (cs : Cs) (c : Cc) (es : List Expr), chkC t cs c es = true → ∀ {W : WX} {Z : ZP} {X : Cx}, Good t L g W Z X c → PTs X es (tBb L W Z fun env S => evC g cs env S)
  | .no, c, es, h, W, Z, X, G => by
    unfold chkC at h
    cases es with
    | nil => exact ⟨fun pins s σ H Q I w => pts_nil.run pins s σ H Q I (te_ok w fun _ _ => rfl)⟩
    | cons _ _ => cases h
  | .one e, c, es, h, W, Z, X, G => by
    unfold chkC at h
    split at h
    · exact pts_one (sound e c _ h G).2
    · cases h
end
end KF

set_option Elab.async false
set_option linter.all false
set_option maxRecDepth 100000
set_option maxHeartbeats 4000000
/-! KF11: statements -/
namespace KF
open PySem PySem.Spec PyProof.Rows L2 LamX
def ContS (L : Lk) (W : WX) (Z : ZP) (D : Ends) (H : Hp) (m : Mp) : RS → Prop
  | .next env S => ∀ H' m' σ', Ext H m H' m' → RelS L.K H' m' S → RelE L Z H' m' env σ' → D.nx σ' H'
  | .ret d S => ∀ H' m' v, Ext H m H' m' → RelS L.K H' m' S → RelD L.K H' m' d v → D.rt v H'
  | .brk env S => ∀ H' m' σ', Ext H m H' m' → RelS L.K H' m' S → RelE L Z H' m' env σ' → D.bk σ' H'
  | .cont env S => ∀ H' m' σ', Ext H m H' m' → RelS L.K H' m' S → RelE L Z H' m' env σ' → D.ct σ' H'
  | .exc c fs env S => ∀ H' m' σ' dx vs, Ext H m H' m' → RelS L.K H' m' S → RelE L Z H' m' env σ' → RelDs L.K H' m' fs vs → H' dx = some (.xd ((L.ef c).zip vs).reverse) → dx ∉ m'.locs → dx ∉ m'.pr → W (.ref (L.ea c)) (some dx) σ' H'
  | .bad => False
section
variable {L : Lk} {W : WX} {Z : ZP} {D D' : Ends} {H H1 : Hp} {m m1 : Mp}
theorem ContS.ext (e : Ext H m H1 m1) : ∀ {r : RS}, ContS L W Z D H m r → ContS L W Z D H1 m1 r
  | .next _ _, h => fun H' m' σ' e' s r => h H' m' σ' (e.trans e') s r
  | .ret _ _, h => fun H' m' σ' e' s r => h H' m' σ' (e.trans e') s r
  | .brk _ _, h => fun H' m' σ' e' s r => h H' m' σ' (e.trans e') s r
  | .cont _ _, h => fun H' m' σ' e' s r => h H' m' σ' (e.trans e') s r
  | .exc _ _ _ _, h => fun H' m' σ' dx vs e' s r r1 r2 r3 r4 => h H' m' σ' dx vs (e.trans e') s r r1 r2 r3 r4
  | .bad, h => h
theorem ContS.seq {D D' : Ends} {f : KF.Env → Store → RS} {r : RS} (hr : D'.rt = D.rt) (hb : D'.bk = D.bk) (hc : D'.ct = D.ct)
    (hn : ∀ env S, ∀ H' m' σ', Ext H m H' m' → RelS L.K H' m' S → RelE L Z H' m' env σ' → ContS L W Z D H' m' (f env S) → D'.nx σ' H')
    (h : ContS L W Z D H m (match r with | .next env' S' => f env' S' | r => r)) : ContS L W Z D' H m r := by
  cases r with
  | next env S => exact fun H' m' σ' e s r => hn env S H' m' σ' e s r (ContS.ext e h)
  | ret d S => unfold ContS; rw [hr]; exact h
  | brk d S => unfold ContS; rw [hb]; exact h
  | cont d S => unfold ContS; rw [hc]; exact h
  | exc _ _ _ _ => exact h
  | bad => exact h
theorem Cont.st {α β : Type} {Rl : Hp → Mp → α → β → Prop} {σ : L2.St} {env : KF.Env} {f : α → Store → RS} (zm : ZMono Z) (he : RelE L Z H m env σ) : ∀ {r : R α}, ContS L W Z D H m (r.st env f) →
    Cont L W σ Rl (fun v H1 => ∃ m1 d S1, Ext H m H1 m1 ∧ RelE L Z H1 m1 env σ ∧ RelS L.K H1 m1 S1 ∧ Rl H1 m1 d v ∧ ContS L W Z D H1 m1 (f d S1)) H m r
  | .ok d S', h => fun H' m' v e' s r => ⟨m', d, S', e', he.mono zm e'.mono, s, r, ContS.ext e' h⟩
  | .exc c fs S', h => fun H' m' dx vs e s r h1 h2 h3 => h H' m' σ dx vs e s (he.mono zm e.mono) r h1 h2 h3
  | .bad, h => h
end
def tS (L : Lk) (W : WX) (Z : ZP) (f : KF.Env → Store → RS) : TS := fun D σ H => ∃ env S m, RelE L Z H m env σ ∧ RelS L.K H m S ∧ ContS L W Z D H m (f env S)
theorem tS.st {L : Lk} {W : WX} {Z : ZP} {D : Ends} {α β : Type} {Rl : Hp → Mp → α → β → Prop} (zm : ZMono Z) {g : KF.Env → Store → R α} {f : KF.Env → α → Store → RS} {σ : L2.St} {H : Hp} (w : tS L W Z (fun env S => (g env S).st env fun d S1 => f env d S1) D σ H) :
    tE L W Z Rl g σ H fun v H1 => ∃ env m1 d S1, RelE L Z H1 m1 env σ ∧ RelS L.K H1 m1 S1 ∧ Rl H1 m1 d v ∧ ContS L W Z D H1 m1 (f env d S1) := by
  obtain ⟨env, S, m, he, hs, k⟩ := w
  exact ⟨env, S, m, he, hs, (Cont.st zm he k).imp fun v H1 ⟨m1, d, S1, _, a, b, c, e⟩ => ⟨env, m1, d, S1, a, b, c, e⟩⟩
/-! ### does it say the row's statements -/
def notComp : Expr → Bool
  | .ListComp _ _ _ _ => false
  | .SetComp _ _ _ _ => false
  | .DictComp _ _ _ _ _ => false
  | _ => true
theorem notComp_ok {e : Expr} (h : notComp e = true) (t : Option Expr) (l : Nat) (env : PySem.Env) : swapsWith e t l env = pure false := by cases e <;> first | rfl | cases h
def notTup : Expr → Bool
  | .Tuple _ _ _ => false
  | .List _ _ => false
  | _ => true
/-- y = [..] stored within the comprehension's frame -/
def swB (c : Cc) (v : Expr) (x : Str) (p : Pos) : Bool := match v with
  | .ListComp _ _ s q => decide (c.sc.kind = .function) && (decide (c.sc.names.lookup x = some .local) && (p.line == q.line && !(s.names.any fun (n, k) => n == x && (k == .local || k == .cell))))
  | _ => false
/-- (a, b) = (x, y) stored from the right -/
def parB (c : Cc) (ts vs : List Expr) : Bool := match ts, vs with
  | [.Name x p, .Name y q], [a, b] => decide (c.sc.kind = .function) && (decide (c.sc.names.lookup x = some .local) && (decide (c.sc.names.lookup y = some .local) && ((q.line == p.line) && (!(x == y) && (!(foldedForSure 8 a && foldedForSure 8 b) && (!(constantsAlone 8 a && constantsAlone 8 b) && (notStar a && notStar b)))))))
  | _, _ => false
/-- a comprehension that is stored behind its frame -/
def nswB (c : Cc) (v : Expr) (x : Str) (p : Pos) : Bool := match v with
  | .ListComp _ _ s q => decide (c.sc.kind = .function) && !(decide (c.sc.names.lookup x = some .local) && (p.line == q.line && !(s.names.any fun (n, k) => n == x && (k == .local || k == .cell))))
  | _ => false
/-- no such stores -/
def nparB (c : Cc) (ts vs : List Expr) : Bool := !(ts.length == 2 || ts.length == 3) || ts.any fun t => match t with
  | .Name x _ => !decide (c.sc.names.lookup x = some .local)
  | _ => true
def augO (o : O2) : Bool := match o with
  | .add => true
  | .sub => true
  | _ => false
def noArgs (ps : Arguments) : Bool := ps.posonlyargs.isEmpty && (ps.args.isEmpty && (ps.vararg.isNone && (ps.kwonlyargs.isEmpty && (ps.kw_defaults.isEmpty && (ps.kwarg.isNone && ps.defaults.isEmpty)))))
def chkRows (t : Tb) : Dds → Cc → List Expr → Bool
  | .nil, _, rs => rs.isEmpty
  | .cons e d r, c, rs => (match rs with
    | .Tuple [.Lambda ps b sc _, du] _ _ :: rs' => noArgs ps && (lamSB c.sc sc && (chk t e ⟨c.N, sc, some sc, none⟩ b && (chk t d c du && (notStar du && chkRows t r c rs'))))
    | _ => false)
mutual
def chkS (t : Tb) (dl : Bool) : St → Cc → Stmt → Bool
  | .ex e, c, a => (match a with
    | .Expr x _ => notComp x && chk t e c x
    | _ => false)
  | .ret e, c, a => (match a with
    | .Return (some x) _ => chk t e c x
    | _ => false)
  | .retN, _, a => (match a with
    | .Return none _ => true
    | _ => false)
  | .asg tg e, c, a => calmB c && (chk t e c (match a with | .Assign _ v _ => v | _ => .Constant .ellipsis 0 ⟨0, 0, 0, 0⟩) && (match a with
    | .Assign [.Name x p] v _ => (match tg with
      | .n i => decide (c.N[i]? = some x) && (locB c x && (notComp v || (swB c v x p || nswB c v x p)))
      | _ => false)
    | .Assign [.Tuple ts k p] (.Tuple vs k2 p2) _ => chkT c tg (.Tuple ts k p) && (nparB c ts vs || parB c ts vs)
    | .Assign [.Tuple ts k p] v _ => chkT c tg (.Tuple ts k p) && (notTup v && notComp v)
    | _ => false))
  | .augN i o e, c, a => calmB c && (match a with
    | .AugAssign (.Name x _) p v _ => o.is p && (augO o && (decide (c.N[i]? = some x) && (locB c x && chk t e c v)))
    | _ => false)
  | .augX x i o e, c, a => calmB c && (match a with
    | .AugAssign (.Subscript l r _) p v _ => o.is p && (augO o && (notSlice r && (chk t x c l && (chk t i c r && chk t e c v))))
    | _ => false)
  | .ifs x a b, c, s => (match s with
    | .If q y z _ => chk t x c q && (chkSs t dl a c y && chkSs t dl b c z)
    | _ => false)
  | .for_ tg it b, c, a => calmB c && (match a with
    | .For q x y [] _ => notSet x && (chkT c tg q && (chkI t it c x && chkSs t dl b c y))
    | _ => false)
  | .raise k as, c, a => calmB c && (match a with
    | .Raise (some (.Call (.Name x _) (e :: es) [] _)) none _ => decide (t.exN[k]? = some x) && (glB c.sc x && (dunB x && ((e :: es).all notStar && chks t as c (e :: es))))
    | _ => false)
  | .pass, _, a => (match a with
    | .Pass _ => true
    | _ => false)
  | .brk, _, a => (match a with
    | .Break _ => true
    | _ => false)
  | .cont, _, a => (match a with
    | .Continue _ => true
    | _ => false)
  | .deeds rows di du fi k b h, c, a => dl && (calmB c && (match a with
    | .For (.Tuple [.Name dn dp, .Name un up] _ _) (.Tuple rs _ _) [.Try (.Expr (.Call (.Name dn2 _) [] [] _) _ :: bs) [.ExceptHandler (some (.Name xn _)) (some fn) (h0 :: hs) _] [] [] _] [] _ =>
      decide (di ≠ du) && (decide (c.N[di]? = some dn) && (decide (dn2 = dn) && (decide (c.N[du]? = some un) && (decide (c.N[fi]? = some fn) && (decide (c.sc.names.lookup fn = some .local) && (locB c dn && (locB c un && (visB c.sc dn && (dunB dn && (decide (t.exN[k]? = some xn) &&
      (glB c.sc xn && (dunB xn && (rs.all notStar && (decide (rs.length ≤ sizeLine) && (chkRows t rows c rs && (chkSs t dl b c bs && chkSs t dl h ⟨c.N, c.sc, c.own, some fi⟩ (h0 :: hs)))))))))))))))))
    | _ => false))
def chkSs (t : Tb) (dl : Bool) : Sts → Cc → List Stmt → Bool
  | .nil, _, ss => ss.isEmpty
  | .cons s r, c, ss => (match ss with
    | a :: as => chkS t dl s c a && chkSs t dl r c as
    | [] => false)
end
/-- the classes of errors -/
def ExcOk (t : Tb) (L : Lk) (X : Cx) : Prop := ∀ (k : Nat) (x : Str), t.exN[k]? = some x → ∀ (e : Expr) (es : List Expr) (p p2 : Pos) (ta : TA), Gl X x → (x == ("__debug__" : Str)) = false → (e :: es).all notStar = true → PA X (e :: es) ta →
  PMk X (.Call (.Name x p) (e :: es) [] p2) (fun σ H Q => ta σ H fun vs H1 => vs.length = (L.ef k).length ∧ ∀ d, H1 d = none → Q (.ref (L.ea k)) (some d) (upd H1 d (.xd ((L.ef k).zip vs).reverse)))
section
variable {t : Tb} {L : Lk} {g : Cfg} {W : WX} {Z : ZP} {X : Cx} {c : Cc}
theorem s_ex (G : Good t L g W Z X c) {f : Ev} {a : Expr} {p : Pos} (h : PE X a (tD L W Z f)) (hn : notComp a = true) : PS X (.Expr a p) (tS L W Z fun env S => (f env S).st env fun _ S1 => .next env S1) := by
  refine (ps_expr h (notComp_ok hn _ _ _)).imp fun D σ H w => ?_
  refine (tS.st (Rl := RelD L.K) G.zm (f := fun env _ S1 => .next env S1) w).imp fun v H1 ⟨env, m1, d, S1, he, hs, r, k⟩ => ?_
  exact k H1 m1 σ (Ext.refl _ _) hs he
theorem s_ret (G : Good t L g W Z X c) {f : Ev} {a : Expr} {p : Pos} (h : PE X a (tD L W Z f)) : PS X (.Return (some a) p) (tS L W Z fun env S => (f env S).st env fun d S1 => .ret d S1) := by
  refine (ps_ret h).imp fun D σ H w => ?_
  refine (tS.st (Rl := RelD L.K) G.zm (f := fun env d S1 => .ret d S1) w).imp fun v H1 ⟨env, m1, d, S1, he, hs, r, k⟩ => ?_
  exact k H1 m1 v (Ext.refl _ _) hs r
theorem s_retN {p : Pos} : PS X (.Return none p) (tS L W Z fun _ S => .ret .non S) := ps_retN.imp fun D σ H ⟨env, S, m, he, hs, k⟩ => k H m .non (Ext.refl _ _) hs rfl
theorem s_pass {p : Pos} : PS X (.Pass p) (tS L W Z fun env S => .next env S) := ps_pass.imp fun D σ H ⟨env, S, m, he, hs, k⟩ => k H m σ (Ext.refl _ _) hs he
theorem s_brk {p : Pos} : PS X (.Break p) (tS L W Z fun env S => .brk env S) := ps_break.imp fun D σ H ⟨env, S, m, he, hs, k⟩ => k H m σ (Ext.refl _ _) hs he
theorem s_cont {p : Pos} : PS X (.Continue p) (tS L W Z fun env S => .cont env S) := ps_continue.imp fun D σ H ⟨env, S, m, he, hs, k⟩ => k H m σ (Ext.refl _ _) hs he
theorem ss_nil : PSs X [] (tS L W Z fun env S => .next env S) := pss_nil.imp fun D σ H ⟨env, S, m, he, hs, k⟩ => k H m σ (Ext.refl _ _) hs he
theorem ss_cons (G : Good t L g W Z X c) {f1 f2 : KF.Env → Store → RS} {s : Stmt} {ss : List Stmt} (h1 : PS X s (tS L W Z f1)) (h2 : PSs X ss (tS L W Z f2)) :
    PSs X (s :: ss) (tS L W Z fun env S => match f1 env S with | .next env' S' => f2 env' S' | r => r) := by
  refine (pss_cons h1 h2).imp fun D σ H ⟨env, S, m, he, hs, k⟩ => ?_
  refine ⟨env, S, m, he, hs, ContS.seq (D := D) rfl rfl rfl (fun env' S' H' m' σ' e s r q => ⟨env', S', m', r, s, q⟩) k⟩
theorem s_if (G : Good t L g W Z X c) {f : Ev} {fa fb : KF.Env → Store → RS} {q : Expr} {ss rs : List Stmt} {p : Pos} (h : PT X q (tBb L W Z fun env S => (f env S).bind asB)) (ha : PSs X ss (tS L W Z fa)) (hb : PSs X rs (tS L W Z fb)) :
    PS X (.If q ss rs p) (tS L W Z fun env S => ((f env S).bind asB).st env fun x S1 => if x = true then fa env S1 else fb env S1) := by
  refine (ps_if h ha hb).imp fun D σ H w => ?_
  refine (tS.st (Rl := fun _ _ (d : Bool) b => d = b) G.zm (f := fun env x S1 => if x = true then fa env S1 else fb env S1) w).imp fun b H1 ⟨env, m1, d, S1, he, hs, r, k⟩ => ?_
  have r : d = b := r
  subst r
  cases d with
  | true => exact ⟨env, S1, m1, he, hs, k⟩
  | false => exact ⟨env, S1, m1, he, hs, k⟩
/-- a store to a target, by its evaluation -/
theorem s_asgR (G : Good t L g W Z X c) (hc : c.suite = none) {tg : Tg} {f : Ev} {D : Ends} {σ : L2.St} {H : Hp} (w : tS L W Z (fun env S => (f env S).st env fun d S1 => match asg tg d env with
    | some env' => .next env' S1
    | none => .bad) D σ H) : tD L W Z f σ H fun x H1 => tGr L.K tg x σ H1 D.nx := by
  refine (tS.st (Rl := RelD L.K) G.zm (f := fun env d S1 => (match asg tg d env with
    | some env' => .next env' S1
    | none => .bad)) w).imp fun v H1 ⟨env, m1, d, S1, he, hs, r, k⟩ => ?_
  cases q : asg tg d env with
  | none => rw [q] at k; exact k.elim
  | some env' =>
    rw [q] at k
    exact g_sem (Z := Z) (G.zt hc) tg d env env' σ v _ q he r fun σ' he' _ => k H1 m1 σ' (Ext.refl _ _) hs he'
theorem s_asgN (G : Good t L g W Z X c) (hc : c.suite = none) {i : Nat} {x : Str} {f : Ev} {v : Expr} {p p2 : Pos} (hi : c.N[i]? = some x) (hl : locB c x = true) (hn : swapsWith v (some (.Name x p)) p2.line X.env = pure false) (h : PE X v (tD L W Z f)) :
    PS X (.Assign [.Name x p] v p2) (tS L W Z fun env S => (f env S).st env fun d S1 => match asg (.n i) d env with
      | some env' => .next env' S1
      | none => .bad) := by
  obtain ⟨h1, h2⟩ := fn_loc G hl
  exact (ps_set (i := i) (by rw [G.N]; exact G.nd) (by rw [G.N]; exact hi) h1 h hn h2).imp fun D σ H w => s_asgR (tg := .n i) G hc w
theorem s_asgT (G : Good t L g W Z X c) (hc : c.suite = none) {tg : Tg} {ts : List Expr} {k : Nat} {f : Ev} {v : Expr} {p p2 : Pos} (ht : chkT c tg (.Tuple ts k p) = true) (hn : notComp v = true) (hw : swappedStores [.Tuple ts k p] v X.env = pure none) (h : PE X v (tD L W Z f)) :
    PS X (.Assign [.Tuple ts k p] v p2) (tS L W Z fun env S => (f env S).st env fun d S1 => match asg tg d env with
      | some env' => .next env' S1
      | none => .bad) := by
  have hg := g_ok G (G.calm hc) tg _ ht
  rw [G.K] at hg
  exact (ps_asg h hg (notComp_ok hn (some (.Tuple ts k p)) p2.line X.env) hw rfl).imp fun D σ H w => s_asgR G hc w
/-- both stored from the right -/
theorem par_ok {c : Cc} {env : PySem.Env} (hs : env.scope = c.sc) {x y : Str} {a b : Expr} {p q pt pt2 : Pos} {k k2 : Nat} (h : parB c [.Name x p, .Name y q] [a, b] = true) :
    swappedStores [.Tuple [.Name x p, .Name y q] k pt] (.Tuple [a, b] k2 pt2) env = pure (some [x, y]) ∧ c.sc.names.lookup x = some .local ∧ c.sc.names.lookup y = some .local ∧ x ≠ y ∧ notStar a = true ∧ notStar b = true := by
  unfold parB at h
  simp only [Bool.and_eq_true, decide_eq_true_eq, Bool.not_eq_true'] at h
  obtain ⟨h1, h2, h3, h4, h5, h6, h7, h8, h9⟩ := h
  have e5 : x ≠ y := fun z => by rw [z] at h5; simp at h5
  refine ⟨?_, h2, h3, e5, h8, h9⟩
  have kx : env.kindOf x = some .local := by show env.scope.names.lookup x = _; rw [hs]; exact h2
  have ky : env.kindOf y = some .local := by show env.scope.names.lookup y = _; rw [hs]; exact h3
  have kb : env.blockKind = .function := by unfold Env.blockKind; rw [hs, h1]; rfl
  have el : (q.line == p.line) = true := h4
  have el2 : q.line = p.line := eq_of_beq el
  have e6 : (x == y) = false := h5
  unfold swappedStores
  have ed : ([x, y] : List Str).eraseDups = [x, y] := by
    have e7 : (y == x) = false := by rw [Bool.eq_false_iff]; intro z; rw [eq_of_beq z] at h5; simp at h5
    simp [List.eraseDups, List.eraseDupsBy, List.eraseDupsBy.loop, e6, e7]
  have pl : (Expr.Name x p).pos = p := rfl
  have pl2 : (Expr.Name y q).pos = q := rfl
  simp [kb, kx, ky, el2, h6, h7, pl, pl2, ed, List.filterMap]
  intro z
  exfalso
  rcases z with z | z
  · cases a <;> first | (cases z; done) | (cases h8; done)
  · cases b <;> first | (cases z; done) | (cases h9; done)
theorem npar_ok {c : Cc} {env : PySem.Env} (hs : env.scope = c.sc) {ts vs : List Expr} {k k2 : Nat} {p p2 : Pos} (h : nparB c ts vs = true) : swappedStores [.Tuple ts k p] (.Tuple vs k2 p2) env = pure none := by
  unfold nparB at h
  unfold swappedStores
  rw [Bool.or_eq_true] at h
  rcases h with h | h
  · rw [Bool.not_eq_true'] at h
    simp [h]
  · dsimp only
    split
    · rfl
    split
    · rfl
    have hlt : ∀ (g : Expr → Option Str) (l : List Expr), (∃ t ∈ l, g t = none) → (l.filterMap g).length < l.length := by
      intro g l
      induction l with
      | nil => rintro ⟨t, ht, _⟩; cases ht
      | cons a r ih =>
        rintro ⟨t, ht, e⟩
        have hle : (r.filterMap g).length ≤ r.length := List.length_filterMap_le _ _
        rcases List.mem_cons.mp ht with z | z
        · rw [← z, List.filterMap_cons_none e, List.length_cons]; omega
        · have := ih ⟨t, z, e⟩
          cases q : g a with
          | none => rw [List.filterMap_cons_none q, List.length_cons]; omega
          | some b => rw [List.filterMap_cons_some q, List.length_cons, List.length_cons]; omega
    rw [if_pos]
    simp only [Bool.or_eq_true, bne_iff_ne, ne_eq]
    refine .inl (Nat.ne_of_lt (hlt _ _ ?_))
    obtain ⟨t, ht, e⟩ := List.any_eq_true.mp h
    refine ⟨t, ht, ?_⟩
    cases t <;> try rfl
    rename_i x q
    have e : (!decide (c.sc.names.lookup x = some .local)) = true := e
    rw [Bool.not_eq_true', decide_eq_false_iff_not] at e
    have kx : (env.kindOf x == some .local) = false := by
      show (env.scope.names.lookup x == some .local) = false
      rw [hs]
      exact beq_eq_false_iff_ne.mpr e
    simp [kx]
theorem nsw_ok {c : Cc} {env : PySem.Env} (hs : env.scope = c.sc) {v : Expr} {x : Str} {p : Pos} {l : Nat} (h : nswB c v x p = true) : swapsWith v (some (.Name x p)) l env = pure false := by
  unfold nswB at h
  split at h
  · rename_i e g s q
    simp only [Bool.and_eq_true, decide_eq_true_eq, Bool.not_eq_true'] at h
    obtain ⟨h1, h2⟩ := h
    have kb : env.blockKind = .function := by unfold Env.blockKind; rw [hs, h1]; rfl
    unfold swapsWith
    have pl : (Expr.ListComp e g s q).pos = q := rfl
    have kx : (env.kindOf x == some .local) = decide (c.sc.names.lookup x = some .local) := by
      show (env.scope.names.lookup x == some .local) = _
      rw [hs]
      cases c.sc.names.lookup x with
      | none => rfl
      | some k => cases k <;> rfl
    have kf : (ScopeKind.function == ScopeKind.function) = true := rfl
    simp only [pl, kb, kx, kf, Bool.true_and, Bool.and_assoc, pure_bind]
    rw [h2]
  · cases h
theorem ntup_ok {env : PySem.Env} {ts : List Expr} {v : Expr} {k : Nat} {p : Pos} (h : notTup v = true) : swappedStores [.Tuple ts k p] v env = pure none := by
  cases v <;> first | rfl | cases h
theorem sw_ok {c : Cc} {env : PySem.Env} (hs : env.scope = c.sc) {v : Expr} {x : Str} {p : Pos} {l : Nat} (h : swB c v x p = true) : swapsWith v (some (.Name x p)) l env = pure true ∧ c.sc.names.lookup x = some .local ∧ ∃ e g s q, v = .ListComp e g s q := by
  unfold swB at h
  split at h
  · rename_i e g s q
    simp only [Bool.and_eq_true, decide_eq_true_eq, Bool.not_eq_true'] at h
    obtain ⟨h1, h2, h3, h4⟩ := h
    have kx : env.kindOf x = some .local := by show env.scope.names.lookup x = _; rw [hs]; exact h2
    have kb : env.blockKind = .function := by unfold Env.blockKind; rw [hs, h1]; rfl
    refine ⟨?_, h2, e, g, s, q, rfl⟩
    have e3 : p.line = q.line := eq_of_beq h3
    unfold swapsWith
    have pl : (Expr.ListComp e g s q).pos = q := rfl
    simp [pl, kb, kx, e3, h4]
  · cases h
theorem RelE.set {L : Lk} {Z : ZP} (zt : ∀ σ H m, Z σ H m) {H : Hp} {m : Mp} {env : KF.Env} {σ : L2.St} {i : Nat} {d : D} {v : V} (he : RelE L Z H m env σ) (hi : i < env.length) (r : RelD L.K H m d v) : RelE L Z H m (env.set i (some d)) (σ.set i (some v)) := by
  refine ⟨by rw [List.length_set, List.length_set]; exact he.1, fun j e q => ?_, zt _ _ _, he.2.2.2⟩
  by_cases hij : i = j
  · subst hij
    rw [List.getElem?_set_self hi] at q
    cases q
    exact ⟨v, by rw [List.getElem?_set_self (by rw [← he.1]; exact hi)], r⟩
  · rw [List.getElem?_set_ne hij] at q
    obtain ⟨w, e1, r1⟩ := he.2.1 j e q
    exact ⟨w, by rw [List.getElem?_set_ne hij]; exact e1, r1⟩
theorem st_bind {α β : Type} {r : R α} {f : α → Store → R β} {env : KF.Env} {h : β → Store → RS} : (r.bind f).st env h = r.st env fun x S => (f x S).st env h := by cases r <;> rfl
theorem s_par (G : Good t L g W Z X c) (hc : c.suite = none) {tg : Tg} {fs : KF.Env → Store → R (List D)} {a b : Expr} {x y : Str} {p q pt pt2 p2 : Pos} {k k2 : Nat} (ht : chkT c tg (.Tuple [.Name x p, .Name y q] k pt) = true) (h : parB c [.Name x p, .Name y q] [a, b] = true) (ha : PA X [a, b] (tDs L W Z fs)) :
    PS X (.Assign [.Tuple [.Name x p, .Name y q] k pt] (.Tuple [a, b] k2 pt2) p2) (tS L W Z fun env S => ((fs env S).bind fun ds S1 => if ds.length ≤ sizeLine then .ok (.tup ds) S1 else .bad).st env fun d S1 => match asg tg d env with
      | some env' => .next env' S1
      | none => .bad) := by
  obtain ⟨hw, hx, hy, hne, na, nb⟩ := par_ok (env := X.env) (p := p) (q := q) (pt := pt) (pt2 := pt2) (k := k) (k2 := k2) G.sc h
  obtain ⟨i, j, rfl⟩ : ∃ i j, tg = .t (.cons (.n i) (.cons (.n j) .nil)) := by
    cases tg with
    | n i => unfold chkT at ht; cases ht
    | t ts =>
      unfold chkT at ht
      dsimp only at ht
      rw [Bool.and_eq_true] at ht
      have ht := ht.2
      cases ts with
      | nil => cases ht
      | cons t1 r1 =>
        unfold chkTs at ht
        dsimp only at ht
        rw [Bool.and_eq_true] at ht
        cases t1 with
        | t _ => have := ht.1; unfold chkT at this; cases this
        | n i =>
          have ht := ht.2
          cases r1 with
          | nil => cases ht
          | cons t2 r2 =>
            unfold chkTs at ht
            dsimp only at ht
            rw [Bool.and_eq_true] at ht
            cases t2 with
            | t _ => have := ht.1; unfold chkT at this; cases this
            | n j =>
              cases r2 with
              | nil => exact ⟨i, j, rfl⟩
              | cons _ _ => have := ht.2; unfold chkTs at this; cases this
  have hi : c.N[i]? = some x ∧ c.N[j]? = some y := by
    simp only [chkT, chkTs, Bool.and_eq_true, decide_eq_true_eq] at ht
    exact ⟨ht.2.1.1, ht.2.2.1.1⟩
  have hij : i ≠ j := fun z => by
    subst z
    rw [hi.1] at hi
    exact hne (Option.some.inj hi.2)
  refine (ps_par (G.calm hc) (by rw [G.N]; exact G.nd) (by rw [G.N]; exact hi.1) (by rw [G.N]; exact hi.2) hij (by rw [G.sc]; exact hx) (by rw [G.sc]; exact hy) ha hw rfl).imp fun D σ H w => ?_
  obtain ⟨env, S, m, he, hs, kk⟩ := w
  have kk : ContS L W Z D H m (((fs env S).bind fun ds S1 => if ds.length ≤ sizeLine then R.ok (KF.D.tup ds) S1 else R.bad).st env fun d S1 => match asg (.t (.cons (.n i) (.cons (.n j) .nil))) d env with
      | some env' => .next env' S1
      | none => .bad) := kk
  rw [st_bind] at kk
  refine ⟨env, S, m, he, hs, (Cont.st (Rl := RelDs L.K) G.zm he kk).imp fun vs H1 ⟨m1, ds, S1, _, he1, hs1, r, k1⟩ => ?_⟩
  by_cases hl : ds.length ≤ sizeLine
  · rw [if_pos hl] at k1
    have k2 : ContS L W Z D H1 m1 (match asg (.t (.cons (.n i) (.cons (.n j) .nil))) (KF.D.tup ds) env with
        | some env' => .next env' S1
        | none => .bad) := k1
    cases q : asg (.t (.cons (.n i) (.cons (.n j) .nil))) (KF.D.tup ds) env with
    | none => rw [q] at k2; exact k2.elim
    | some env' =>
      rw [q] at k2
      have q1 : asgs (.cons (.n i) (.cons (.n j) .nil)) ds env = some env' := by unfold asg at q; exact q
      have hlen : ds.length = 2 := asgs_len q1
      obtain ⟨d1, d2, rfl⟩ : ∃ d1 d2, ds = [d1, d2] := by
        match ds, hlen with
        | [d1, d2], _ => exact ⟨d1, d2, rfl⟩
      obtain ⟨v, w, rfl, r1, r2⟩ := two_of r
      refine ⟨v, w, rfl, ?_⟩
      have e : asgs (.cons (.n i) (.cons (.n j) .nil)) [d1, d2] env = (if i < env.length then (if j < env.length then some ((env.set i (some d1)).set j (some d2)) else none) else none) := by
        by_cases h1 : i < env.length
        · by_cases h2 : j < env.length
          · simp [asg, asgs, h1, h2]
          · simp [asg, asgs, h1, h2]
        · simp [asg, asgs, h1]
      rw [e] at q1
      by_cases h1 : i < env.length
      · by_cases h2 : j < env.length
        · rw [if_pos h1, if_pos h2] at q1
          cases q1
          exact k2 H1 m1 _ (Ext.refl _ _) hs1 (RelE.set (G.zt hc) (RelE.set (G.zt hc) he1 h1 r1) (by rw [List.length_set]; exact h2) r2)
        · rw [if_pos h1, if_neg h2] at q1; cases q1
      · rw [if_neg h1] at q1; cases q1
  · rw [if_neg hl] at k1
    exact k1.elim
/-! ### op= -/
theorem ip_all {o : O2} : PIp X o.py (rO L fun _ => dopI o) := by
  refine OpR.any (f := inplaceOp o.py) fun x y H Q h => ?_
  obtain ⟨d, e, z, m, S, hs, rx, ry, hz, k⟩ := h
  have fin : ∀ v, RelD L.K H m z v → Q v H := fun v r => k H m v (Ext.refl H m) hs r
  cases o
  · cases d <;> cases e <;> simp only [dopI] at hz <;> try (cases hz; done)
    · cases hz
      exact ⟨_, iop_add, _, _, rx, ry, fin _ rfl⟩
    · split at hz
      · rename_i hl
        cases hz
        exact ⟨_, iop_add_str, _, _, rx, ry, hl, fin _ rfl⟩
      · cases hz
  · cases d <;> cases e <;> simp only [dopI] at hz <;> try (cases hz; done)
    cases hz
    exact ⟨_, iop_sub, _, _, rx, ry, fin _ rfl⟩
  · cases hz
  · cases hz
  · cases hz
  · cases hz
theorem s_augN (G : Good t L g W Z X c) (hc : c.suite = none) {i : Nat} {o : O2} {x : Str} {f : Ev} {v : Expr} {p p2 : Pos} (hi : c.N[i]? = some x) (hl : locB c x = true) (h : PE X v (tD L W Z f)) :
    PS X (.AugAssign (.Name x p) o.py v p2) (tS L W Z fun env S => match (env[i]?).join with
      | some x => (f env S).st env fun y S1 => match dopI o x y with
        | some z => .next (env.set i (some z)) S1
        | none => .bad
      | none => .bad) := by
  obtain ⟨h1, h2⟩ := fn_loc G hl
  refine (ps_aug (i := i) (by rw [G.N]; exact G.nd) (by rw [G.N]; exact hi) h1 h (ip_all (L := L)) h2).imp fun D σ H ⟨env, S, m, he, hs, k⟩ => ?_
  cases q : env[i]? with
  | none => dsimp only at k; rw [q] at k; exact k.elim
  | some o' =>
    cases o' with
    | none => dsimp only at k; rw [q] at k; exact k.elim
    | some d =>
      dsimp only at k
      rw [q] at k
      obtain ⟨xv, e1, r⟩ := he.2.1 i d q
      refine ⟨xv, e1, env, S, m, he, hs, ?_⟩
      have hil : i < env.length := (List.getElem?_eq_some_iff.mp q).1
      have k : ContS L W Z D H m ((f env S).st env fun y S1 => match dopI o d y with
        | some z => .next (env.set i (some z)) S1
        | none => .bad) := k
      -- the name's value stays what it is
      cases q2 : f env S with
      | bad => rw [q2] at k; exact k.elim
      | exc cc fs S1 =>
        rw [q2] at k
        exact fun H' m' dx vs e s r' h1 h2 h3 => k H' m' σ dx vs e s (he.mono G.zm e.mono) r' h1 h2 h3
      | ok y S1 =>
        rw [q2] at k
        intro H1 m1 vy ex s1 ry
        have k2 : ContS L W Z D H m (match dopI o d y with
          | some z => .next (env.set i (some z)) S1
          | none => .bad) := k
        cases q3 : dopI o d y with
        | none => rw [q3] at k2; exact k2.elim
        | some z =>
          rw [q3] at k2
          refine ⟨d, y, z, m1, S1, s1, r.mono ex.mono, ry, q3, fun H2 m2 v2 ex2 s2 r2 => ?_⟩
          exact k2 H2 m2 _ (ex.trans ex2) s2 (RelE.set (G.zt hc) ((he.mono G.zm ex.mono).mono G.zm ex2.mono) hil r2)
/-- xs[i], a list that changes, by values -/
theorem get_all (hK : X.K = L.K) : PGet X (rO L dix) := by
  intro pins s σ H o i ov iv Q I ro ri h
  obtain ⟨d, e, z, m, S, hs, rx, ry, hz, k⟩ := h
  have fin : ∀ v, RelD L.K H m z v → Q v H := fun v r => k H m v (Ext.refl H m) hs r
  unfold dix at hz
  cases q : items S d with
  | none => rw [q] at hz; cases hz
  | some xs =>
    rw [q] at hz
    cases e <;> try (cases hz; done)
    rename_i n
    obtain ⟨a, vs, rfl, hr, hq⟩ := items_sq hs rx q
    obtain ⟨v, e1, rv⟩ := atI_rel hr hz
    have hi : i = .int n := ry
    subst hi
    cases ro
    obtain ⟨tk, rfl⟩ := ri
    rcases hq with hq | hq
    · obtain ⟨its, r, pl, hz⟩ := I.list (by rw [hK]; exact hq)
      obtain ⟨j, h1, h2, h3, h4, h5⟩ := atI_get e1
      obtain ⟨w, ew, rw'⟩ := r.get h2
      have hl := r.length
      have hn := line63
      have fin2 : EP X pins σ Q w s := ⟨v, H, I, rw', fin v rv⟩
      by_cases h0 : 0 ≤ n
      · have hj : n.toNat = j := by
          rw [seqIndex_of h0 h5] at h1
          exact Option.some.inj h1
        exact wpAny_getItem_list pl.isList h0 (by omega) (by rw [hj]; simpa using ew) fin2
      · have hj : (n + (its.toArray.size : Int)).toNat = j := by
          rw [seqIndex_neg (by omega) h4] at h1
          rw [List.size_toArray, ← hl]
          exact Option.some.inj h1
        exact wpAny_getItem_list_neg pl.isList (by omega) (by rw [List.size_toArray] <;> omega) (by omega) (by rw [hj]; simpa using ew) fin2
    · obtain ⟨its, r, pl, hz⟩ := I.tuple (by rw [hK]; exact hq)
      obtain ⟨j, h1, h2, h3, h4, h5⟩ := atI_get e1
      obtain ⟨w, ew, rw'⟩ := r.get h2
      have hl := r.length
      have hn := line63
      have fin2 : EP X pins σ Q w s := ⟨v, H, I, rw', fin v rv⟩
      exact getItem_tuple (j := j) pl (by omega) (by omega) (by rw [List.size_toArray, ← hl]; exact h1) (by simpa using ew) fin2
theorem notSlice_aug {b : Expr} (h : notSlice b = true) (ov iv new : Value) : augStore b ov iv new = (do holding [new, ov, iv] (setItem ov iv new); release [new, ov, iv] []; pure .next) := by cases b <;> first | rfl | cases h
theorem s_augX (G : Good t L g W Z X c) {o : O2} {fa fi fe : Ev} {l r v : Expr} {p p2 : Pos} (hn : notSlice r = true) (ha : PE X l (tD L W Z fa)) (hi : PE X r (tD L W Z fi)) (he : PE X v (tD L W Z fe)) :
    PS X (.AugAssign (.Subscript l r p) o.py v p2) (tS L W Z fun env S => (fa env S).st env fun x S1 => (fi env S1).st env fun k S2 => match dix S2 x k with
    | some old => (fe env S2).st env fun y S3 => match dopI o old y, x, k with
      | some z, .loc n, .int j => (match S3[n]? with
        | some (.lst xs) => (match ixN xs.length j with
          | some p => .next env (S3.set n (.lst (xs.set p z)))
          | none => .bad)
        | none => .bad)
      | _, _, _ => .bad
    | none => .bad) := by
  refine (ps_augS ha hi (get_all (L := L) G.K) he (ip_all (L := L) (o := o)) set_list (notSlice_aug hn)).imp fun D σ H w => ?_
  obtain ⟨env, S, m, hE, hs, k⟩ := w
  refine ⟨env, S, m, hE, hs, (Cont.st (Rl := RelD L.K) G.zm hE k).imp fun xv H1 ⟨m1, x, S1, _, hE1, hs1, rx, k1⟩ => ?_⟩
  refine ⟨env, S1, m1, hE1, hs1, (Cont.st (Rl := RelD L.K) G.zm hE1 k1).imp fun iv H2 ⟨m2, i, S2, e2, hE2, hs2, ri, k2⟩ => ?_⟩
  have rx2 := rx.mono e2.mono
  cases q : dix S2 x i with
  | none => rw [q] at k2; exact k2.elim
  | some old =>
    rw [q] at k2
    refine ⟨x, i, old, m2, S2, hs2, rx2, ri, q, fun H3 m3 ov e3 hs3 ro => ?_⟩
    refine ⟨env, S2, m3, hE2.mono G.zm e3.mono, hs3, (Cont.st (Rl := RelD L.K) G.zm (hE2.mono G.zm e3.mono) (ContS.ext e3 k2)).imp fun yv H4 ⟨m4, y, S4, e4, hE4, hs4, ry, k4⟩ => ?_⟩
    cases q2 : dopI o old y with
    | none => rw [q2] at k4; exact k4.elim
    | some z =>
      rw [q2] at k4
      cases x with
      | loc n =>
        cases i with
        | int j =>
          refine ⟨old, y, z, m4, S4, hs4, ro.mono e4.mono, ry, q2, fun H5 m5 zv e5 hs5 rz => ?_⟩
          obtain ⟨a, rfl, ha⟩ := (rx2.mono e3.mono).mono (e4.mono) |>.mono e5.mono
          have k5 : ContS L W Z D H4 m4 (match S4[n]? with
            | some (.lst xs) => (match ixN xs.length j with
              | some p => .next env (S4.set n (.lst (xs.set p z)))
              | none => .bad)
            | none => .bad) := k4
          cases q3 : S4[n]? with
          | none => rw [q3] at k5; exact k5.elim
          | some ob =>
            cases ob with
            | lst xs =>
              rw [q3] at k5
              dsimp only at k5
              cases q4 : ixN xs.length j with
              | none => rw [q4] at k5; exact k5.elim
              | some p =>
                rw [q4] at k5
                obtain ⟨b, b1, vs, b2, b3⟩ := hs5.at_ n _ q3
                rw [ha] at b1; cases b1
                refine ⟨a, vs, j, p, rfl, ri, b2, by rw [b3.length]; exact q4, ?_⟩
                have hm : a ∈ m5.locs := List.mem_of_getElem? ha
                exact k5 _ m5 σ (e5.trans (Ext.put hs5 hm (hs5.notTbl ha))) (hs5.putL ha (b3.set p rz)) ((hE4.mono G.zm e5.mono).mono G.zm (Mono.put hm))
        | _ => exact k4.elim
      | _ => exact k4.elim
/-! ### for -/
theorem s_for (G : Good t L g W Z X c) (hc : c.suite = none) {tg : Tg} {fi : KF.Env → Store → R (List KF.D)} {fb : KF.Env → Store → RS} {q iter : Expr} {body : List Stmt} {p : Pos} (hn : notSet iter = true) (ht : chkT c tg q = true) (hi : PI X q iter (tI L W Z fi)) (hb : PSs X body (tS L W Z fb)) :
    PS X (.For q iter body [] p) (tS L W Z fun env S => (fi env S).st env fun xs S1 => forL (fun x env S => match asg tg x env with
      | some env' => fb env' S
      | none => .bad) xs env S1) := by
  have hg := g_ok G (G.calm hc) tg _ ht
  rw [G.K] at hg
  refine (ps_for G.po (G.calm hc) hi hg hb (notSet_fold hn _)).imp fun D σ H w => ?_
  refine (tS.st (Rl := RlI L) G.zm (f := fun env xs S1 => forL (fun x env S => match asg tg x env with
      | some env' => fb env' S
      | none => .bad) xs env S1) w).imp fun pJ H1 ⟨env, m1, xs, S1, hE, hs, hR, k⟩ => ?_
  obtain ⟨J, vs, std⟩ := pJ
  obtain ⟨hr, wj, st0, stm⟩ := hR
  have hr : RelDs L.K H1 m1 xs vs := hr
  have hlen : vs.length = xs.length := hr.length
  let F : KF.D → KF.Env → Store → RS := fun x env S => match asg tg x env with
      | some env' => fb env' S
      | none => .bad
  let Inv' : Nat → L2.St → Hp → Prop := fun i σ' H' => ∃ env' S' m', RelE L Z H' m' env' σ' ∧ RelS L.K H' m' S' ∧ Ext H1 m1 H' m' ∧ ContS L W Z D H1 m1 (forL F (xs.drop i) env' S')
  refine ⟨fun i n σ' H' => n = vs.length - i ∧ i ≤ vs.length ∧ Inv' i σ' H', ⟨vs.length, by simp, Nat.zero_le _, env, S1, m1, hE, hs, Ext.refl _ _, k⟩, ?_⟩
  rintro i n σ' H' ⟨rfl, hil0, env', S', m', hE', hs', hx, hk⟩
  have hil : i ≤ vs.length := hil0
  have hstd : std H' := stm _ _ hx.mono
  by_cases hlt : i < vs.length
  · refine .inr ⟨wj.go i H' hstd hlt, Inv' (i + 1), fun σ2 H2 h2 => ⟨vs.length - (i + 1), by omega, rfl, hlt, h2⟩, fun x H2 hy => ?_⟩
    obtain ⟨rfl, hxi⟩ := wj.yld i H' x H2 hstd hlt hy
    have hix : i < xs.length := by omega
    obtain ⟨x', hx1, rx⟩ := hr.get (List.getElem?_eq_getElem hix)
    rw [hxi] at hx1; cases hx1
    rw [List.drop_eq_getElem_cons hix] at hk
    have rx' := RelD.mono hx.mono _ _ rx
    have hk : ContS L W Z D H1 m1 (match F xs[i] env' S' with
      | .next env' S' => forL F (xs.drop (i + 1)) env' S'
      | .cont env' S' => forL F (xs.drop (i + 1)) env' S'
      | .brk env' S' => .next env' S'
      | r => r) := hk
    cases qa : asg tg xs[i] env' with
    | none =>
      have e : F xs[i] env' S' = .bad := by show (match asg tg xs[i] env' with | some env' => fb env' S' | none => .bad) = _; rw [qa]
      rw [e] at hk; exact hk.elim
    | some env2 =>
      have e : F xs[i] env' S' = fb env2 S' := by show (match asg tg xs[i] env' with | some env' => fb env' S' | none => .bad) = _; rw [qa]
      rw [e] at hk
      refine g_sem (Z := Z) (G.zt hc) tg _ _ env2 _ x _ qa hE' rx' fun σ2 hE2 _ => ?_
      refine ⟨env2, S', m', hE2, hs', ?_⟩
      cases qb : fb env2 S' with
      | bad => rw [qb] at hk; exact hk.elim
      | next env3 S3 =>
        rw [qb] at hk
        exact fun H3 m3 σ3 e3 s3 r3 => ⟨env3, S3, m3, r3, s3, hx.trans e3, hk⟩
      | cont env3 S3 =>
        rw [qb] at hk
        exact fun H3 m3 σ3 e3 s3 r3 => ⟨env3, S3, m3, r3, s3, hx.trans e3, hk⟩
      | brk env3 S3 =>
        rw [qb] at hk
        exact fun H3 m3 σ3 e3 s3 r3 => hk H3 m3 σ3 (hx.trans e3) s3 r3
      | ret d S3 =>
        rw [qb] at hk
        exact fun H3 m3 v e3 s3 r3 => hk H3 m3 v (hx.trans e3) s3 r3
      | exc k fs env3 S3 =>
        rw [qb] at hk
        exact fun H3 m3 σ3 dx ws e3 s3 r3 h1 h2 h3 h4 => hk H3 m3 σ3 dx ws (hx.trans e3) s3 r3 h1 h2 h3 h4
  · have ed : xs.drop i = [] := List.drop_eq_nil_of_le (by omega)
    rw [ed] at hk
    exact .inl ⟨wj.stop i H' hstd (show vs.length ≤ i by omega), hk H' m' σ' hx hs' hE'⟩
theorem s_raise (G : Good t L g W Z X c) (hx : ExcOk t L X) (hc : c.suite = none) {k : Nat} {x : Str} {fs : KF.Env → Store → R (List KF.D)} {e : Expr} {es : List Expr} {p p2 p3 : Pos} (hk : t.exN[k]? = some x) (hg : glB c.sc x = true) (hd : dunB x = true) (hn : (e :: es).all notStar = true) (ha : PA X (e :: es) (tDs L W Z fs)) :
    PS X (.Raise (some (.Call (.Name x p) (e :: es) [] p2)) none p3) (tS L W Z fun env S => (fs env S).st env fun ds S1 => if ds.length = (L.ef k).length then .exc k ds env S1 else .bad) := by
  unfold dunB at hd
  simp only [Bool.and_eq_true, Bool.not_eq_true'] at hd
  refine (ps_raise (G.calm hc) G.tk (hx k x hk e es p p2 _ (gl_of G hg) hd.1 hn ha)).imp fun D σ H w => ?_
  refine (tS.st (Rl := RelDs L.K) G.zm (f := fun env ds S1 => if ds.length = (L.ef k).length then .exc k ds env S1 else .bad) w).imp fun vs H1 ⟨env, m1, ds, S1, hE, hs, r, q⟩ => ?_
  by_cases hl : ds.length = (L.ef k).length
  · rw [if_pos hl] at q
    refine ⟨by rw [r.length]; exact hl, fun d hd => ?_⟩
    exact q _ m1 σ d vs (Ext.new hd) (hs.new hd) (hE.mono G.zm (Mono.new hd)) (RelDs.mono (Mono.new hd) _ _ r) upd_same (hs.fresh hd) (hs.nopr hd)
  · rw [if_neg hl] at q
    exact q.elim
end
end KF

set_option Elab.async false
set_option linter.all false
set_option maxRecDepth 100000
set_option maxHeartbeats 4000000
/-! KF12: lambdas without parameters, made in a frame and called in it -/
namespace KF
open PySem PySem.Spec PyProof.Rows L2 LamX
/-- a lambda's object -/
def FunO (f : Addr) (q : Str) (ps : Arguments) (b : Expr) (sc : Scope) (cl : List (Str × Addr)) (c' : Addr) : HO := .ext fun h => ∃ pm ctv, h.get? f = some (PySem.W.kla_obj "<lambda>" q ps b sc cl pm c' ctv)
theorem funO_ne {f : Addr} {q : Str} {ps : Arguments} {b : Expr} {sc : Scope} {cl : List (Str × Addr)} {c' : Addr} (xs : Array Value) : FunO f q ps b sc cl c' ≠ .tbl xs := fun z => by
  unfold FunO at z
  cases z
def LamA (H : Hp) (m : Mp) (f : Addr) (q : Str) (ps : Arguments) (b : Expr) (sc : Scope) (cl : List (Str × Addr)) : Prop :=
  ∃ c', f ∉ m.locs ∧ f ∉ m.pr ∧ H f = some (FunO f q ps b sc cl c') ∧ c' ∉ m.locs ∧ c' ∉ m.pr ∧ H c' = some (CodeO c' q)
theorem notin_mono {H H' : Hp} {m m' : Mp} (e : Mono H m H' m') {a : Addr} (h1 : a ∉ m.locs) (h2 : a ∉ m.pr) (h3 : H a ≠ none) : a ∉ m'.locs ∧ a ∉ m'.pr := by
  refine ⟨fun z => ?_, fun z => ?_⟩
  · rcases e.newl a z with z | z | z
    · exact h1 z
    · exact h2 z
    · exact h3 z
  · rcases e.newp a z with z | z
    · exact h2 z
    · exact h3 z
theorem LamA.mono {H H' : Hp} {m m' : Mp} {f : Addr} {q : Str} {ps : Arguments} {b : Expr} {sc : Scope} {cl : List (Str × Addr)} (e : Mono H m H' m') (h : LamA H m f q ps b sc cl) : LamA H' m' f q ps b sc cl := by
  obtain ⟨c', h1, h2, h3, h4, h5, h6⟩ := h
  obtain ⟨a1, a2⟩ := notin_mono e h1 h2 (by rw [h3]; simp)
  obtain ⟨b1, b2⟩ := notin_mono e h4 h5 (by rw [h6]; simp)
  exact ⟨c', a1, a2, e.keep _ _ h3 h1 h2 funO_ne, b1, b2, e.keep _ _ h6 h4 h5 codeO_ne⟩
/-- what a frame needs that makes lambdas and catches -/
def Calls (t : Tb) (L : Lk) (g : Cfg) (X : Cx) (j : Nat) : Prop := ∀ f x n, t.fnN[f]? = some (x, n) → ∃ (a : Addr) (fd : FuncData) (ps : List Str) (k : Nat), X.mg x = some (.ref a) ∧ PySem.W.keepIn X.K (.ref a) = true ∧ Binds X.K fd ps [] ∧ ps.length = n ∧ Room (k + j) X.A ∧
    FnOk X.prog X.w X.K X.mg X.base (L2.CX X.prog X.w) k a fd ps (spC L n (g.call f))
structure LamF (t : Tb) (L : Lk) (g : Cfg) (X : Cx) : Prop where
  code : ∃ cc P, X.env.code = .ref cc ∧ TabB X.base X.mg cc P ∧ (P, X.env.qual ++ "<lambda>") ∈ L.T ∧ ∀ p ∈ L.T, p.1 = P → p.2 = X.env.qual ++ "<lambda>"
  stk : X.stack = X.env :: X.outer
  fr : X.env.frame = some X.env.locals
  room : Room 1 X.A
  call : Calls t L g X 1
section
variable {X : Cx} {pins : List (Addr × Obj)} {σ : L2.St} {H H0 : Hp} {s s0 : Shared}
/-- what is told of an object that stands already, new since s0 -/
theorem inv_adopt {pins0 : List (Addr × Obj)} {σ0 : L2.St} {f : Addr} {o : Obj} {φ : Heap → Prop} (I0 : Inv X pins σ H0 s0) (I : Inv X pins σ H s) (hf : s0.heap.objs.size ≤ f) (ho : s.heap.get? f = some o) (hn : H f = none) (hφ : φ s.heap)
    (st : ∀ h h', φ h → (∀ u, h.get? f = some u → h'.get? f = some u) → φ h') : Inv X pins σ (upd H f (.ext φ)) s := by
  have ne : ∀ b u, s0.heap.get? b = some u → b ≠ f := fun b u e z => by
    rw [z] at e
    exact Nat.lt_irrefl _ (Nat.lt_of_lt_of_le (Heap.lt_size e) hf)
  have lt : X.s_0.heap.objs.size ≤ f := Nat.le_trans (Nat.le_trans I0.ok.above (Nat.le_of_lt I0.lt)) hf
  refine I.step (h' := s.heap) (g' := s.gens) (d' := s.drawn) (t' := s.toks) (ch := [f]) (fun b hb => ?_) (fun b o _ _ _ e n => e) (fun b o _ _ _ e n => ⟨o.slots, e⟩) (fun b o hb e n => ?_) (fun b o _ e => ⟨o, e⟩)
    (fun b xs e => by rw [upd_ne (ne_of_none e hn)]; exact e) (fun b o u e => by rw [upd_ne (ne_of_none e hn)]; exact e) (fun b ps e => ⟨#[], by rw [upd_ne (ne_of_none e hn), e]; simp⟩) (fun m h => h) (fun b u e => ?_) I.bare
  · have e : b = f := List.mem_singleton.mp hb
    subst e
    refine ⟨.inr lt, fun z => ?_, fun x c e z => ?_, fun p hp z => ?_⟩
    · have h1 := I0.lt
      rw [← z] at h1
      exact Nat.lt_irrefl _ (Nat.lt_of_lt_of_le h1 hf)
    · obtain ⟨v, u, hu, _⟩ := I0.cell x c e
      exact ne c u hu z
    · exact ne _ _ (I0.pin p hp).1 z
  · have e2 : b ≠ f := fun z => hb (by rw [z]; exact List.mem_singleton.mpr rfl)
    rw [upd_ne e2]; exact n
  · by_cases hb : b = f
    · rw [hb, upd_same] at e
      cases e
      rw [hb]
      exact ⟨hφ, ⟨o, ho⟩, st⟩
    · rw [upd_ne hb] at e
      exact (I.hok b u e).stay (fun d v _ q => q) (fun d q => by rw [upd_ne (ne_of_none q hn)]; exact q) fun d xs q => by rw [upd_ne (ne_of_none q hn)]; exact q
/-- a lambda is made -/
theorem lam_mk {m : Mp} {S : Store} {K : PySem.W.Frag} {c P : Addr} {params : Arguments} {body : Expr} {scope : Scope} {pos : Pos} {E : Value → Shared → Prop} {Q : Value → Shared → Prop} (I : Inv X pins σ H s) (R : RelS K H m S) (TB : TabB X.base X.mg c P) (hcode : X.env.code = .ref c)
    (hm : (P, X.env.qual ++ "<lambda>") ∈ m.T) (hu : ∀ p ∈ m.T, p.1 = P → p.2 = X.env.qual ++ "<lambda>") (hdef : defaultsOf params X.env = ([], [])) (hfree : ∀ y ∈ scope.names, y.2 = .free → ∃ c, X.env.cells.lookup y.1 = some c)
    (h : ∀ (f : Addr) (H1 : Hp) (s' : Shared), Inv X pins σ H1 s' → Ext H m H1 m → RelS K H1 m S → LamA H1 m f (X.env.qual ++ "<lambda>") params body scope (cloFrom X.env.cells scope.names []) → Q (.ref f) s') :
    wpAny (model X.prog X.w) X.A (eval (.Lambda params body scope pos) X.env) Q E s := by
  obtain ⟨ps, hP, ht, ha⟩ := R.tabs _ hm
  refine PySem.W.kla_eval hdef ?_
  have bP : s.heap.BuiltinsAt X.mg P := TB.bm.keeps I.bk
  have hP' : s.heap.get? P = some { cls := .none, data := .fields ps } := I.hok P _ hP
  have nofr : ∀ f, s.heap.objs.size ≤ f → f ∉ frs X.stack := fun f hf z => by
    rcases List.mem_cons.mp (I.stkSub _ z) with e | e
    · have h1 := I.lt
      rw [← e] at h1
      exact Nat.lt_irrefl _ (Nat.lt_of_lt_of_le h1 hf)
    · exact I.nofs hf e
  have PnL : P ∉ m.locs := fun z => by
    obtain ⟨n, hn⟩ := List.mem_iff_getElem?.mp z
    exact R.notTbl hn _ hP
  have stF : ∀ (f c' : Addr) (h h' : Heap), (∃ pm ctv, h.get? f = some (PySem.W.kla_obj "<lambda>" (X.env.qual ++ "<lambda>") params body scope (cloFrom X.env.cells scope.names []) pm c' ctv)) → (∀ u, h.get? f = some u → h'.get? f = some u) →
      ∃ pm ctv, h'.get? f = some (PySem.W.kla_obj "<lambda>" (X.env.qual ++ "<lambda>") params body scope (cloFrom X.env.cells scope.names []) pm c' ctv) := fun f c' h h' ⟨pm, ctv, e⟩ k => ⟨pm, ctv, k _ e⟩
  -- the object is told of
  have fin : ∀ (f c' : Addr) (pm ctv : Value) (H1 : Hp) (s' : Shared), Inv X pins σ H1 s' → Ext H m H1 m → RelS K H1 m S → s.heap.objs.size ≤ f →
      s'.heap.get? f = some (PySem.W.kla_obj "<lambda>" (X.env.qual ++ "<lambda>") params body scope (cloFrom X.env.cells scope.names []) pm c' ctv) → H1 f = none → c' ∉ m.locs → c' ∉ m.pr → H1 c' = some (CodeO c' (X.env.qual ++ "<lambda>")) → Q (.ref f) s' := by
    intro f c' pm ctv H1 s' I1 ex R1 hsz ho hn k1 k2 k3
    refine h f _ s' (inv_adopt (pins0 := pins) (σ0 := σ) I I1 hsz ho hn (φ := fun h => ∃ pm ctv, h.get? f = some (PySem.W.kla_obj "<lambda>" (X.env.qual ++ "<lambda>") params body scope (cloFrom X.env.cells scope.names []) pm c' ctv)) ⟨pm, ctv, ho⟩ (stF f c')) (ex.trans (Ext.new hn)) (R1.new hn) ?_
    exact ⟨c', R1.fresh hn, R1.nopr hn, upd_same, k1, k2, by rw [upd_ne (ne_of_none k3 hn)]; exact k3⟩
  cases hc : codeAmong pos ps.toList with
  | none =>
    refine PySem.W.kla_makeFunction (mg := X.mg) (c := c) (P := P) (ps := ps) (closure_ok hfree) I.ok.glob (I.mod.glob.keeps I.bk) hcode (TB.code.keeps I.bk) hP' ht hc TB.gP bP fun c' ctv h' tk hx hge hlt hrec htb => ?_
    obtain ⟨c2, oc, vs, t, e2, hoc, hd, hv⟩ := hrec
    cases e2
    have hsz : s.heap.objs.size ≤ h'.objs.size := Nat.le_trans hge (Nat.le_of_lt hlt)
    have nC : H c' = none := I.hok.fresh hge
    have I1 := inv_table (t' := tk) (more := #[rawInt pos.line, rawInt pos.col, .ref c']) (h' := h'.push (PySem.W.kla_obj "<lambda>" (X.env.qual ++ "<lambda>") params body scope (cloFrom X.env.cells scope.names []) ((X.mg "__name__").getD .none) c' ctv)) I hP
      (fun b o hb e => Heap.get?_push_of_some _ (hx b o hb e)) (Heap.get?_push_of_some _ htb) hge ⟨oc, vs, t, Heap.get?_push_of_some _ hoc, hd, hv⟩
    have eL : (ps ++ #[rawInt pos.line, rawInt pos.col, .ref c']).toList = ps.toList ++ [rawInt pos.line, rawInt pos.col, .ref c'] := by simp
    have nPc : P ≠ c' := ne_of_none hP nC
    -- the table's object, then the code object
    have ex1 : Ext H m (upd H P (.tbl (ps ++ #[rawInt pos.line, rawInt pos.col, .ref c']))) m :=
      ⟨fun a o q _ n => by rw [upd_ne (fun z => n ps (Option.some.inj (q.symm.trans (by rw [z]; exact hP))))]; exact q, fun a qs q => by
        by_cases z : a = P
        · exact ⟨_, by rw [z, upd_same]⟩
        · exact ⟨qs, by rw [upd_ne z]; exact q⟩, List.prefix_refl _, fun _ q => .inl q, rfl, rfl⟩
    have nC1 : upd H P (.tbl (ps ++ #[rawInt pos.line, rawInt pos.col, .ref c'])) c' = none := by rw [upd_ne nPc.symm]; exact nC
    have ex2 : Ext H m (upd (upd H P (.tbl (ps ++ #[rawInt pos.line, rawInt pos.col, .ref c']))) c' (CodeO c' (X.env.qual ++ "<lambda>"))) m := ex1.trans (Ext.new nC1)
    have keepN : ∀ b o, H b = some o → (∀ ps, o ≠ .tbl ps) → upd (upd H P (.tbl (ps ++ #[rawInt pos.line, rawInt pos.col, .ref c']))) c' (CodeO c' (X.env.qual ++ "<lambda>")) b = some o := fun b o e n => by
      rw [upd_ne (ne_of_none e nC), upd_ne (fun z => n ps (Option.some.inj (e.symm.trans (by rw [z]; exact hP))))]
      exact e
    have R2 : RelS K (upd (upd H P (.tbl (ps ++ #[rawInt pos.line, rawInt pos.col, .ref c']))) c' (CodeO c' (X.env.qual ++ "<lambda>"))) m S := by
      refine ⟨R.len, R.nd, R.dis, fun a ha' => ?_, fun p hp => ?_, fun n o e => ?_⟩
      · obtain ⟨o, e, po⟩ := R.prs a ha'
        exact ⟨o, keepN a o e po.1, po⟩
      · by_cases hb : p.1 = P
        · rw [hu p hp hb, hb]
          refine ⟨_, by rw [upd_ne nPc, upd_same], by rw [eL]; exact PySem.TriplesOk_snoc _ _ _ _ ht, fun p' cv hcv => ?_⟩
          rw [eL] at hcv
          rcases among_app _ ht hcv with z | z
          · obtain ⟨c0, e1, e2⟩ := ha p' cv z
            exact ⟨c0, e1, keepN _ _ e2 codeO_ne⟩
          · exact ⟨c', z, upd_same⟩
        · obtain ⟨ps', a1, a2, a3⟩ := R.tabs p hp
          refine ⟨ps', by rw [upd_ne (ne_of_none a1 nC), upd_ne hb]; exact a1, a2, fun p' cv hcv => ?_⟩
          obtain ⟨c0, e1, e2⟩ := a3 p' cv hcv
          exact ⟨c0, e1, keepN _ _ e2 codeO_ne⟩
      · obtain ⟨a, e1, e2⟩ := R.at_ n o e
        refine ⟨a, e1, e2.monoU ex2.mono ?_⟩
        have ne0 : H a ≠ none := by
          obtain ⟨u, q⟩ := R.some (List.mem_of_getElem? e1)
          rw [q]; simp
        rw [upd_ne (fun z => ne0 (by rw [z]; exact nC)), upd_ne (fun z => PnL (by rw [← z]; exact List.mem_of_getElem? e1))]
    refine fin h'.objs.size c' ((X.mg "__name__").getD .none) ctv _ _ I1 ex2 R2 hsz (Heap.get?_push_size _ rfl) ?_ (R.fresh nC) (R.nopr nC) upd_same
    have n1 : h'.objs.size ≠ c' := Nat.ne_of_gt hlt
    have n2 : h'.objs.size ≠ P := Nat.ne_of_gt (Nat.lt_of_lt_of_le (Heap.lt_size hP') hsz)
    rw [upd_ne n1, upd_ne n2]
    exact I.hok.fresh hsz
  | some cv =>
    obtain ⟨c', e, hco⟩ := ha pos cv hc
    subst e
    refine PySem.W.kla_makeFunctionHit (mg := X.mg) (c := c) (P := P) (ps := ps) (closure_ok hfree) I.ok.glob (I.mod.glob.keeps I.bk) hcode (TB.code.keeps I.bk) hP' ht hc bP fun ctv h' tk hx hsz => ?_
    have I1 : Inv X pins σ H { s with heap := h'.push (PySem.W.kla_obj "<lambda>" (X.env.qual ++ "<lambda>") params body scope (cloFrom X.env.cells scope.names []) ((X.mg "__name__").getD .none) c' ctv), toks := tk } := I.kept fun b o e => Heap.get?_push_of_some _ (hx b o e)
    have hcl : c' ∉ m.locs := fun z => by
      obtain ⟨n, hn⟩ := List.mem_iff_getElem?.mp z
      have hl : n < S.length := by rw [← R.len]; exact (List.getElem?_eq_some_iff.mp hn).1
      obtain ⟨b, e1, e2⟩ := R.at_ n S[n] (List.getElem?_eq_getElem hl)
      rw [hn] at e1; cases e1
      cases q : S[n] with
      | lst xs =>
        rw [q] at e2
        obtain ⟨vs, h1, _⟩ := e2
        rw [hco] at h1
        unfold CodeO at h1
        cases h1
    have hcp : c' ∉ m.pr := fun z => by
      obtain ⟨o, e, po⟩ := R.prs c' z
      rw [hco] at e
      exact po.2 _ (Option.some.inj e).symm
    exact fin h'.objs.size c' ((X.mg "__name__").getD .none) ctv H _ I1 (Ext.refl _ _) R hsz (Heap.get?_push_size _ rfl) (I.hok.fresh hsz) hcl hcp hco
end
section
variable {t : Tb} {L : Lk} {g : Cfg} {W : WX} {Z : ZP} {X : Cx} {c : Cc}
def lamCc (c : Cc) (sc : Scope) : Cc := ⟨c.N, sc, some sc, none⟩
/-- the frame of a lambda -/
theorem Good.lam (G : Good t L g W Z X c) (LF : LamF t L g X) (hc : c.suite = none) {sc : Scope} (hs : lamSB c.sc sc = true) (s : Shared) (H : Hp) (E : XK) (f c' : Addr) :
    Good t L g (fun cls d _ H => E cls d H) Z (lamCx X X.A X.stack s H E sc f c') (lamCc c sc) where
  K := G.K
  N := G.N
  nd := G.nd
  sc := rfl
  fn := fun x (h : sc.names.lookup x = some .cell) => absurd rfl ((lamS_by hs).own _ (PySem.mem_of_lookup h)).2
  un := (LF.room.deeper (lamEnv X sc s.heap.objs.size f c')).units
  free := G.free
  glob := G.glob
  tk := takes_of rfl rfl rfl rfl
  po := passes_of rfl
  ef := G.ef
  zm := G.zm
  calm := fun _ => rfl
  zt := fun _ => G.zt hc
  call := fun _ f x n h => by
    obtain ⟨a, fd, ps, k, e1, e2, e3, e4, e5, e6⟩ := LF.call f x n h
    exact ⟨a, fd, ps, k, e1, e2, e3, e4, e5.deeper _, e6⟩
  suite := fun i h => by cases h
/-- it is called in the frame that made it -/
theorem e_act {Y : Cx} {pn : List (Addr × Obj)} {xe : Value → Shared → Prop} {i : Nat} {a : Str} {p1 p2 : Pos} (hY : Y = X.tr pn xe) (G : Good t L g W Z X c) (LF : LamF t L g X) (hc : c.suite = none) {W' : WX} (tk : Takes Y W') (hi : c.N[i]? = some a) (hv : visB c.sc a = true) (hd : dunB a = true) :
    PE Y (.Call (.Name a p1) [] [] p2) (fun σ H Q => ∃ (f : Addr) (env : KF.Env) (S : Store) (m : Mp) (ps : Arguments) (b : Expr) (sc : Scope) (fe : Ev), σ[i]? = some (some (.ref f)) ∧ LamA H m f (X.env.qual ++ "<lambda>") ps b sc (cloFrom X.env.cells sc.names []) ∧
      lamSB c.sc sc = true ∧ (∀ (q : Str) (cl : List (Str × Addr)) (pm cv ctv : Value), bindArgs (PySem.W.kla_fn "<lambda>" q ps b sc cl pm cv ctv) ⟨[], []⟩ = pure []) ∧
      (∀ (W2 : WX) (X2 : Cx), Good t L g W2 Z X2 (lamCc c sc) → PE X2 b (tD L W2 Z fe)) ∧ RelE L Z H m env σ ∧ RelS L.K H m S ∧ Cont L W' σ (RelD L.K) Q H m (fe env S)) := by
  subst hY
  refine ⟨fun pins s σ H Q I h => ?_⟩
  obtain ⟨f, env, S, m, ps, b, sc, fe, hσ, ⟨c', l1, l2, l3, l4, l5, l6⟩, hs, hb, hbody, he, hS, k⟩ := h
  have hv' : Vis X.env.scope a := by
    rw [G.sc]
    unfold visB at hv
    split at hv
    · exact .inl (by assumption)
    · exact .inr (.inl (by assumption))
    · exact .inr (.inr (by assumption))
    · cases hv
  unfold dunB at hd
  simp only [Bool.and_eq_true, Bool.not_eq_true'] at hd
  refine wpAny_Call_Name_kw (thn ((pe_var (X := X.tr pn xe) (pos := p1) (i := i) (by show X.N[i]? = _; rw [G.N]; exact hi) hv' hd.1 hd.2).run pins s σ H (fun v H1 => v = .ref f ∧ H1 = H) I ⟨.ref f, hσ, rfl, rfl⟩) fun u s1 ⟨v, H1, I1, r1, q1⟩ => ?_)
  obtain ⟨ev, eH⟩ := q1
  subst ev
  rw [eH] at I1
  obtain rfl : u = Value.ref f := r1
  obtain ⟨⟨pm, ctv, of1⟩, _, _⟩ := I1.hok f _ l3
  refine PySem.W.callWith_F0 ⟨_, _, _, _, of1⟩ ?_
  obtain ⟨⟨oc, vs, tt, hoc, hdc, hvc⟩, _, _⟩ := I1.hok c' _ l6
  have LS : LamS X.env.scope sc := by rw [G.sc]; exact lamS_by hs
  have rc : codeAny (model X.prog X.w) X.A (.call (.ref f) ⟨[], []⟩) (CR (L2.CX X.prog X.w) X.stack X.prog X.w H s1 Q (WE W' σ)) s1 := by
    refine PySem.W.kla_callFunE LF.room.depth of1 rfl LS.co LS.gen rfl ⟨c', oc, vs, tt, rfl, hoc, hdc, hvc⟩ ?_
    rw [hb]
    refine wpAny_pure (wpAny_newFunctionEnv (fun y hy => (LS.own y hy).2) (fun y hy => absurd hy (by simp)) (fun h₁ hns hsb => ⟨I1.nolimit.fresh _ hsb, ?_⟩) LS.kind)
    show codeAny _ _ (.expr b (lamEnv X sc s1.heap.objs.size f c')) _ _
    have kp : ∀ b o, s1.heap.get? b = some o → h₁.get? b = some o := fun b o e => hsb.extBut b o (Nat.ne_of_lt (Heap.lt_size e)) (Heap.get?_push_of_some _ e)
    have J : Inv (lamCx X X.A X.stack s1 H (WE W' σ) sc f c') [] σ H { s1 with heap := h₁, toks := s1.toks + ([] : List (Str × Value)).length } :=
      lam_start2 (X := X.tr pn xe) (outer := X.stack) I1 LS I1.env0 LF.room.hd (Un.refl) hns kp
    refine PySem.W.kla_codeExpr (wpAny_mono ((hbody _ _ (G.lam LF hc hs s1 H (WE W' σ) f c')).run [] _ _ H Q J ⟨env, S, m, he, hS, ?_⟩) (fun v s' hq => ?_) fun e s' hq => hq)
    · cases q : fe env S with
      | bad => rw [q] at k; exact k.elim
      | ok d S' => rw [q] at k; exact k
      | exc cc fs S' => rw [q] at k; exact k
    · obtain ⟨w', H', J', rv, q⟩ := hq
      exact ⟨w', H', J'.os, J'.bare, J'.base, J'.hok, rv, q⟩
  have hx : PassesAt (L2.CX X.prog X.w) (X.tr pn xe) σ (WE W' σ) := passAt tk σ
  refine wpAny_call (codeAny_mono rc fun r s' hq => ?_)
  cases r with
  | error e => exact hx pins H s1 e s' I1 hq
  | ok fl =>
    cases fl with
    | ret u => exact I1.after hq
    | next => exact False.elim hq
    | brk => exact False.elim hq
    | cont => exact False.elim hq
end
end KF

set_option Elab.async false
set_option linter.all false
set_option maxRecDepth 100000
set_option maxHeartbeats 4000000
/-! KF13: the deeds of a law: what each lambda does, else what it raises -/
namespace KF
open PySem PySem.Spec PyProof.Rows L2 LamX
theorem noArgs_def {ps : Arguments} (h : noArgs ps = true) (env : PySem.Env) : defaultsOf ps env = ([], []) := by
  unfold noArgs at h
  cases ps with | mk a b c d e f g =>
  simp only [Bool.and_eq_true, List.isEmpty_iff, Option.isNone_iff_eq_none] at h
  obtain ⟨rfl, rfl, rfl, rfl, rfl, rfl, rfl⟩ := h
  rfl
theorem noArgs_bind {ps : Arguments} (h : noArgs ps = true) (q : Str) (b : Expr) (sc : Scope) (cl : List (Str × Addr)) (pm cv ctv : Value) : bindArgs (PySem.W.kla_fn "<lambda>" q ps b sc cl pm cv ctv) ⟨[], []⟩ = pure [] := by
  unfold noArgs at h
  cases ps with | mk a b c d e f g =>
  simp only [Bool.and_eq_true, List.isEmpty_iff, Option.isNone_iff_eq_none] at h
  obtain ⟨rfl, rfl, rfl, rfl, rfl, rfl, rfl⟩ := h
  rfl
structure TryF (t : Tb) (L : Lk) (g : Cfg) (X : Cx) : Prop where
  nm : ∀ (k : Nat) (x : Str), t.exN[k]? = some x → X.mg x = some (.ref (L.ea k))
  sub : ∀ j k, g.sub j k = true → PySem.W.exmOne L.K (.ref (L.ea j)) (.ref (L.ea k)) = some true ∧ XfC L.K (L.ea j) ∧ ∀ f ∈ L.ef j, PySem.W.findIn L.K (.ref (L.ea j)) f = some none
section
variable {t : Tb} {L : Lk} {g : Cfg} {W : WX} {Z : ZP} {X : Cx} {c : Cc}
/-- one row, all rows -/
def RowR (L : Lk) (X : Cx) (H : Hp) (m : Mp) : Expr → KF.D → V → Prop
  | .Tuple [.Lambda ps b sc _, _] _ _, x, v => ∃ a f w, v = .ref a ∧ TupA L.K H m a [.ref f, w] ∧ LamA H m f (X.env.qual ++ "<lambda>") ps b sc (cloFrom X.env.cells sc.names []) ∧ RelD L.K H m x w
  | _, _, _ => False
def RowsR (L : Lk) (X : Cx) (H : Hp) (m : Mp) : List Expr → List KF.D → List V → Prop
  | [], ds, vs => ds = [] ∧ vs = []
  | r :: rs, ds, vs => ∃ x xs v us, ds = x :: xs ∧ vs = v :: us ∧ RowR L X H m r x v ∧ RowsR L X H m rs xs us
theorem RowR.mono {H H' : Hp} {m m' : Mp} (e : Mono H m H' m') {r : Expr} {x : KF.D} {v : V} (h : RowR L X H m r x v) : RowR L X H' m' r x v := by
  unfold RowR at h ⊢
  split at h
  · obtain ⟨a, f, w, h1, h2, h3, h4⟩ := h
    exact ⟨a, f, w, h1, h2.mono e, h3.mono e, h4.mono e⟩
  · exact h.elim
theorem RowsR.mono {H H' : Hp} {m m' : Mp} (e : Mono H m H' m') : ∀ {rs : List Expr} {ds : List KF.D} {vs : List V}, RowsR L X H m rs ds vs → RowsR L X H' m' rs ds vs
  | [], _, _, h => h
  | r :: rs, _, _, h => by
    obtain ⟨x, xs, v, us, h1, h2, h3, h4⟩ := h
    exact ⟨x, xs, v, us, h1, h2, h3.mono e, RowsR.mono e h4⟩
theorem RowsR.length {H : Hp} {m : Mp} : ∀ {rs : List Expr} {ds : List KF.D} {vs : List V}, RowsR L X H m rs ds vs → vs.length = rs.length
  | [], _, _, h => by rw [h.2]; rfl
  | r :: rs, _, _, h => by
    obtain ⟨x, xs, v, us, h1, h2, h3, h4⟩ := h
    rw [h2, List.length_cons, List.length_cons, RowsR.length h4]
theorem RelE.ext {H H' : Hp} {m m' : Mp} {env : KF.Env} {σ : L2.St} (G : Good t L g W Z X c) (e : Ext H m H' m') (h : RelE L Z H m env σ) : RelE L Z H' m' env σ := h.mono G.zm e.mono
/-- (lambda: b, due) -/
theorem e_row (G : Good t L g W Z X c) (LF : LamF t L g X) {ps : Arguments} {b du : Expr} {sc : Scope} {k : Nat} {p p2 : Pos} {fd : Ev} (hps : noArgs ps = true) (hs : lamSB c.sc sc = true) (hn : notStar du = true) (hd : PE X du (tD L W Z fd)) :
    PE X (.Tuple [.Lambda ps b sc p, du] k p2) (tE L W Z (fun H m x v => RowR L X H m (.Tuple [.Lambda ps b sc p, du] k p2) x v) fd) := by
  have hlam : PE X (.Lambda ps b sc p) (fun σ H Q => ∃ S m, m.T = L.T ∧ RelS L.K H m S ∧ ∀ f H1, Ext H m H1 m → RelS L.K H1 m S → LamA H1 m f (X.env.qual ++ "<lambda>") ps b sc (cloFrom X.env.cells sc.names []) → Q (.ref f) H1) := by
    refine ⟨fun pins s σ H Q I ⟨S, m, hT, hS, h⟩ => ?_⟩
    obtain ⟨cc, P, h1, h2, h3, h4⟩ := LF.code
    have LS : LamS X.env.scope sc := by rw [G.sc]; exact lamS_by hs
    exact lam_mk I hS h2 h1 (by rw [hT]; exact h3) (by rw [hT]; exact h4) (noArgs_def hps _) (LS.has I.ok) fun f H1 s' I1 ex R1 hl => ⟨.ref f, H1, I1, rfl, h f H1 ex R1 hl⟩
  refine (pe_tup (pa_cons hlam (pa_cons hd pa_nil (star_cons hn)) (star_cons rfl))).imp fun σ H Q ⟨env, S, m, he, hS, w⟩ => ?_
  refine ⟨S, m, he.2.2.2, hS, fun f H1 ex R1 hl => ?_⟩
  refine ⟨env, S, m, he.ext G ex, R1, ?_⟩
  have w := Cont.ext ex w
  cases q : fd env S with
  | bad => rw [q] at w; exact w.elim
  | exc cc fs S' => rw [q] at w; exact w
  | ok x S' =>
    rw [q] at w
    intro H2 m2 v e2 s2 r2
    refine ⟨by show 2 ≤ sizeLine; decide, fun a ha => ?_⟩
    exact w _ m2 _ (e2.trans (Ext.new ha)) (s2.new ha) ⟨a, f, v, rfl, TupA.new s2 ha, (hl.mono e2.mono).mono (Mono.new ha), r2.mono (Mono.new ha)⟩
theorem e_rows (G : Good t L g W Z X c) (LF : LamF t L g X) : ∀ (rows : Dds) (rs : List Expr), rs.all notStar = true → chkRows t rows c rs = true → PA X rs (tE L W Z (fun H m ds vs => RowsR L X H m rs ds vs) (fun env S => evD g rows env S))
  | .nil, rs, _, h => by
    unfold chkRows at h
    have e := List.isEmpty_iff.mp h
    subst e
    exact pa_nil.imp fun σ H Q ⟨env, S, m, he, hS, k⟩ => k H m [] (Ext.refl _ _) hS ⟨rfl, rfl⟩
  | .cons e d r, rs, hn, h => by
    unfold chkRows at h
    split at h
    · rename_i ps b sc p du k p2 rs'
      simp only [Bool.and_eq_true] at h
      obtain ⟨h1, h2, h3, h4, h5, h6⟩ := h
      rw [List.all_cons, Bool.and_eq_true] at hn
      refine (pa_cons (e_row (b := b) (k := k) (p := p) (p2 := p2) G LF h1 h2 h5 (sound d c du h4 G).1) (e_rows G LF r rs' hn.2 h6) (star_cons hn.1)).imp fun σ H Q w => ?_
      refine (tE.seq (Rl := fun H m x v => RowR L X H m (.Tuple [.Lambda ps b sc p, du] k p2) x v) G.zm (g := fun env x S1 => (evD g r env S1).bind fun xs S2 => .ok (x :: xs) S2) w).imp fun v H1 ⟨env, S1, m1, x, he, hS, hr, kk⟩ => ?_
      refine ⟨env, S1, m1, he, hS, kk.bind.imp fun vs H2 ⟨m2, xs, S2, e2, s2, r2, k2⟩ => ?_⟩
      exact k2 H2 m2 _ (Ext.refl _ _) s2 ⟨x, xs, v, vs, rfl, rfl, hr.mono e2.mono, r2⟩
    · cases h
/-- they are walked -/
theorem i_rows (G : Good t L g W Z X c) (LF : LamF t L g X) {rows : Dds} {rs : List Expr} {tg : Expr} {k : Nat} {p : Pos} (hn : rs.all notStar = true) (h : chkRows t rows c rs = true) :
    PI X tg (.Tuple rs k p) (fun σ H R => rs.length ≤ sizeLine ∧ tE L W Z (fun H m ds (v : Wk) => RowsR L X H m rs ds v.2.1 ∧ WalkJ v.1 v.2.1 v.2.2 ∧ v.2.2 H ∧ ∀ H2 m2, Mono H m H2 m2 → v.2.2 H2) (fun env S => evD g rows env S) σ H fun v H' => R v.1 H') := by
  refine ⟨fun pins s σ H R I w => ?_⟩
  obtain ⟨hz, env, S, m, he, hS, w⟩ := w
  refine thn ((pe_tup (pos := p) (x1 := k) (e_rows (W := W) G LF rows rs hn h)).run pins s σ H (fun v H1 => ∃ a m1 ds vs S1, v = .ref a ∧ TupA L.K H1 m1 a vs ∧ RowsR L X H1 m1 rs ds vs ∧ Ext H m H1 m1 ∧ RelS L.K H1 m1 S1 ∧
      ∀ J : L2.It, WalkJ J vs (fun H => SqT X.K H a vs) → R J H1) I ?_) fun v s1 ⟨x, H1, I1, r1, a, m1, ds, vs, S1, hx, ha, hr, ex, hS1, k1⟩ => ?_
  · refine ⟨env, S, m, he, hS, ?_⟩
    dsimp only at w ⊢
    cases q : evD g rows env S with
    | bad => rw [q] at w; exact w.elim
    | exc cc fs S' => rw [q] at w; exact w
    | ok ds S' =>
      rw [q] at w
      intro H2 m2 vs e2 s2 r2
      refine ⟨by rw [r2.length]; exact hz, fun a ha => ?_⟩
      refine ⟨a, m2, ds, vs, S', rfl, TupA.new s2 ha, r2.mono (Mono.new ha), e2.trans (Ext.new ha), s2.new ha, fun J wj => ?_⟩
      have ta : TupA L.K (upd H2 a (.tup vs)) m2 a vs := TupA.new s2 ha
      exact w _ m2 (J, vs, fun H => SqT X.K H a vs) (e2.trans (Ext.new ha)) (s2.new ha) ⟨r2.mono (Mono.new ha), wj, by rw [G.K]; exact ta.sq, fun H3 m3 e3 => by rw [G.K]; exact (ta.mono e3).sq⟩
  · subst hx
    cases r1
    have hq : SqT X.K H1 a vs := by rw [G.K]; exact ha.sq
    obtain ⟨its, rv, pp, hz⟩ := I1.tuple hq
    refine wpAny_pyIter_tuple (show s1.heap.IsTuple a its.toArray from pp) ?_
    refine ⟨s1.heap.objs.size, [s1.heap.objs.size], _, Itt X.K a, H1, rfl, I1.kept (t' := s1.toks) fun b o e => Heap.get?_push_of_some _ e, turn_tuple a _, ⟨_, Heap.get?_push_size _ rfl, rfl, rfl⟩, fun b hb => ?_, ?_⟩
    · have e : b = s1.heap.objs.size := by simpa using hb
      subst e
      exact I1.fpOk (Nat.le_refl _) (I1.hok.fresh (Nat.le_refl _))
    · exact k1 _ walk_tup
theorem Good.tr (G : Good t L g W Z X c) (hc : c.suite = none) {W' : WX} {pn : List (Addr × Obj)} {xe : Value → Shared → Prop} (tk : Takes (X.tr pn xe) W') (po : PassesOwn (model X.prog X.w) X.A X.env xe) : Good t L g W' Z (X.tr pn xe) c where
  K := G.K
  N := G.N
  nd := G.nd
  sc := G.sc
  fn := G.fn
  un := G.un
  free := G.free
  glob := G.glob
  tk := tk
  po := po
  ef := G.ef
  zm := G.zm
  calm := G.calm
  zt := G.zt
  call := G.call
  suite := fun i h => by rw [hc] at h; cases h
def Cfg.at_ (g : Cfg) (k : Nat) (fs : List KF.D) : Cfg := { g with cur := some (k, fs) }
theorem Good.sui (G : Good t L g W Z X c) (hc : c.suite = none) {a : Addr} {oe : Obj} {k i : Nat} {fs : List KF.D} {dd : Addr} {pn : List (Addr × Obj)} (hz : Zc (.ref (L.ea k)) (some dd) oe) (ho : ∃ vs, oe.data = .fields vs) (hx : XfC L.K (L.ea k)) (hf : ∀ f ∈ L.ef k, PySem.W.findIn L.K (.ref (L.ea k)) f = some none) :
    Good t L (g.at_ k fs) W0 (ZX L i a dd k fs) (X.suite a ((a, oe) :: pn)) ⟨c.N, c.sc, c.own, some i⟩ where
  K := G.K
  N := G.N
  nd := G.nd
  sc := G.sc
  fn := G.fn
  un := G.un
  free := G.free
  glob := G.glob
  tk := L2.takes0
  po := PassesOwn.never
  ef := G.ef
  zm := ZX.mono
  calm := fun h => by cases h
  zt := fun h => by cases h
  call := fun h => by cases h
  suite := fun j h => by
    cases h
    exact ⟨a, oe, k, fs, dd, pn, X, rfl, hz, ho, rfl, hx, hf, rfl⟩
end
end KF

set_option Elab.async false
set_option linter.all false
set_option maxRecDepth 100000
set_option maxHeartbeats 4000000
/-! KF14: the deeds, caught; all statements -/
namespace KF
open PySem PySem.Spec PyProof.Rows L2 LamX
section
variable {t : Tb} {L : Lk} {g : Cfg} {W : WX} {Z : ZP} {X : Cx} {c : Cc}
/-- what the handler does -/
abbrev hOf (g : Cfg) (fi : Nat) (h : Sts) : Nat → List KF.D → KF.Env → Store → RS := fun k fs env S => unset fi (execs (g.at_ k fs) h (env.set fi none) S)
theorem RelE.unset {L : Lk} {Z Z' : ZP} {H : Hp} {m : Mp} {env : KF.Env} {σ : L2.St} (zt : ∀ σ H m, Z' σ H m) (he : RelE L Z H m env σ) (i : Nat) : RelE L Z' H m (env.set i none) (σ.set i none) := by
  refine ⟨by rw [List.length_set, List.length_set]; exact he.1, fun j d q => ?_, zt _ _ _, he.2.2.2⟩
  by_cases hj : i = j
  · subst hj
    by_cases hl : i < env.length
    · rw [List.getElem?_set_self hl] at q; cases q
    · rw [List.getElem?_eq_none (by rw [List.length_set]; omega)] at q; cases q
  · rw [List.getElem?_set_ne hj] at q
    obtain ⟨v, e2, r2⟩ := he.2.1 j d q
    exact ⟨v, by rw [List.getElem?_set_ne hj]; exact e2, r2⟩
def tDeed (t : Tb) (L : Lk) (g : Cfg) (W : WX) (Z : ZP) (X : Cx) (c : Cc) (di fi : Nat) (bd : KF.Env → Store → RS) (x : Nat) (h : Sts) : TS := fun D σ H =>
  ∃ (f : Addr) (env : KF.Env) (S : Store) (m : Mp) (ps : Arguments) (b : Expr) (sc : Scope) (fe : Ev), (di < σ.length → σ[di]? = some (some (.ref f))) ∧ LamA H m f (X.env.qual ++ "<lambda>") ps b sc (cloFrom X.env.cells sc.names []) ∧
      lamSB c.sc sc = true ∧ (∀ (q : Str) (cl : List (Str × Addr)) (pm cv ctv : Value), bindArgs (PySem.W.kla_fn "<lambda>" q ps b sc cl pm cv ctv) ⟨[], []⟩ = pure []) ∧
      (∀ (W2 : WX) (X2 : Cx), Good t L g W2 Z X2 (lamCc c sc) → PE X2 b (tD L W2 Z fe)) ∧ RelE L Z H m env σ ∧ RelS L.K H m S ∧
      ContS L W Z D H m (deed1 (fe env S) env (bd env) (fun k => g.sub k x) (fun k fs => hOf g fi h k fs env))
/-- what the clause is told -/
def tsH (L : Lk) (g : Cfg) (fi x : Nat) (h : Sts) : Addr → Value → Option Addr → TS := fun a cls d D σ H =>
  ∃ k fs dd env S m, cls = .ref (L.ea k) ∧ d = some dd ∧ g.sub k x = true ∧ RelE L (ZX L fi a dd k fs) H m env σ ∧ RelS L.K H m S ∧ ContS L W0 (ZX L fi a dd k fs) D H m (execs (g.at_ k fs) h env S)
/-- one deed, tried -/
theorem s_deed (G : Good t L g W Z X c) (LF : LamF t L g X) (TF : TryF t L g X) (hc : c.suite = none) {bd : KF.Env → Store → RS} {h : Sts} {di fi x : Nat} {dn fn xn : Str} {bs hs : List Stmt} {h0 : Stmt} {p1 p2 p3 p4 p5 p6 : Pos}
    (hi : c.N[di]? = some dn) (hv : visB c.sc dn = true) (hd : dunB dn = true) (hfi : c.N[fi]? = some fn) (hfl : c.sc.names.lookup fn = some .local) (hx : t.exN[x]? = some xn) (hg : glB c.sc xn = true) (hxd : dunB xn = true)
    (hb : ∀ (W' : WX) (pn : List (Addr × Obj)) (xe : Value → Shared → Prop), Good t L g W' Z (X.tr pn xe) c → PSs (X.tr pn xe) bs (tS L W' Z bd))
    (hh : ∀ (g' : Cfg) (Z' : ZP) (Y : Cx), Good t L g' W0 Z' Y ⟨c.N, c.sc, c.own, some fi⟩ → PSs Y (h0 :: hs) (tS L W0 Z' fun env S => execs g' h env S)) :
    PS X (.Try (.Expr (.Call (.Name dn p1) [] [] p2) p3 :: bs) [.ExceptHandler (some (.Name xn p4)) (some fn) (h0 :: hs) p5] [] [] p6) (tDeed t L g W Z X c di fi bd x h) := by
  have hxd2 := hxd
  unfold dunB at hxd2
  simp only [Bool.and_eq_true, Bool.not_eq_true'] at hxd2
  have kl : X.env.kindOf fn = some .local := by show X.env.scope.names.lookup fn = _; rw [G.sc]; exact hfl
  refine ⟨fun pins s σ H D I w => (ps_try_as (X := X) (x := xn) (n := fn) (c := .ref (L.ea x)) (i := fi) (Wout := W) LF.stk LF.fr (by rw [G.N]; exact G.nd) (by rw [G.N]; exact hfi) kl ⟨gl_of G hg, hxd2.1, .inl (TF.nm x xn hx)⟩ G.tk
    (tb := fun W' D σ H => ∃ (f : Addr) (env : KF.Env) (S : Store) (m : Mp) (ps : Arguments) (b : Expr) (sc : Scope) (fe : Ev), σ[di]? = some (some (.ref f)) ∧ LamA H m f (X.env.qual ++ "<lambda>") ps b sc (cloFrom X.env.cells sc.names []) ∧
      lamSB c.sc sc = true ∧ (∀ (q : Str) (cl : List (Str × Addr)) (pm cv ctv : Value), bindArgs (PySem.W.kla_fn "<lambda>" q ps b sc cl pm cv ctv) ⟨[], []⟩ = pure []) ∧
      (∀ (W2 : WX) (X2 : Cx), Good t L g W2 Z X2 (lamCc c sc) → PE X2 b (tD L W2 Z fe)) ∧ RelE L Z H m env σ ∧ RelS L.K H m S ∧
      Cont L W' σ (RelD L.K) (fun _ H' => tS L W' Z bd D σ H') H m (fe env S))
    (ts := tsH L g fi x h) (fun W' pn xe tk po => ?_) (fun a oe cls d pn hz ho => ?_)).run pins s σ H D I ?_⟩
  · have G' := G.tr hc tk po
    have h1 : PS (X.tr pn xe) (.Expr (.Call (.Name dn p1) [] [] p2) p3) _ := ps_expr (pos := p3) (e_act (p1 := p1) (p2 := p2) rfl G LF hc tk hi hv hd) (notComp_ok rfl _ _ _)
    exact (pss_cons h1 (hb W' pn xe G')).imp fun D σ H w => w
  · refine ⟨fun pins s σ H D I w => ?_⟩
    obtain ⟨k, fs, dd, env, S, m, rfl, rfl, hsub, he, hS, w⟩ := w
    obtain ⟨_, s2, s3⟩ := TF.sub k x hsub
    have Gs := G.sui (a := a) (i := fi) (fs := fs) (pn := pn) hc hz ho s2 s3
    exact (hh _ _ _ Gs).run pins s σ H D I ⟨env, S, m, he, hS, w⟩
  · obtain ⟨f, env, S, m, ps, b, sc, fe, w1, w2, w3, w4, w5, he, hS, w⟩ := w
    refine ⟨f, env, S, m, ps, b, sc, fe, w1 (by rw [I.len, G.N]; exact (List.getElem?_eq_some_iff.mp hi).1), w2, w3, w4, w5, he, hS, ?_⟩
    cases q : fe env S with
    | bad => rw [q] at w; exact w.elim
    | ok d S' =>
      rw [q] at w
      intro H1 m1 v ex s1 r1
      refine ⟨env, S', m1, he.mono G.zm ex.mono, s1, ?_⟩
      have w : ContS L W Z D H m (match bd env S' with
        | .exc _ _ _ _ => .bad
        | r => r) := w
      have w := ContS.ext ex w
      cases q2 : bd env S' with
      | exc _ _ _ _ => rw [q2] at w; exact w.elim
      | bad => rw [q2] at w; exact w.elim
      | next _ _ => rw [q2] at w; exact w
      | ret _ _ => rw [q2] at w; exact w
      | brk _ _ => rw [q2] at w; exact w
      | cont _ _ => rw [q2] at w; exact w
    | exc k fs S' =>
      rw [q] at w
      have w : ContS L W Z D H m (if g.sub k x = true then hOf g fi h k fs env S' else .bad) := w
      intro H1 m1 dx vs ex s1 r1 hdx n1 n2
      split at w
      · rename_i hsub
        obtain ⟨e1, s2, s3⟩ := TF.sub k x hsub
        refine ⟨true, by rw [G.K]; exact e1, fun _ a ha => ?_, fun z => by cases z⟩
        have he1 := he.mono G.zm ex.mono
        refine ⟨k, fs, dx, env.set fi none, S', m1, rfl, rfl, hsub, ⟨?_, ?_, ⟨?_, vs, hdx, n1, n2, r1⟩, he1.2.2.2⟩, s1, ?_⟩
        · rw [List.length_set, List.length_set]; exact he1.1
        · intro j d q3
          by_cases hj : fi = j
          · subst hj
            by_cases hl : fi < env.length
            · rw [List.getElem?_set_self hl] at q3; cases q3
            · rw [List.getElem?_eq_none (by rw [List.length_set]; omega)] at q3; cases q3
          · rw [List.getElem?_set_ne hj] at q3
            obtain ⟨v, e2, r2⟩ := he1.2.1 j d q3
            exact ⟨v, by rw [List.getElem?_set_ne hj]; exact e2, r2⟩
        · rw [List.getElem?_set_self (by rw [I.len, G.N]; exact (List.getElem?_eq_some_iff.mp hfi).1)]
        · have w := ContS.ext ex w
          unfold hOf unset at w
          cases q2 : execs (g.at_ k fs) h (env.set fi none) S' with
          | bad => rw [q2] at w; exact w.elim
          | exc _ _ _ _ => rw [q2] at w; exact w.elim
          | next e3 S3 => 
            rw [q2] at w
            exact fun H' m' σ' e s r => w H' m' _ e s (RelE.unset (G.zt hc) r fi)
          | brk e3 S3 => 
            rw [q2] at w
            exact fun H' m' σ' e s r => w H' m' _ e s (RelE.unset (G.zt hc) r fi)
          | cont e3 S3 => 
            rw [q2] at w
            exact fun H' m' σ' e s r => w H' m' _ e s (RelE.unset (G.zt hc) r fi)
          | ret d S3 => rw [q2] at w; exact w
      · exact w.elim
theorem RelE.put' {L : Lk} {Z : ZP} (zt : ∀ σ H m, Z σ H m) {H : Hp} {m : Mp} {env : KF.Env} {σ : L2.St} {i : Nat} {o : Option KF.D} {v : V} (he : RelE L Z H m env σ) (r : ∀ d, o = some d → RelD L.K H m d v) : RelE L Z H m (env.set i o) (σ.set i (some v)) := by
  refine ⟨by rw [List.length_set, List.length_set]; exact he.1, fun j e q => ?_, zt _ _ _, he.2.2.2⟩
  by_cases hij : i = j
  · subst hij
    by_cases hi : i < env.length
    · rw [List.getElem?_set_self hi] at q
      cases q
      exact ⟨v, by rw [List.getElem?_set_self (by rw [← he.1]; exact hi)], r _ rfl⟩
    · rw [List.getElem?_eq_none (by rw [List.length_set]; omega)] at q; cases q
  · rw [List.getElem?_set_ne hij] at q
    obtain ⟨w, e1, r1⟩ := he.2.1 j e q
    exact ⟨w, by rw [List.getElem?_set_ne hij]; exact e1, r1⟩
theorem s_deeds (G : Good t L g W Z X c) (LF : LamF t L g X) (TF : TryF t L g X) (hc : c.suite = none) {bd : KF.Env → Store → RS} {h : Sts} {rows : Dds} {rs : List Expr} {di du fi x k k2 : Nat} {dn un fn xn : Str} {bs hs : List Stmt} {h0 : Stmt} {p1 p2 p3 p4 p5 p6 q1 q2 q3 q4 q5 : Pos}
    (hne : di ≠ du) (ht : chkT c (.t (.cons (.n di) (.cons (.n du) .nil))) (.Tuple [.Name dn q1, .Name un q2] k q3) = true) (hn : rs.all notStar = true) (hz : rs.length ≤ sizeLine) (hr : chkRows t rows c rs = true)
    (hi : c.N[di]? = some dn) (hv : visB c.sc dn = true) (hd : dunB dn = true) (hfi : c.N[fi]? = some fn) (hfl : c.sc.names.lookup fn = some .local) (hx : t.exN[x]? = some xn) (hg : glB c.sc xn = true) (hxd : dunB xn = true)
    (hb : ∀ (W' : WX) (pn : List (Addr × Obj)) (xe : Value → Shared → Prop), Good t L g W' Z (X.tr pn xe) c → PSs (X.tr pn xe) bs (tS L W' Z bd))
    (hh : ∀ (g' : Cfg) (Z' : ZP) (Y : Cx), Good t L g' W0 Z' Y ⟨c.N, c.sc, c.own, some fi⟩ → PSs Y (h0 :: hs) (tS L W0 Z' fun env S => execs g' h env S)) :
    PS X (.For (.Tuple [.Name dn q1, .Name un q2] k q3) (.Tuple rs k2 q4) [.Try (.Expr (.Call (.Name dn p1) [] [] p2) p3 :: bs) [.ExceptHandler (some (.Name xn p4)) (some fn) (h0 :: hs) p5] [] [] p6] [] q5)
      (tS L W Z fun env S => (evD g rows env S).st env fun ds S1 => deedL g rows di du bd (fun k => g.sub k x) (hOf g fi h) ds env S1) := by
  have hgt := g_ok G (G.calm hc) _ _ ht
  rw [G.K] at hgt
  have hbody := pss_one (s_deed (p1 := p1) (p2 := p2) (p3 := p3) (p4 := p4) (p5 := p5) (p6 := p6) G LF TF hc hi hv hd hfi hfl hx hg hxd hb hh)
  refine (ps_for G.po (G.calm hc) (i_rows (p := q4) (k := k2) G LF hn hr) hgt hbody (fun _ => rfl)).imp fun D σ H w => ?_
  refine ⟨hz, ?_⟩
  obtain ⟨env, S, m, he, hS, w⟩ := w
  refine ⟨env, S, m, he, hS, ?_⟩
  dsimp only at w ⊢
  cases q : evD g rows env S with
  | bad => rw [q] at w; exact w.elim
  | exc cc fs S' =>
    rw [q] at w
    exact fun H' m' dx vs e s r h1 h2 h3 => w H' m' σ dx vs e s (he.mono G.zm e.mono) r h1 h2 h3
  | ok ds S1 =>
  rw [q] at w
  rintro H1 m1 ⟨J, vs, std⟩ e1 hs1 ⟨hrow, wj, st0, stm⟩
  have he1 := he.mono G.zm e1.mono
  have w : ContS L W Z D H1 m1 (deedL g rows di du bd (fun k => g.sub k x) (hOf g fi h) ds env S1) := ContS.ext e1 w
  clear q
  have hrow : RowsR L X H1 m1 rs ds vs := hrow
  let Inv' : Nat → L2.St → Hp → Prop := fun i σ' H' => ∃ rows' rs' ds' env' S' m', chkRows t rows' c rs' = true ∧ RowsR L X H1 m1 rs' ds' (vs.drop i) ∧ RelE L Z H' m' env' σ' ∧ RelS L.K H' m' S' ∧ Ext H1 m1 H' m' ∧
    ContS L W Z D H1 m1 (deedL g rows' di du bd (fun k => g.sub k x) (hOf g fi h) ds' env' S')
  refine ⟨fun i n σ' H' => n = vs.length - i ∧ i ≤ vs.length ∧ Inv' i σ' H', ⟨vs.length, by simp, Nat.zero_le _, rows, rs, ds, env, S1, m1, hr, hrow, he1, hs1, Ext.refl _ _, w⟩, ?_⟩
  rintro i n σ' H' ⟨rfl, hil0, rows', rs', ds', env', S', m', hr', hrow', hE', hs', hx', hk⟩
  have hil : i ≤ vs.length := hil0
  have hstd : std H' := stm _ _ hx'.mono
  by_cases hlt : i < vs.length
  · refine .inr ⟨wj.go i H' hstd hlt, Inv' (i + 1), fun σ2 H2 h2 => ⟨vs.length - (i + 1), by omega, rfl, hlt, h2⟩, fun v H2 hy => ?_⟩
    obtain ⟨rfl, hxi⟩ := wj.yld i H' v H2 hstd hlt hy
    rw [List.drop_eq_getElem_cons hlt] at hrow'
    have hxi2 : vs[i] = v := by
      rw [List.getElem?_eq_getElem hlt] at hxi
      exact Option.some.inj hxi
    rw [hxi2] at hrow'
    cases rs' with
    | nil => have z := hrow'.2; cases z
    | cons r rs' =>
      obtain ⟨d, dr, v', us, rfl, e2, hR, hRs⟩ := hrow'
      cases e2
      unfold chkRows at hr'
      cases rows' with
      | nil => cases hr'
      | cons e0 d0 r0 =>
        dsimp only at hr'
        split at hr'
        · rename_i ps b sc p du' kk pp rs2 heq
          cases heq
          simp only [Bool.and_eq_true] at hr'
          obtain ⟨c1, c2, c3, c4, c5, c6⟩ := hr'
          have hR2 := hR.mono (X := X) hx'.mono
          obtain ⟨a, f, wv, rfl, hT, hL, hD⟩ := hR2
          have hD : RelD L.K H2 m' d wv := hD
          refine ⟨a, [.ref f, wv], rfl, hT.sq, rfl, .ref f, [wv], rfl, wv, [], rfl, rfl, ?_⟩
          have hE2 : RelE L Z H2 m' ((env'.set di none).set du (some d)) ((σ'.set di (some (.ref f))).set du (some wv)) :=
            RelE.put' (G.zt hc) (RelE.put' (G.zt hc) hE' (fun d z => by cases z)) (fun d' z => by cases z; exact hD)
          refine ⟨f, _, S', m', ps, b, sc, fun env S => ev g e0 env S, fun hl => ?_, hL, c2, fun q cl pm cv ctv => noArgs_bind c1 q b sc cl pm cv ctv, fun W2 X2 G2 => (sound e0 (lamCc c sc) b c3 G2).1, hE2, hs', ?_⟩
          · rw [List.getElem?_set_ne hne.symm, List.getElem?_set_self (by rw [List.length_set, List.length_set] at hl; exact hl)]
          · unfold deedL at hk
            rw [show deed1 (ev g e0 ((env'.set di none).set du (some d)) S') env' (bd ((env'.set di none).set du (some d))) (fun k => g.sub k x) (fun k fs => hOf g fi h k fs ((env'.set di none).set du (some d))) = deed1 (ev g e0 ((env'.set di none).set du (some d)) S') ((env'.set di none).set du (some d)) (bd ((env'.set di none).set du (some d))) (fun k => g.sub k x) (fun k fs => hOf g fi h k fs ((env'.set di none).set du (some d))) from rfl] at hk
            cases q5 : deed1 (ev g e0 ((env'.set di none).set du (some d)) S') ((env'.set di none).set du (some d)) (bd ((env'.set di none).set du (some d))) (fun k => g.sub k x) (fun k fs => hOf g fi h k fs ((env'.set di none).set du (some d))) with
            | bad => rw [q5] at hk; exact hk.elim
            | exc _ _ _ _ => rw [q5] at hk; exact hk.elim
            | next env3 S3 =>
              rw [q5] at hk
              exact fun H3 m3 σ3 e3 s3 r3 => ⟨r0, rs', dr, env3, S3, m3, c6, hRs, r3, s3, hx'.trans e3, hk⟩
            | cont env3 S3 =>
              rw [q5] at hk
              exact fun H3 m3 σ3 e3 s3 r3 => ⟨r0, rs', dr, env3, S3, m3, c6, hRs, r3, s3, hx'.trans e3, hk⟩
            | brk env3 S3 =>
              rw [q5] at hk
              exact fun H3 m3 σ3 e3 s3 r3 => hk H3 m3 σ3 (hx'.trans e3) s3 r3
            | ret d S3 =>
              rw [q5] at hk
              exact fun H3 m3 v e3 s3 r3 => hk H3 m3 v (hx'.trans e3) s3 r3
        · cases hr'
  · have ed : vs.drop i = [] := List.drop_eq_nil_of_le (by omega)
    rw [ed] at hrow'
    refine .inl ⟨wj.stop i H' hstd (show vs.length ≤ i by omega), ?_⟩
    cases rs' with
    | nil =>
      obtain ⟨rfl, _⟩ := hrow'
      cases rows' with
      | nil => exact hk H' m' σ' hx' hs' hE'
      | cons _ _ _ => exact hk.elim
    | cons r rs' =>
      obtain ⟨d, dr, v', us, _, e2, _⟩ := hrow'
      cases e2
end
end KF

set_option Elab.async false
set_option linter.all false
set_option maxRecDepth 100000
set_option maxHeartbeats 4000000
/-! KF15: soundness of all statements -/
namespace KF
open PySem PySem.Spec PyProof.Rows L2 LamX
structure SF (t : Tb) (L : Lk) (g : Cfg) (dl : Bool) (X : Cx) (c : Cc) : Prop where
  ex : c.suite = none → ∀ pn xe, ExcOk t L (X.tr pn xe)
  lam : dl = true → c.suite = none → LamF t L g X ∧ TryF t L g X
section
variable {t : Tb} {L : Lk} {g : Cfg} {W : WX} {Z : ZP} {X : Cx} {c : Cc} {dl : Bool}
theorem SF.tr (F : SF t L g dl X c) {pn : List (Addr × Obj)} {xe : Value → Shared → Prop} : SF t L g dl (X.tr pn xe) c where
  ex := fun hc pn' xe' => F.ex hc pn' xe'
  lam := fun h1 h2 => ⟨⟨(F.lam h1 h2).1.code, (F.lam h1 h2).1.stk, (F.lam h1 h2).1.fr, (F.lam h1 h2).1.room, (F.lam h1 h2).1.call⟩, ⟨(F.lam h1 h2).2.nm, (F.lam h1 h2).2.sub⟩⟩
/-- stored from a comprehension -/
theorem s_asgL (G : Good t L g W Z X c) (hc : c.suite = none) {i : Nat} {x : Str} {e : E} {v : Expr} {p p2 : Pos} (hi : c.N[i]? = some x) (hl : locB c x = true) (hs : swB c v x p = true) (h : chk t e c v = true) :
    PS X (.Assign [.Name x p] v p2) (tS L W Z fun env S => (ev g e env S).st env fun d S1 => match asg (.n i) d env with
      | some env' => .next env' S1
      | none => .bad) := by
  obtain ⟨h1, h2⟩ := fn_loc G hl
  obtain ⟨hsw, hyl, _⟩ := sw_ok (env := X.env) (l := p2.line) G.sc hs
  cases v <;> try (cases hs; done)
  rename_i elt gens s spp q
  cases e <;> try (unfold chk at h; cases h; done)
  rename_i fz e tg it cs
  unfold chk at h
  split at h
  · rename_i heq
    cases heq
    rename_i tgt iter ifs k
    simp only [Bool.and_eq_true, decide_eq_true_eq] at h
    obtain ⟨g1, rfl, g3, g4, g5, g6, g7, g8⟩ := h
    refine (s_lc (fz := fz) G hc g3 hi hyl hsw (soundI it c iter g5 G) g4 (fun s' H C cl fp => ?_) (fun s' H C cl fp => soundC cs (blkCc c s) ifs g7 (G.blk hc s' H C cl fp)) (fun s' H C cl fp => (sound e (blkCc c s) elt g8 (G.blk hc s' H C cl fp)).1)).imp fun D σ H w => ?_
    · have h := g_ok (G.blk hc (s := s) s' H C cl fp) (G.calm hc) tg tgt g6
      have e : (X.blk s' H s (compEnvC s cl C X.env) fp).K = L.K := G.K
      rw [e] at h
      exact h
    · exact s_asgR (tg := .n i) G hc w
  · cases h
end
mutual
theorem soundS {t : Tb} {L : Lk} {dl : Bool} : ∀ (s : St) (c : Cc) (a : Stmt), chkS t dl s c a = true → ∀ {g : Cfg} {W : WX} {Z : ZP} {X : Cx}, Good t L g W Z X c → SF t L g dl X c → PS X a (tS L W Z fun env S => exec g s env S)
  | .ex e, c, a, h, g, W, Z, X, G, F => by
    unfold chkS at h
    split at h
    · rw [Bool.and_eq_true] at h
      exact s_ex G (sound e c _ h.2 G).1 h.1
    · cases h
  | .ret e, c, a, h, g, W, Z, X, G, F => by
    unfold chkS at h
    split at h
    · exact s_ret G (sound e c _ h G).1
    · cases h
  | .retN, c, a, h, g, W, Z, X, G, F => by
    unfold chkS at h
    split at h
    · exact s_retN
    · cases h
  | .asg tg e, c, a, h, g, W, Z, X, G, F => by
    unfold chkS at h
    rw [Bool.and_eq_true] at h
    obtain ⟨hc, h⟩ := h
    have hc := calm_of hc
    rw [Bool.and_eq_true] at h
    obtain ⟨h1, h2⟩ := h
    split at h2
    · rename_i x p v pos
      dsimp only at h1
      split at h2
      · rename_i i
        simp only [Bool.and_eq_true, Bool.or_eq_true, decide_eq_true_eq] at h2
        obtain ⟨g1, g2, g3⟩ := h2
        rcases g3 with g3 | g3 | g3
        · exact s_asgN G hc g1 g2 (notComp_ok g3 _ _ _) (sound e c _ h1 G).1
        · exact s_asgL G hc g1 g2 g3 h1
        · exact s_asgN G hc g1 g2 (nsw_ok G.sc g3) (sound e c _ h1 G).1
      · cases h2
    · rename_i ts k p vs k2 p2 pos
      dsimp only at h1
      rw [Bool.and_eq_true, Bool.or_eq_true] at h2
      obtain ⟨g1, g2⟩ := h2
      rcases g2 with g2 | g2
      · exact s_asgT G hc g1 rfl (npar_ok G.sc g2) (sound e c _ h1 G).1
      · have g2' := g2
        unfold parB at g2'
        split at g2'
        · cases e <;> try (unfold chk at h1; cases h1; done)
          rename_i as
          unfold chk at h1
          dsimp only at h1
          rw [Bool.and_eq_true] at h1
          exact s_par G hc g1 g2 (sounds as c _ h1.2 h1.1 G)
        · cases g2'
    · rename_i ts k p v pos hv
      dsimp only at h1
      simp only [Bool.and_eq_true] at h2
      obtain ⟨g1, g2, g3⟩ := h2
      exact s_asgT G hc g1 g3 (ntup_ok g2) (sound e c _ h1 G).1
    · cases h2
  | .augN i o e, c, a, h, g, W, Z, X, G, F => by
    unfold chkS at h
    rw [Bool.and_eq_true] at h
    obtain ⟨hc, h⟩ := h
    have hc := calm_of hc
    split at h
    · simp only [Bool.and_eq_true, decide_eq_true_eq] at h
      obtain ⟨h1, h2, h3, h4, h5⟩ := h
      rw [O2.is_eq h1]
      exact s_augN G hc h3 h4 (sound e c _ h5 G).1
    · cases h
  | .augX x i o e, c, a, h, g, W, Z, X, G, F => by
    unfold chkS at h
    rw [Bool.and_eq_true] at h
    obtain ⟨hc, h⟩ := h
    have hc := calm_of hc
    split at h
    · simp only [Bool.and_eq_true] at h
      obtain ⟨h1, h2, h3, h4, h5, h6⟩ := h
      rw [O2.is_eq h1]
      exact s_augX G h3 (sound x c _ h4 G).1 (sound i c _ h5 G).1 (sound e c _ h6 G).1
    · cases h
  | .ifs x aa b, c, s, h, g, W, Z, X, G, F => by
    unfold chkS at h
    split at h
    · simp only [Bool.and_eq_true] at h
      obtain ⟨h1, h2, h3⟩ := h
      exact s_if G (sound x c _ h1 G).2 (soundSs aa c _ h2 G F) (soundSs b c _ h3 G F)
    · cases h
  | .for_ tg it b, c, a, h, g, W, Z, X, G, F => by
    unfold chkS at h
    rw [Bool.and_eq_true] at h
    obtain ⟨hc, h⟩ := h
    have hc := calm_of hc
    split at h
    · simp only [Bool.and_eq_true] at h
      obtain ⟨h1, h2, h3, h4⟩ := h
      exact s_for G hc h1 h2 (soundI it c _ h3 G) (soundSs b c _ h4 G F)
    · cases h
  | .raise k as, c, a, h, g, W, Z, X, G, F => by
    unfold chkS at h
    rw [Bool.and_eq_true] at h
    obtain ⟨hc, h⟩ := h
    have hc := calm_of hc
    split at h
    · rename_i xx pp1 e0 es0 pp2 pp3
      simp only [Bool.and_eq_true, decide_eq_true_eq] at h
      obtain ⟨h1, h2, h3, h4, h5⟩ := h
      have q := s_raise (p := pp1) (p2 := pp2) (p3 := pp3) G (F.ex hc X.pn X.xe) hc h1 h2 h3 h4 (sounds as c _ h5 h4 G)
      rw [← G.ef] at q
      exact q
    · cases h
  | .pass, c, a, h, g, W, Z, X, G, F => by
    unfold chkS at h
    split at h
    · exact s_pass
    · cases h
  | .brk, c, a, h, g, W, Z, X, G, F => by
    unfold chkS at h
    split at h
    · exact s_brk
    · cases h
  | .cont, c, a, h, g, W, Z, X, G, F => by
    unfold chkS at h
    split at h
    · exact s_cont
    · cases h
  | .deeds rows di du fi k b hd, c, a, h, g, W, Z, X, G, F => by
    unfold chkS at h
    rw [Bool.and_eq_true, Bool.and_eq_true] at h
    obtain ⟨hdl, hc, h⟩ := h
    have hc := calm_of hc
    obtain ⟨LF, TF⟩ := F.lam hdl hc
    split at h
    · simp only [Bool.and_eq_true, decide_eq_true_eq] at h
      obtain ⟨h1, h2, h3, h4, h5, h6, h7, h8, h9, h10, h11, h12, h13, h14, h15, h16, h17, h18⟩ := h
      subst h3
      exact s_deeds G LF TF hc h1 (by unfold chkT chkTs chkT chkTs chkT chkTs; simp [h2, h4, h7, h8, notStar]) h14 h15 h16 h2 h9 h10 h5 h6 h11 h12 h13
        (fun W' pn xe G' => soundSs b c _ h17 G' F.tr) (fun g' Z' Y G' => soundSs hd _ _ h18 G' ⟨fun z => (nomatch z), fun _ z => (nomatch z)⟩)
    · cases h
theorem soundSs {t : Tb} {L : Lk} {dl : Bool} : ∀ (ss : Sts) (c : Cc) (as : List Stmt), chkSs t dl ss c as = true → ∀ {g : Cfg} {W : WX} {Z : ZP} {X : Cx}, Good t L g W Z X c → SF t L g dl X c → PSs X as (tS L W Z fun env S => execs g ss env S)
  | .nil, c, as, h, g, W, Z, X, G, F => by
    unfold chkSs at h
    have e := List.isEmpty_iff.mp h
    subst e
    exact ss_nil
  | .cons s r, c, as, h, g, W, Z, X, G, F => by
    unfold chkSs at h
    split at h
    · rw [Bool.and_eq_true] at h
      exact ss_cons G (soundS s c _ h.1 G F) (soundSs r c _ h.2 G F)
    · cases h
end
end KF

set_option Elab.async false
set_option linter.all false
set_option maxRecDepth 100000
set_option maxHeartbeats 4000000
/-! KF16: defs, their table, errors' classes -/
namespace KF
open PySem PySem.Spec PyProof.Rows L2 LamX
structure Df where
  x : Str
  n : Nat
  N : List Str
  b : Sts
  dl : Bool := false
structure Lw where
  t : Tb
  defs : List Df
  ef : Nat → List Str
  glob : Nat → Option D
  sub : Nat → Nat → Bool
def startE (N : List Str) (ds : List D) : KF.Env := ds.map some ++ List.replicate (N.length - ds.length) none
def cfgN (w : Lw) (call : Nat → List D → Store → R D) : Cfg := ⟨call, w.glob, w.ef, none, w.sub⟩
def endR : RS → R D
  | .ret d S => .ok d S
  | .next _ S => .ok .non S
  | .exc c fs _ S => .exc c fs S
  | _ => .bad
def runD (g : Cfg) (d : Df) (ds : List D) (S : Store) : R D := endR (execs g d.b (startE d.N ds) S)
def callN (w : Lw) : Nat → Nat → List D → Store → R D
  | 0, _, _, _ => .bad
  | k + 1, f, ds, S => match w.defs[f]? with
    | some d => runD (cfgN w (callN w k)) d ds S
    | none => .bad
/-! ### an error's class: its __init__ -/
def oexB (K : PySem.W.Frag) (C : Addr) : Bool := (match K.lookup C with
  | some ⟨.type "type", _, .cls cd, sl⟩ => (match cd.mro, sl.toList with
    | .ref C' :: bm, [_, _, _, _, some (.builtin n), _] => C' == C && (n == "ValueError.__new__" && (!cd.hasDel && (cd.hasDict && PySem.HandSPX.refsVE bm)))
    | _, _ => false)
  | _ => false) && (decide (PySem.W.findIn K (.ref C) "__setattr__" = some (some (.builtin "object.__setattr__"))) && (decide (PySem.W.subIn K (.ref C) (.type "BaseException") = some true) && (decide (PySem.W.typeIn K (.ref C) = some (.type "type")) && PySem.W.keepIn K (.ref C))))
theorem oexB_ok {K : PySem.W.Frag} {C : Addr} (h : oexB K C = true) : OexC K C := by
  unfold oexB at h
  simp only [Bool.and_eq_true, decide_eq_true_eq] at h
  obtain ⟨h0, h1, h2, h3, h4⟩ := h
  refine ⟨?_, h1, h2, h3, h4⟩
  split at h0
  · rename_i dd cd sl ho
    split at h0
    · rename_i C' bm k0 k1 k2 k3 n k5 hm hs
      simp only [Bool.and_eq_true, beq_iff_eq, Bool.not_eq_true'] at h0
      obtain ⟨rfl, rfl, hdel, hd, ht⟩ := h0
      obtain ⟨nm, bs, mro, ns, qn, hd', sn, sub, ab, col, del⟩ := cd
      dsimp only at hm hdel hd
      subst hm hdel hd
      have hsl : sl = #[k0, k1, k2, k3, some (.builtin "ValueError.__new__"), k5] := by
        obtain ⟨l⟩ := sl
        simp only at hs
        rw [hs]
      subst hsl
      exact ⟨nm, qn, ns, bs, bm, sn, sub, ab, col, dd, k0, k1, k2, k3, k5, ho, ht⟩
    · cases h0
  · cases h0
/-- what its __init__ does -/
def spI (K : PySem.W.Frag) (C : Addr) (ns : List Str) : Sp := fun vs H Q E => ∃ a ws, vs = .ref a :: ws ∧ ws.length = ns.length ∧ H a = some (exo a C none) ∧ ∀ d, H d = none → d ≠ a → Q .non (upd (upd H d (exd d (ns.zip ws).reverse)) a (exo a C (some d)))
structure ExcC (P : Program) (wo : World) (K : PySem.W.Frag) (mg : Str → Option Value) (base : Heap) (x : Str) (C : Addr) (ns : List Str) : Prop where
  glo : mg x = some (.ref C)
  oe : OexC K C
  xf : XfC K C
  no : ∀ f ∈ ns, PySem.W.findIn K (.ref C) f = some none
  ini : ∃ (fI : Addr) (fd : FuncData) (ps : List Str), PySem.W.findIn K (.ref C) "__init__" = some (some (.ref fI)) ∧ PySem.W.typeIn K (.ref fI) = some (.type "function") ∧ FnOk P wo K mg base (L2.CX P wo) 1 fI fd ps (spI K C ns) ∧ Binds K fd ps []
theorem upd_del {H1 : Hp} {a d C : Addr} {fs : List (Str × V)} (ha : H1 a = none) (hd : d ≠ a) :
    upd (del (upd (upd (upd H1 a (exo a C none)) d (exd d fs)) a (exo a C (some d))) a) d (.xd fs) = upd H1 d (.xd fs) := by
  funext b
  by_cases hb : b = d
  · rw [hb, upd_same, upd_same]
  · rw [upd_ne hb, upd_ne hb]
    by_cases hba : b = a
    · rw [hba, del_same, ha]
    · rw [del_ne hba, upd_ne hba, upd_ne hb, upd_ne hba]
theorem passesF {X : Cx} : Passes (L2.CX X.prog X.w) X (fun _ _ _ => False) := fun _ _ _ _ _ _ _ h => by
  obtain ⟨_, _, _, _, _, _, _, _, _, _, _, _, z⟩ := h
  exact z.elim
theorem PA.weak {X : Cx} {es : List Expr} {t : TA} (h : PA X es t) : PA X es (fun σ H Q' => ∃ Q0 : List V → Hp → Prop, t σ H Q0 ∧ ∀ vs H1, Q0 vs H1 → Q' vs H1) :=
  ⟨fun pos pins s σ H Q I ⟨Q0, h1, h2⟩ => thn (h.run pos pins s σ H Q0 I h1) fun us s' ⟨vs, H', I', r, q⟩ => ⟨vs, H', I', r, h2 vs H' q⟩⟩
theorem exc_ok {X : Cx} (hr : Room 2 X.A) {x : Str} {C : Addr} {ns : List Str} (hz : ns.length ≤ 1000) (E : ExcC X.prog X.w X.K X.mg X.base x C ns) {e : Expr} {es : List Expr} {p p2 : Pos} {ta : TA} (hg : Gl X x) (hdb : (x == ("__debug__" : Str)) = false) (hn : (e :: es).all notStar = true) (ha : PA X (e :: es) ta) :
    PMk X (.Call (.Name x p) (e :: es) [] p2) (fun σ H Q => ta σ H fun vs H1 => vs.length = ns.length ∧ ∀ d, H1 d = none → Q (.ref C) (some d) (upd H1 d (.xd (ns.zip vs).reverse))) := by
  obtain ⟨fI, fd, ps, i1, i2, i3, i4⟩ := E.ini
  rw [List.all_cons, Bool.and_eq_true] at hn
  intro pins s σ H Q I h
  refine pmk_oex (pos := p2) (p := p) E.oe i1 i2 i3 hr i4 .nil passesF hg E.glo (PA.weak ha) hdb (star_cons hn.1) (star_any hn.2) pins s σ H Q I ?_
  exact ⟨_, h, fun vs H1 ⟨hl, q⟩ => ⟨by omega, fun a ha => ⟨a, vs ++ [], rfl, by rw [List.append_nil]; exact hl, upd_same, fun d hd hda => ⟨rfl, d, _, upd_same, by rw [upd_ne hda, upd_same], by rw [upd_ne hda] at hd; exact hd, by
      rw [List.append_nil, upd_del ha hda]
      exact q d (by rw [upd_ne hda] at hd; exact hd)⟩⟩⟩⟩
section
variable {P : Program} {wo : World} {K : PySem.W.Frag} {mg : Str → Option Value} {base : Heap}
def isPut (f x : Str) : Stmt → Bool
  | .Assign [.Attribute (.Name s _) g _] (.Name y _) _ => decide (s = "self") && (decide (g = f) && decide (y = x))
  | _ => false
theorem isPut_ok {f x : Str} {st : Stmt} (h : isPut f x st = true) : ∃ p1 p2 p3 p4, st = .Assign [.Attribute (.Name "self" p1) f p2] (.Name x p3) p4 := by
  unfold isPut at h
  split at h
  · simp only [Bool.and_eq_true, decide_eq_true_eq] at h
    obtain ⟨rfl, rfl, rfl⟩ := h
    exact ⟨_, _, _, _, rfl⟩
  · cases h
theorem ini_var {X : Cx} {i : Nat} {x : Str} {p : Pos} (hN : X.N[i]? = some x) (hv : X.env.scope.names.lookup x = some .local) (hd : dunB x = true) : PE X (.Name x p) (tVar i) := by
  unfold dunB at hd
  simp only [Bool.and_eq_true, Bool.not_eq_true'] at hd
  exact pe_var hN (.inl hv) hd.1 hd.2
def locs (ps : List Str) (sc : Scope) : Bool := ps.all fun x => decide (sc.names.lookup x = some .local) && dunB x
theorem ini1 {x q : Str} {pa : Arguments} {b : List Stmt} {sc : Scope} {dvs : List V} {kws : List (Str × V)} {fI : Addr} {fd : FuncData} {C : Addr} {f y : Str} (F : FunD K x q pa b sc dvs kws fI fd) (S : FnScope ["self", y] ["self", y] sc) (hl : locs ["self", y] sc = true) (O : OexC K C) (hno : PySem.W.findIn K (.ref C) f = some none) {s1 : Stmt} (hb : b = [s1]) (h1 : isPut f y s1 = true) :
    FnOk P wo K mg base (L2.CX P wo) 1 fI fd ["self", y] (spI K C [f]) := by
  subst hb
  obtain ⟨p1, p2, p3, p4, rfl⟩ := isPut_ok h1
  unfold locs at hl
  simp only [List.all_cons, List.all_nil, Bool.and_true, Bool.and_eq_true, decide_eq_true_eq] at hl
  obtain ⟨⟨l1, l2⟩, l3, l4⟩ := hl
  refine F.ok S (fun vs H Q E h => ?_) fun cdv A outer s H vs Q E hr h => ⟨_, pss_one (ps_ost (ini_var (i := 0) rfl l1 l2) (ini_var (i := 1) rfl l3 l4) rfl), ?_⟩
  · obtain ⟨a, ws, rfl, e, _⟩ := h
    rw [List.length_cons, e]; rfl
  · obtain ⟨a, ws, rfl, e, hA, hq⟩ := h
    match ws, e with
    | [w0], _ => exact ⟨w0, rfl, .ref a, rfl, a, C, rfl, O, hno, .inl ⟨hA, fun dx h1 h2 => hq dx h1 h2⟩⟩
theorem ini2 {x q : Str} {pa : Arguments} {b : List Stmt} {sc : Scope} {dvs : List V} {kws : List (Str × V)} {fI : Addr} {fd : FuncData} {C : Addr} {f1 f2 y1 y2 : Str} (F : FunD K x q pa b sc dvs kws fI fd) (S : FnScope ["self", y1, y2] ["self", y1, y2] sc) (hl : locs ["self", y1, y2] sc = true) (O : OexC K C)
    (hno1 : PySem.W.findIn K (.ref C) f1 = some none) (hno2 : PySem.W.findIn K (.ref C) f2 = some none) {s1 s2 : Stmt} (hb : b = [s1, s2]) (h1 : isPut f1 y1 s1 = true) (h2 : isPut f2 y2 s2 = true) :
    FnOk P wo K mg base (L2.CX P wo) 1 fI fd ["self", y1, y2] (spI K C [f1, f2]) := by
  subst hb
  obtain ⟨p1, p2, p3, p4, rfl⟩ := isPut_ok h1
  obtain ⟨r1, r2, r3, r4, rfl⟩ := isPut_ok h2
  unfold locs at hl
  simp only [List.all_cons, List.all_nil, Bool.and_true, Bool.and_eq_true, decide_eq_true_eq] at hl
  obtain ⟨⟨l1, l2⟩, ⟨l3, l4⟩, l5, l6⟩ := hl
  refine F.ok S (fun vs H Q E h => ?_) fun cdv A outer s H vs Q E hr h => ⟨_, pss_cons (ps_ost (ini_var (i := 0) rfl l1 l2) (ini_var (i := 1) rfl l3 l4) rfl) (pss_one (ps_ost (ini_var (i := 0) rfl l1 l2) (ini_var (i := 2) rfl l5 l6) rfl)), ?_⟩
  · obtain ⟨a, ws, rfl, e, _⟩ := h
    rw [List.length_cons, e]; rfl
  · obtain ⟨a, ws, rfl, e, hA, hq⟩ := h
    match ws, e with
    | [w0, w1], _ =>
      refine ⟨w0, rfl, .ref a, rfl, a, C, rfl, O, hno1, .inl ⟨hA, fun dx h1 h2 => ?_⟩⟩
      refine ⟨w1, rfl, .ref a, rfl, a, C, rfl, O, hno2, .inr ⟨dx, [(f1, w0)], upd_same, by rw [upd_ne h2, upd_same], by simp, ?_⟩⟩
      have e : upd (upd (upd H dx (exd dx [(f1, w0)])) a (exo a C (some dx))) dx (exd dx [(f2, w1), (f1, w0)]) = upd (upd H dx (exd dx [(f2, w1), (f1, w0)])) a (exo a C (some dx)) := by
        funext b
        by_cases hb : b = dx
        · rw [hb, upd_same, upd_ne h2, upd_same]
        · rw [upd_ne hb]
          by_cases hba : b = a
          · rw [hba, upd_same, upd_same]
          · rw [upd_ne hba, upd_ne hb, upd_ne hba, upd_ne hb]
      show Q .non (upd (upd (upd H dx (exd dx [(f1, w0)])) a (exo a C (some dx))) dx (exd dx [(f2, w1), (f1, w0)]))
      rw [e]
      exact hq dx h1 h2
end
/-! ### defs -/
/-- one def's text and its IR -/
structure DfOk (w : Lw) (d : Df) (ar : Arguments) (b : List Stmt) (sc : Scope) : Prop where
  scp : FnScope d.N (d.N.take d.n) sc
  len : (d.N.take d.n).length = d.n
  chk : chkSs w.t d.dl d.b ⟨d.N, sc, none, none⟩ b = true
  bind : ∀ (x : Str) (kV doc pm : Value) (an : Option Addr) (cdv ct : Value) (us : List Value), us.length = d.n → bindArgs (PySem.W.fnOf x x ar b sc .none kV doc pm an cdv ct) ⟨us, []⟩ = pure ((d.N.take d.n).zip us)
/-- what stands at the head -/
structure Wd (w : Lw) (L : Lk) (P : Program) (wo : World) (mg : Str → Option Value) (base : Heap) : Prop where
  ef : w.ef = L.ef
  efl : ∀ k, (L.ef k).length ≤ 1000
  free : ∀ x ∈ w.t.blt, mg x = none
  glob : ∀ k x d, w.t.glN[k]? = some x → w.glob k = some d → ∃ v u, mg x = some u ∧ RelV v u ∧ ∀ H m, RelD L.K H m d v
  exn : ∀ (k : Nat) (x : Str), w.t.exN[k]? = some x → ExcC P wo L.K mg base x (L.ea k) (L.ef k)
  sub : ∀ j k, w.sub j k = true → (∃ x, w.t.exN[j]? = some x) ∧ PySem.W.exmOne L.K (.ref (L.ea j)) (.ref (L.ea k)) = some true
  fn : ∀ (f : Nat) (x : Str) (n : Nat), w.t.fnN[f]? = some (x, n) → ∃ (a : Addr) (fd : FuncData) (d : Df) (ar : Arguments) (b : List Stmt) (sc : Scope), mg x = some (.ref a) ∧ w.defs[f]? = some d ∧ d.n = n ∧ DfOk w d ar b sc ∧ FunD L.K x x ar b sc [] [] a fd ∧
    (d.dl = true → ∃ cc Pt, fd.code = .ref cc ∧ TabB base mg cc Pt ∧ (Pt, x ++ ".<locals>." ++ "<lambda>") ∈ L.T ∧ ∀ p ∈ L.T, p.1 = Pt → p.2 = x ++ ".<locals>." ++ "<lambda>")
def FnAt (w : Lw) (L : Lk) (P : Program) (wo : World) (mg : Str → Option Value) (base : Heap) (k : Nat) : Prop := ∀ f x n, w.t.fnN[f]? = some (x, n) → ∃ (a : Addr) (fd : FuncData) (ps : List Str), mg x = some (.ref a) ∧ PySem.W.keepIn L.K (.ref a) = true ∧ Binds L.K fd ps [] ∧ ps.length = n ∧ (∃ oc od osl, L.K.lookup a = some ⟨oc, od, .func fd, osl⟩) ∧ (∃ d, w.defs[f]? = some d ∧ ps = d.N.take d.n) ∧
  FnOk P wo L.K mg base (L2.CX P wo) (2 * k + 1) a fd ps (spC L n (callN w k f))
section
variable {w : Lw} {L : Lk} {P : Program} {wo : World} {mg : Str → Option Value} {base : Heap}
theorem startE_rel {H : Hp} {m : Mp} {N : List Str} {ds : List D} {vs : List V} (hT : m.T = L.T) (r : RelDs L.K H m ds vs) : RelE L (fun _ _ _ => True) H m (startE N ds) (L2.start N vs) := by
  have hl := r.length
  refine ⟨?_, fun i d h => ?_, trivial, hT⟩
  · unfold startE L2.start
    rw [List.length_append, List.length_append, List.length_map, List.length_map, List.length_replicate, List.length_replicate, hl]
  · unfold startE at h
    by_cases hi : i < ds.length
    · rw [List.getElem?_append_left (by rw [List.length_map]; exact hi), List.getElem?_map, List.getElem?_eq_getElem hi] at h
      cases h
      obtain ⟨v, e1, rv⟩ := r.get (List.getElem?_eq_getElem hi)
      refine ⟨v, ?_, rv⟩
      unfold L2.start
      rw [List.getElem?_append_left (by rw [List.length_map, hl]; exact hi), List.getElem?_map, e1]
      rfl
    · rw [List.getElem?_append_right (by rw [List.length_map]; omega), List.getElem?_replicate] at h
      split at h <;> cases h
theorem ends_ok {W : WX} {Z : ZP} {E : XK} {H : Hp} {m : Mp} {Q : VK} (hW : ∀ cls d σ H, E cls d H → W cls d σ H) : ∀ {r : RS}, Cont L (fun cls d _ H => E cls d H) [] (RelD L.K) Q H m (endR r) → ContS L W Z { nx := fun _ H' => Q .non H', rt := Q } H m r
  | .ret _ _, h => h
  | .next env S, h => fun H' m' σ' e s _ => h H' m' .non e s rfl
  | .exc _ _ _ _, h => fun H' m' σ' dx vs e s _ r1 r2 r3 r4 => hW _ _ _ _ (h H' m' dx vs e s r1 r2 r3 r4)
  | .brk _ _, h => h.elim
  | .cont _ _, h => h.elim
  | .bad, h => h.elim
theorem fn_step (D : Wd w L P wo mg base) (k : Nat) (ih : FnAt w L P wo mg base k) : FnAt w L P wo mg base (k + 1) := by
  intro f x n hf
  obtain ⟨a, fd, d, ar, b, sc, e1, e2, rfl, O, F, hlam⟩ := D.fn f x n hf
  have F' := F
  obtain ⟨oc, od, dV, kV, doc, pm, an, cdv, ct, osl, hfd, lk, hcd, hdf, _⟩ := F.ex
  subst hfd
  refine ⟨a, _, d.N.take d.n, e1, F.kp, F'.bindsN (fun kV doc pm an cdv ct us hl => O.bind x kV doc pm an cdv ct us (by rw [hl, O.len])), O.len, ⟨oc, od, osl, lk⟩, ⟨d, e2, rfl⟩, ?_⟩
  refine (fn_of (k := 2 * k + 2) lk hcd O.scp (fun vs H Q E h => by rw [O.len]; exact h.1) fun A outer s H vs Q E hr h => ?_)
  obtain ⟨hlen, ds, S, m, hT, hS, hD, hC⟩ := h
  have un := hr.units
  have G : Good w.t L (cfgN w (callN w k)) (fun cls d _ H => E cls d H) (fun _ _ _ => True) (cxOf (L2.CX P wo) P wo L.K mg base d.N x sc a cdv A outer s H E) ⟨d.N, sc, none, none⟩ :=
    { K := rfl, N := rfl, nd := O.scp.nd, sc := rfl, fn := fun _ _ => rfl, un := un, free := D.free, glob := D.glob, tk := takes_of rfl rfl rfl rfl, po := passes_of rfl, ef := D.ef, zm := fun _ _ _ _ _ _ _ => trivial, calm := fun _ => rfl, zt := fun _ _ _ _ => trivial,
      call := fun _ f' x' n' h' => by
        obtain ⟨a', fd', ps', g1, g2, g3, g4, _, _, g5⟩ := ih f' x' n' h'
        exact ⟨a', fd', ps', 2 * k + 1, g1, g2, g3, g4, hr.mono (by omega), g5⟩
      suite := fun i h => by cases h }
  have SFx : SF w.t L (cfgN w (callN w k)) d.dl (cxOf (L2.CX P wo) P wo L.K mg base d.N x sc a cdv A outer s H E) ⟨d.N, sc, none, none⟩ := by
    refine ⟨fun _ pn xe => ?_, fun hdl _ => ⟨?_, ?_⟩⟩
    · intro j x' hj e es p p2 ta hg hdb hn ha
      exact exc_ok (hr.mono (by omega)) (D.efl j) (D.exn j x' hj) hg hdb hn ha
    · obtain ⟨cc, Pt, h1, h2, h3, h4⟩ := hlam hdl
      refine ⟨⟨cc, Pt, h1, h2, h3, h4⟩, rfl, rfl, hr.mono (by omega), fun f' x' n' h' => ?_⟩
      obtain ⟨a', fd', ps', g1, g2, g3, g4, _, _, g5⟩ := ih f' x' n' h'
      exact ⟨a', fd', ps', 2 * k + 1, g1, g2, g3, g4, hr.mono (by omega), g5⟩
    · refine ⟨fun j x' h' => (D.exn j x' h').glo, fun j k h' => ?_⟩
      obtain ⟨⟨x', hx'⟩, h2⟩ := D.sub j k h'
      exact ⟨h2, (D.exn j x' hx').xf, (D.exn j x' hx').no⟩
  refine ⟨_, soundSs d.b ⟨d.N, sc, none, none⟩ b O.chk G SFx, startE d.N ds, S, m, startE_rel hT hD, hS, ?_⟩
  refine ends_ok (fun _ _ _ _ h => h) ?_
  have e : callN w (k + 1) f ds S = endR (execs (cfgN w (callN w k)) d.b (startE d.N ds) S) := by
    unfold callN
    rw [e2]; rfl
  rw [← e]
  exact hC
theorem fn_all (D : Wd w L P wo mg base) : ∀ k, FnAt w L P wo mg base k
  | 0 => fun f x n hf => by
    obtain ⟨a, fd, d, ar, b, sc, e1, e2, rfl, O, F, hlam⟩ := D.fn f x n hf
    refine ⟨a, _, d.N.take d.n, e1, F.kp, F.bindsN (fun kV doc pm an cdv ct us hl => O.bind x kV doc pm an cdv ct us (by rw [hl, O.len])), O.len, (by obtain ⟨oc, od, dV, kV, doc, pm, an, cdv, ct, osl, hfd, lk, hcd, hdf, _⟩ := F.ex; exact ⟨oc, od, osl, lk⟩), ⟨d, e2, rfl⟩, ⟨fun vs H Q E h => by rw [O.len]; exact h.1, fun A outer s H args us vs Q E _ _ _ _ h => ?_⟩⟩
    obtain ⟨_, ds, S, m, _, _, _, hC⟩ := h
    exact hC.elim
  | k + 1 => fn_step D k (fn_all D k)
end
end KF

set_option Elab.async false
set_option linter.all false
set_option maxRecDepth 100000
set_option maxHeartbeats 4000000
/-! KF17: from the head's facts to the law's promise -/
namespace KF
open PySem PySem.Spec PyProof.Rows L2 LamX
/-- an error's class: its name, its fields, its __init__'s statement -/
structure Xc where
  x : Str
  fs : List Str
  st : Stmt
/-- a law's text: defs and where they stand, errors' classes, constants, builtins, which class is under which -/
structure Tx where
  defs : List (Df × Stmt)
  exs : List Xc
  gls : List (Str × D)
  blt : List Str
  subs : List (Nat × Nat)
def efOf : List Xc → Nat → List Str
  | [], _ => []
  | e :: _, 0 => e.fs
  | _ :: r, k + 1 => efOf r k
def glOf : List (Str × D) → Nat → Option D
  | [], _ => none
  | e :: _, 0 => some e.2
  | _ :: r, k + 1 => glOf r k
def nmOf : List Xc → Nat → Str
  | [], _ => ""
  | e :: _, 0 => e.x
  | _ :: r, k + 1 => nmOf r k
theorem efOf_get : ∀ {l : List Xc} {k : Nat} {e : Xc}, l[k]? = some e → efOf l k = e.fs ∧ nmOf l k = e.x
  | [], _, _, h => by simp at h
  | e :: _, 0, _, h => by simp at h; subst h; exact ⟨rfl, rfl⟩
  | _ :: r, k + 1, _, h => efOf_get (l := r) (by simpa using h)
theorem glOf_get : ∀ {l : List (Str × D)} {k : Nat} {x : Str} {d : D}, (l.map (·.1))[k]? = some x → glOf l k = some d → (x, d) ∈ l
  | [], _, _, _, h, _ => by simp at h
  | e :: _, 0, _, _, h, h2 => by
    simp at h; subst h
    cases h2
    exact List.mem_cons_self
  | _ :: r, k + 1, _, _, h, h2 => List.mem_cons_of_mem _ (glOf_get (l := r) (by simpa using h) h2)
def Tx.w (t : Tx) : Lw := ⟨⟨t.defs.map fun d => (d.1.x, d.1.n), t.exs.map (·.x), t.gls.map (·.1), t.blt⟩, t.defs.map (·.1), efOf t.exs, glOf t.gls, fun j k => t.subs.contains (j, k)⟩
def D.dv : D → Option He.Dv
  | .non => some .non
  | .bl b => some (.bl b)
  | .int i => some (.int i)
  | .str x => some (.str x)
  | _ => none
def dvs : List D → Option (List He.Dv)
  | [] => some []
  | d :: r => match d.dv, dvs r with
    | some v, some vs => some (v :: vs)
    | _, _ => none
theorem dvs_rel {K : PySem.W.Frag} {H : Hp} {m : Mp} : ∀ {ds : List D} {vs : List He.Dv}, dvs ds = some vs → RelDs K H m ds (vs.map (He.Dv.v K))
  | [], _, h => by cases h; rfl
  | d :: r, vs, h => by
    unfold dvs at h
    split at h
    · rename_i v us h1 h2
      cases h
      refine ⟨_, _, rfl, ?_, dvs_rel h2⟩
      cases d <;> first | (cases h1; rfl) | cases h1
    · cases h
def glChk (K : PySem.W.Frag) (x : Str) : D → Bool
  | .int i => (He.Fa.int x i).ok K
  | .str z => (He.Fa.str x z).ok K
  | .tup ds => (He.Fa.glo x).ok K && (match dvs ds with
    | some vs => He.tupB K x vs
    | none => false)
  | _ => false
theorem glChk_ok {K : PySem.W.Frag} {h : Heap} {mg : Str → Option Value} (X : K.In h) (G : h.Ns mainGlobals mg) {x : Str} {d : D} (c : glChk K x d = true) : ∃ v u, mg x = some u ∧ RelV v u ∧ ∀ H m, RelD K H m d v := by
  cases d <;> try (cases c; done)
  · obtain ⟨t, e⟩ := He.int_ok X G (show (He.Fa.int x _).ok K = true from c)
    exact ⟨.int _, _, e, ⟨t, rfl⟩, fun _ _ => rfl⟩
  · obtain ⟨t, e⟩ := He.str_ok X G (show (He.Fa.str x _).ok K = true from c)
    exact ⟨.str _, _, e, ⟨t, rfl⟩, fun _ _ => rfl⟩
  · rename_i ds
    unfold glChk at c
    rw [Bool.and_eq_true] at c
    obtain ⟨c1, c2⟩ := c
    split at c2
    · rename_i vs hv
      refine ⟨.ref (He.ga K x), _, He.glo_ok X G c1, rfl, fun H m => ⟨He.ga K x, _, rfl, .inr ?_, dvs_rel hv⟩⟩
      rcases He.tupB_ok c2 (fun _ => none) with z | z
      · rcases z with z | ⟨_, z⟩ <;> cases z
      · exact z
    · cases c2
/-- no lists in what is looked at -/
def noLst (K : PySem.W.Frag) : Bool := K.all fun p => match p.2 with
  | ⟨.type c, _, .seq _ _, _⟩ => !(c == "list")
  | _ => true
theorem noLst_ok {K : PySem.W.Frag} (h : noLst K = true) {H : Hp} {a : Addr} {xs : List V} (s : SqL K H a xs) : Rd H a (.lst xs) := by
  rcases s with s | ⟨o, its, n, e1, e2, _, e3, _⟩
  · exact s
  · have q := List.all_eq_true.mp h _ (He.lookup_mem e1)
    obtain ⟨oc, od, dt, sl⟩ := o
    cases e2
    cases e3
    simp at q
def xcChk (K : PySem.W.Frag) (e : Xc) : Bool := oexB K (He.ga K e.x) && (xfB K (He.ga K e.x) && (e.fs.all (fun f => decide (PySem.W.findIn K (.ref (He.ga K e.x)) f = some none)) && (decide (e.fs.length ≤ 1000) && (decide (PySem.W.findIn K (.ref (He.ga K e.x)) "__init__" = some (some (.ref (He.ma K (He.ga K e.x) "__init__")))) &&
  decide (PySem.W.typeIn K (.ref (He.ma K (He.ga K e.x) "__init__")) = some (.type "function"))))))
def lamT (K : PySem.W.Frag) (tf : List Str) : List (Addr × Str) := tf.map fun x => ((He.cT K (x, none)).2, x ++ ".<locals>." ++ "<lambda>")
def exAll (t : Tx) (tf : List Str) (K : PySem.W.Frag) : Bool := noLst K && (t.exs.all (xcChk K) && (t.subs.all (fun p => decide (p.1 < t.exs.length) && decide (PySem.W.exmOne K (.ref (He.ga K (nmOf t.exs p.1))) (.ref (He.ga K (nmOf t.exs p.2))) = some true)) && (t.gls.all (fun g => glChk K g.1 g.2) &&
  decide (tf.map fun x => (He.cT K (x, none)).2).Nodup)))
def ddOf (d : Df × Stmt) : He.DefD := ⟨(d.1.x, none), d.1.x, d.1.x, defArgs d.2, defBody d.2, defScope d.2, [], []⟩
def xdOf (e : Xc) : He.DefD := ⟨(e.x, some "__init__"), "__init__", e.x ++ ".__init__", defArgs e.st, defBody e.st, defScope e.st, [], []⟩
def fnAll (t : Tx) : List He.DefD := t.defs.map ddOf ++ t.exs.map xdOf
def faAll (t : Tx) : List He.Fa := t.defs.map (fun d => .glo d.1.x) ++ (t.exs.map (fun e => .glo e.x) ++ t.blt.map .free)
def IniOk (e : Xc) : Prop := ∀ (P : Program) (wo : World) (K : PySem.W.Frag) (mg : Str → Option Value) (base : Heap) (C fI : Addr) (fd : FuncData), FunD K "__init__" (e.x ++ ".__init__") (defArgs e.st) (defBody e.st) (defScope e.st) [] [] fI fd → OexC K C → (∀ f ∈ e.fs, PySem.W.findIn K (.ref C) f = some none) →
  ∃ ps, FnOk P wo K mg base (L2.CX P wo) 1 fI fd ps (spI K C e.fs) ∧ Binds K fd ps []
def AllOk (w : Lw) : List (Df × Stmt) → Prop
  | [] => True
  | d :: r => DfOk w d.1 (defArgs d.2) (defBody d.2) (defScope d.2) ∧ AllOk w r
theorem AllOk.get {w : Lw} : ∀ {l : List (Df × Stmt)} {i : Nat} {d : Df × Stmt}, AllOk w l → l[i]? = some d → DfOk w d.1 (defArgs d.2) (defBody d.2) (defScope d.2)
  | [], _, _, _, h => by simp at h
  | d :: r, 0, _, h, e => by simp at e; subst e; exact h.1
  | d :: r, i + 1, _, h, e => AllOk.get h.2 (by simpa using e)
def AllIni : List Xc → Prop
  | [] => True
  | e :: r => IniOk e ∧ AllIni r
theorem AllIni.get : ∀ {l : List Xc} {i : Nat} {e : Xc}, AllIni l → l[i]? = some e → IniOk e
  | [], _, _, _, h => by simp at h
  | d :: r, 0, _, h, e => by simp at e; subst e; exact h.1
  | d :: r, i + 1, _, h, e => AllIni.get h.2 (by simpa using e)
def lkOf (t : Tx) (tf : List Str) (K : PySem.W.Frag) : Lk := ⟨K, fun k => He.ga K (nmOf t.exs k), efOf t.exs, lamT K tf⟩
theorem wd_of {t : Tx} {tf : List Str} {wo : World} {h base : Heap} {K : PySem.W.Frag} {mg : Str → Option Value} {P : Program} (c : He.SaysX (faAll t) (fnAll t) [] (tf.map fun x => (x, none)) (exAll t tf) wo h K) (KB : K.In base) (GB : base.Ns mainGlobals mg)
    (hok : AllOk t.w t.defs) (hini : AllIni t.exs) (htf : ∀ d ∈ t.defs, d.1.dl = true → d.1.x ∈ tf) (TB : ∀ p ∈ tf.map fun x => He.cT K (x, none), TabB base mg p.1 p.2) : Wd t.w (lkOf t tf K) P wo mg base := by
  have sd : He.SaysD (faAll t) (fnAll t) K := c.t.d
  have hm := c.more
  unfold exAll at hm
  simp only [Bool.and_eq_true, List.all_eq_true, decide_eq_true_eq] at hm
  obtain ⟨m1, m2, m3, m4, m5⟩ := hm
  have hglo : ∀ x, (.glo x : He.Fa) ∈ faAll t → mg x = some (.ref (He.ga K x)) := fun x hx => He.glo_ok KB GB (sd.facts hx)
  have exq : ∀ (k : Nat) (e : Xc), t.exs[k]? = some e → ExcC P wo K mg base e.x (He.ga K e.x) e.fs := by
    intro k e he
    have hmem : e ∈ t.exs := List.mem_of_getElem? he
    have q := m2 e hmem
    unfold xcChk at q
    simp only [Bool.and_eq_true, List.all_eq_true, decide_eq_true_eq] at q
    obtain ⟨q1, q2, q3, q4, q5, q6⟩ := q
    obtain ⟨fd, F⟩ := sd.defs (d := xdOf e) (List.mem_append_right _ (List.mem_map.mpr ⟨e, hmem, rfl⟩))
    obtain ⟨ps, g1, g2⟩ := (hini.get he) P wo K mg base (He.ga K e.x) (He.ma K (He.ga K e.x) "__init__") fd F (oexB_ok q1) q3
    exact ⟨hglo _ (List.mem_append_right _ (List.mem_append_left _ (List.mem_map.mpr ⟨e, hmem, rfl⟩))), oexB_ok q1, xfB_ok q2, q3, _, fd, ps, q5, q6, g1, g2⟩
  refine ⟨rfl, fun k => ?_, fun x hx => ?_, fun k x d h1 h2 => ?_, fun k x h1 => ?_, fun j k h1 => ?_, fun f x n hf => ?_⟩
  · show (efOf t.exs k).length ≤ 1000
    cases q : t.exs[k]? with
    | none =>
      have : ∀ (l : List Xc) (k : Nat), l[k]? = none → efOf l k = [] := by
        intro l
        induction l with
        | nil => intro k _; cases k <;> rfl
        | cons e r ih => intro k hk; cases k with
          | zero => simp at hk
          | succ k => exact ih k (by simpa using hk)
      rw [this _ _ q]; exact Nat.zero_le _
    | some e =>
      rw [(efOf_get q).1]
      have q' := m2 e (List.mem_of_getElem? q)
      unfold xcChk at q'
      simp only [Bool.and_eq_true, List.all_eq_true, decide_eq_true_eq] at q'
      exact q'.2.2.2.1
  · exact He.free_ok KB GB (sd.facts (List.mem_append_right _ (List.mem_append_right _ (List.mem_map.mpr ⟨x, hx, rfl⟩))))
  · exact glChk_ok KB GB (m4 _ (glOf_get h1 h2))
  · have h1 : (t.exs.map (·.x))[k]? = some x := h1
    rw [List.getElem?_map] at h1
    cases q : t.exs[k]? with
    | none => rw [q] at h1; cases h1
    | some e =>
      rw [q] at h1
      cases h1
      show ExcC P wo K mg base e.x (He.ga K (nmOf t.exs k)) (efOf t.exs k)
      rw [(efOf_get q).1, (efOf_get q).2]
      exact exq k e q
  · have h1 : t.subs.contains (j, k) = true := h1
    have hmem : (j, k) ∈ t.subs := List.contains_iff_mem.mp h1
    obtain ⟨q1, q2⟩ := m3 _ hmem
    refine ⟨⟨t.exs[j].x, ?_⟩, q2⟩
    show (t.exs.map (·.x))[j]? = _
    rw [List.getElem?_map, List.getElem?_eq_getElem q1]; rfl
  · have hf : (t.defs.map fun d => (d.1.x, d.1.n))[f]? = some (x, n) := hf
    rw [List.getElem?_map] at hf
    cases q : t.defs[f]? with
    | none => rw [q] at hf; cases hf
    | some d =>
      rw [q] at hf
      cases hf
      have hmem := List.mem_of_getElem? q
      obtain ⟨fd, F⟩ := sd.defs (d := ddOf d) (List.mem_append_left _ (List.mem_map.mpr ⟨d, hmem, rfl⟩))
      refine ⟨_, fd, d.1, _, _, _, hglo _ (List.mem_append_left _ (List.mem_map.mpr ⟨d, hmem, rfl⟩)), ?_, rfl, hok.get q, F, fun hdl => ?_⟩
      · show (t.defs.map (·.1))[f]? = _
        rw [List.getElem?_map, q]; rfl
      · have hx := htf d hmem hdl
        obtain ⟨oc, od, dV, kV, doc, pm, an, cdv, ct, osl, hfd, lk, hcd, _, _⟩ := F.ex
        obtain ⟨cc, ec⟩ := He.codeIn_ref hcd
        have e1 : He.codeOf K (d.1.x, none) = cc := He.codeOf_eq lk (by rw [hfd]; exact ec)
        refine ⟨cc, (He.cT K (d.1.x, none)).2, by rw [hfd]; exact ec, ?_, List.mem_map.mpr ⟨d.1.x, hx, rfl⟩, fun p hp hpe => ?_⟩
        · have tb := TB _ (List.mem_map.mpr ⟨d.1.x, hx, rfl⟩)
          have e2 : (He.cT K (d.1.x, none)).1 = cc := e1
          rw [e2] at tb
          exact tb
        · obtain ⟨y, hy, rfl⟩ := List.mem_map.mp hp
          have inj : ∀ {l : List Str}, (l.map fun x => (He.cT K (x, none)).2).Nodup → ∀ a ∈ l, ∀ b ∈ l, (He.cT K (a, none)).2 = (He.cT K (b, none)).2 → a = b := by
            intro l
            induction l with
            | nil => intro _ a ha; cases ha
            | cons z r ih =>
              intro hn a ha b hb e
              rw [List.map_cons, List.nodup_cons] at hn
              rcases List.mem_cons.mp ha with ha | ha
              · rcases List.mem_cons.mp hb with hb | hb
                · rw [ha, hb]
                · exact absurd (List.mem_map.mpr ⟨b, hb, by rw [← e, ha]⟩) hn.1
              · rcases List.mem_cons.mp hb with hb | hb
                · exact absurd (List.mem_map.mpr ⟨a, ha, by rw [e, hb]⟩) hn.1
                · exact ih hn.2 a ha b hb e
          show y ++ ".<locals>." ++ "<lambda>" = _
          rw [inj m5 y hy d.1.x hx hpe]
/-- the law: a script's ints in, True out -/
def LawSays (t : Tx) (f k : Nat) : Prop := ∀ ns : List Int, ns.length ≤ 63 → (∀ z ∈ ns, Builtin.Int.intBits z ≤ 1048576) → ∃ S, callN t.w k f [.lst (ns.map .int)] [] = .ok (.bl true) S
theorem law_at {l : PySem.W.OpenLaw} {t : Tx} {tf : List Str} {f k : Nat} {wo : World} {h : Heap} {mg : Str → Option Value} {fa : Addr} {d : Df × Stmt} (hd : t.defs[f]? = some d) (hdx : d.1.x = ("law" : Str)) (hdn : d.1.n = 1) (hdN : d.1.N.take 1 = [("script" : Str)]) (hok : AllOk t.w t.defs) (hini : AllIni t.exs) (htf : ∀ d ∈ t.defs, d.1.dl = true → d.1.x ∈ tf)
    (says : LawSays t f k) (Y : ∃ K : PySem.W.Frag, K.In h ∧ He.SaysX (faAll t) (fnAll t) [] (tf.map fun x => (x, none)) (exAll t tf) wo h K) (G : h.Ns mainGlobals mg) (hfa : mg ("law" : Str) = some (.ref fa)) :
    ∃ K : PySem.W.Frag, K.In h ∧ LawAtS l wo K (L2.CX l.prog wo) (2 * k + 1) 63 "script" mg fa h := by
  obtain ⟨K, KX, c⟩ := Y
  have sd : He.SaysD (faAll t) (fnAll t) K := c.t.d
  have hmem := List.mem_of_getElem? hd
  obtain ⟨fd, F⟩ := sd.defs (d := ddOf d) (List.mem_append_left _ (List.mem_map.mpr ⟨d, hmem, rfl⟩))
  have ea : mg d.1.x = some (.ref (He.ga K d.1.x)) := He.glo_ok KX G (sd.facts (List.mem_append_left _ (List.mem_map.mpr ⟨d, hmem, rfl⟩)))
  have efa : He.ga K d.1.x = fa := by
    rw [hdx] at ea ⊢
    rw [hfa] at ea
    cases ea; rfl
  have O := hok.get hd
  refine ⟨K, KX, fd, tf.map (fun x => He.cT K (x, none)), spC (lkOf t tf K) 1 (callN t.w k f), fun p hp => ?_, fun p hp => ?_, fun p hp => ?_, fun s u => ?_, fun H a ns hl hb hH hS => ?_, fun base KB GB TB => ?_⟩
  · obtain ⟨x, hx, rfl⟩ := List.mem_map.mp hp
    exact c.empty (x, none) (List.mem_map.mpr ⟨x, hx, rfl⟩)
  · obtain ⟨x, hx, rfl⟩ := List.mem_map.mp hp
    exact c.out (x, none) (List.mem_map.mpr ⟨x, hx, rfl⟩)
  · obtain ⟨x, hx, rfl⟩ := List.mem_map.mp hp
    exact PySem.W.codeHd_of_K KX (c.hd (x, none) (List.mem_map.mpr ⟨x, hx, rfl⟩))
  · have b := FunD.bindsA (ps := d.1.N.take d.1.n) F (fun kV doc pm an cdv ct us hl => O.bind _ kV doc pm an cdv ct us (by rw [hl, O.len]))
    have b2 := b s [u] (by rw [O.len, hdn]; rfl)
    rw [hdn, hdN] at b2
    exact b2
  · have hm := c.more
    unfold exAll at hm
    simp only [Bool.and_eq_true] at hm
    obtain ⟨S, e⟩ := says ns hl hb
    refine ⟨rfl, [.lst (ns.map .int)], [], ⟨[], [], lamT K tf⟩, rfl, ⟨rfl, List.nodup_nil, fun a h => absurd h (by simp), fun a h => absurd h (by simp), fun p hp => ?_, fun n o h => absurd h (by simp)⟩, ⟨.ref a, [], rfl, ⟨a, _, rfl, ⟨fun z => (nomatch z), fun z => (nomatch z), noLst_ok hm.1 hS⟩, RelDs.ints ns⟩, rfl⟩, ?_⟩
    · obtain ⟨x, hx, rfl⟩ := List.mem_map.mp hp
      exact TabS.nil (hH _ (List.mem_map.mpr ⟨x, hx, rfl⟩))
    · rw [e]
      exact fun H' m' v _ _ r => r
  · have hfa' : mg (("law" : Str)) = some (.ref fa) := hfa
    have D := wd_of (P := l.prog) c KB GB hok hini htf TB
    have hf : t.w.t.fnN[f]? = some (d.1.x, 1) := by
      show (t.defs.map fun d => (d.1.x, d.1.n))[f]? = _
      rw [List.getElem?_map, hd, ← hdn]; rfl
    obtain ⟨a', fd', ps, g1, g2, g3, g4, ⟨oc', od', osl', g5⟩, ⟨d', g6, rfl⟩, g7⟩ := fn_all D k f _ _ hf
    have ea' : a' = fa := by
      rw [hdx, hfa'] at g1
      cases g1; rfl
    obtain ⟨oc, od, dV, kV, doc, pm, an, cdv, ct, osl, hfd, lk, hcd, _, _⟩ := F.ex
    have lk' : K.lookup fa = some ⟨oc, od, .func fd, osl⟩ := by rw [← efa]; exact lk
    have g5' : K.lookup a' = some ⟨oc', od', .func fd', osl'⟩ := g5
    rw [ea', lk'] at g5'
    cases g5'
    have g6' : (t.defs.map (·.1))[f]? = some d' := g6
    rw [List.getElem?_map, hd] at g6'
    cases g6'
    rw [ea', hdn, hdN] at g7
    exact g7
end KF

set_option Elab.async false
set_option linter.all false
set_option maxRecDepth 100000
set_option maxHeartbeats 4000000
/-! KF18: checks of a def's scope, of an __init__ -/
namespace KF
open PySem PySem.Spec PyProof.Rows L2 LamX
def scC (N P : List Str) (sc : Scope) : Bool :=
  decide (sc.kind = .function) && (!sc.isCoroutine && (!sc.isGenerator && (decide N.Nodup && (decide (N.take P.length = P) && (P.all (fun x => decide (sc.names.lookup x = some .local) || decide (sc.names.lookup x = some .cell)) && sc.names.all fun y => !decide (y.2 = .free))))))
theorem fnScope_by {N P : List Str} {sc : Scope} (h : scC N P sc = true) : FnScope N P sc := by
  unfold scC at h
  simp only [Bool.and_eq_true, Bool.not_eq_true', decide_eq_true_eq, List.all_eq_true, Bool.or_eq_true, decide_eq_false_iff_not] at h
  obtain ⟨h1, h2, h3, h4, h5, h6, h7⟩ := h
  exact ⟨h1, h2, h3, h4, h5, h6, h7⟩
theorem iniOk1 {e : Xc} {s1 : Stmt} (f y : Str) (hf : e.fs = [f]) (hs : scC ["self", y] ["self", y] (defScope e.st) = true) (hl : locs ["self", y] (defScope e.st) = true) (hb : defBody e.st = [s1]) (h1 : isPut f y s1 = true)
    (hbind : ∀ (kV doc pm : Value) (an : Option Addr) (cdv ct : Value) (us : List Value), us.length = 2 → bindArgs (PySem.W.fnOf "__init__" (e.x ++ ".__init__") (defArgs e.st) (defBody e.st) (defScope e.st) .none kV doc pm an cdv ct) ⟨us, []⟩ = pure ((["self", y] : List Str).zip us)) : IniOk e := by
  intro P wo K mg base C fI fd F O hno
  rw [hf] at hno ⊢
  exact ⟨["self", y], ini1 F (fnScope_by hs) hl O (hno f List.mem_cons_self) hb h1, F.bindsN hbind⟩
theorem iniOk2 {e : Xc} {s1 s2 : Stmt} (f1 f2 y1 y2 : Str) (hf : e.fs = [f1, f2]) (hs : scC ["self", y1, y2] ["self", y1, y2] (defScope e.st) = true) (hl : locs ["self", y1, y2] (defScope e.st) = true) (hb : defBody e.st = [s1, s2]) (h1 : isPut f1 y1 s1 = true) (h2 : isPut f2 y2 s2 = true)
    (hbind : ∀ (kV doc pm : Value) (an : Option Addr) (cdv ct : Value) (us : List Value), us.length = 3 → bindArgs (PySem.W.fnOf "__init__" (e.x ++ ".__init__") (defArgs e.st) (defBody e.st) (defScope e.st) .none kV doc pm an cdv ct) ⟨us, []⟩ = pure ((["self", y1, y2] : List Str).zip us)) : IniOk e := by
  intro P wo K mg base C fI fd F O hno
  rw [hf] at hno ⊢
  exact ⟨["self", y1, y2], ini2 F (fnScope_by hs) hl O (hno f1 List.mem_cons_self) (hno f2 (List.mem_cons_of_mem _ List.mem_cons_self)) hb h1 h2, F.bindsN hbind⟩
end KF

set_option Elab.async false
set_option linter.all false
set_option maxRecDepth 100000
set_option maxHeartbeats 4000000
/-! P0: the evaluation by simp -/
namespace KF
open PySem L2
@[simp] theorem bind_ok {α β : Type} (a : α) (S : Store) (f : α → Store → R β) : (R.ok a S).bind f = f a S := rfl
@[simp] theorem bind_exc {α β : Type} (c : Nat) (fs : List D) (S : Store) (f : α → Store → R β) : (R.exc c fs S : R α).bind f = .exc c fs S := rfl
@[simp] theorem bind_bad {α β : Type} (f : α → Store → R β) : (R.bad : R α).bind f = .bad := rfl
@[simp] theorem st_ok {α : Type} (a : α) (S : Store) (env : Env) (f : α → Store → RS) : (R.ok a S).st env f = f a S := rfl
@[simp] theorem st_exc {α : Type} (c : Nat) (fs : List D) (S : Store) (env : Env) (f : α → Store → RS) : (R.exc c fs S : R α).st env f = .exc c fs env S := rfl
@[simp] theorem st_ite {α : Type} (p : Prop) [Decidable p] (a b : R α) (env : Env) (f : α → Store → RS) : (if p then a else b).st env f = if p then a.st env f else b.st env f := by split <;> rfl
@[simp] theorem bind_ite {α β : Type} (p : Prop) [Decidable p] (a b : R α) (f : α → Store → R β) : (if p then a else b).bind f = if p then a.bind f else b.bind f := by split <;> rfl
@[simp] theorem asB_bl (b : Bool) (S : Store) : asB (.bl b) S = .ok b S := rfl
@[simp] theorem lift_some (d : D) (S : Store) : lift (some d) S = .ok d S := rfl
@[simp] theorem cfgN_call (w : Lw) (f0 : Nat → List D → Store → R D) (f : Nat) (ds : List D) (S : Store) : (cfgN w f0).call f ds S = f0 f ds S := rfl
@[simp] theorem cfgN_glob (w : Lw) (f0 : Nat → List D → Store → R D) (k : Nat) : (cfgN w f0).glob k = w.glob k := rfl
@[simp] theorem endR_ret (d : D) (S : Store) : endR (.ret d S) = .ok d S := rfl
@[simp] theorem endR_next (env : Env) (S : Store) : endR (.next env S) = .ok .non S := rfl
@[simp] theorem endR_ite (p : Prop) [Decidable p] (a b : RS) : endR (if p then a else b) = if p then endR a else endR b := by split <;> rfl
@[simp] theorem execs_nil (c : Cfg) (env : Env) (S : Store) : execs c .nil env S = .next env S := rfl
/-- one statement, then the rest -/
def thenS (f : Env → Store → RS) : RS → RS
  | .next env S => f env S
  | r => r
theorem execs_cons (c : Cfg) (s : St) (r : Sts) (env : Env) (S : Store) : execs c (.cons s r) env S = thenS (execs c r) (exec c s env S) := by
  show (match exec c s env S with | .next env' S' => execs c r env' S' | r => r) = _
  cases exec c s env S <;> rfl
@[simp] theorem then_next (f : Env → Store → RS) (env : Env) (S : Store) : thenS f (.next env S) = f env S := rfl
@[simp] theorem then_ret (f : Env → Store → RS) (d : D) (S : Store) : thenS f (.ret d S) = .ret d S := rfl
@[simp] theorem then_exc (f : Env → Store → RS) (k : Nat) (fs : List D) (env : Env) (S : Store) : thenS f (.exc k fs env S) = .exc k fs env S := rfl
@[simp] theorem then_ite (p : Prop) [Decidable p] (f : Env → Store → RS) (a b : RS) : thenS f (if p then a else b) = if p then thenS f a else thenS f b := by split <;> rfl
/-- one turn, then the rest -/
def loopS (f : Env → Store → RS) : RS → RS
  | .next env S => f env S
  | .cont env S => f env S
  | .brk env S => .next env S
  | r => r
theorem forL_cons (f : D → Env → Store → RS) (x : D) (xs : List D) (env : Env) (S : Store) : forL f (x :: xs) env S = loopS (forL f xs) (f x env S) := by
  show (match f x env S with
    | .next env' S' => forL f xs env' S'
    | .cont env' S' => forL f xs env' S'
    | .brk env' S' => .next env' S'
    | r => r) = _
  cases f x env S <;> rfl
@[simp] theorem forL_nil (f : D → Env → Store → RS) (env : Env) (S : Store) : forL f [] env S = .next env S := rfl
@[simp] theorem loop_next (f : Env → Store → RS) (env : Env) (S : Store) : loopS f (.next env S) = f env S := rfl
@[simp] theorem loop_cont (f : Env → Store → RS) (env : Env) (S : Store) : loopS f (.cont env S) = f env S := rfl
@[simp] theorem loop_brk (f : Env → Store → RS) (env : Env) (S : Store) : loopS f (.brk env S) = .next env S := rfl
@[simp] theorem loop_ret (f : Env → Store → RS) (d : D) (S : Store) : loopS f (.ret d S) = .ret d S := rfl
@[simp] theorem asg_n (i : Nat) (d : D) (env : Env) : asg (.n i) d env = if i < env.length then some (env.set i (some d)) else none := rfl
@[simp] theorem asg_t (ts : Tgs) (ds : List D) (env : Env) : asg (.t ts) (.tup ds) env = asgs ts ds env := rfl
@[simp] theorem asgs_nil (env : Env) : asgs .nil [] env = some env := rfl
@[simp] theorem asgs_cons (t : Tg) (r : Tgs) (d : D) (ds : List D) (env : Env) : asgs (.cons t r) (d :: ds) env = (match asg t d env with
    | some env' => asgs r ds env'
    | none => none) := rfl
/-! operators -/
@[simp] theorem dcmp_lt (S : Store) (i j : Int) : dcmp S .lt (.int i) (.int j) = some (.bl (decide (i < j))) := rfl
@[simp] theorem dcmp_le (S : Store) (i j : Int) : dcmp S .le (.int i) (.int j) = some (.bl (decide (i ≤ j))) := rfl
@[simp] theorem dcmp_gt (S : Store) (i j : Int) : dcmp S .gt (.int i) (.int j) = some (.bl (decide (j < i))) := rfl
@[simp] theorem dcmp_ge (S : Store) (i j : Int) : dcmp S .ge (.int i) (.int j) = some (.bl (decide (j ≤ i))) := rfl
theorem deq_of {x y : D} {d e : PyData} (hx : x.py = some d) (hy : y.py = some e) (h1 : SeqAt.shaped d = true) (h2 : SeqAt.shaped e = true) : deq x y = some (PyData.eqv d e) := by
  unfold deq
  rw [hx, hy]
  exact if_pos ⟨h1, h2⟩
theorem dcmp_eq_of {S : Store} {x y : D} {b : Bool} (h : deq x y = some b) : dcmp S .eq x y = some (.bl b) := by
  show dEq false x y = _
  unfold dEq; rw [h]; rfl
theorem dcmp_ne_of {S : Store} {x y : D} {b : Bool} (h : deq x y = some b) : dcmp S .ne x y = some (.bl (!b)) := by
  show dEq true x y = _
  unfold dEq; rw [h]; rfl
theorem eqv_int (i j : Int) : PyData.eqv (.int i) (.int j) = decide (i = j) := by
  unfold PyData.eqv
  rfl
theorem deq_int (i j : Int) : deq (.int i) (.int j) = some (decide (i = j)) := by
  rw [deq_of (x := .int i) (y := .int j) rfl rfl rfl rfl, eqv_int]
@[simp] theorem dcmp_eq_int (S : Store) (i j : Int) : dcmp S .eq (.int i) (.int j) = some (.bl (decide (i = j))) := dcmp_eq_of (deq_int i j)
@[simp] theorem dcmp_ne_int (S : Store) (i j : Int) : dcmp S .ne (.int i) (.int j) = some (.bl (!decide (i = j))) := dcmp_ne_of (deq_int i j)
@[simp] theorem dop_add (i j : Int) : dop .add (.int i) (.int j) = some (.int (i + j)) := rfl
@[simp] theorem dop_sub (i j : Int) : dop .sub (.int i) (.int j) = some (.int (i - j)) := rfl
@[simp] theorem dopI_add (i j : Int) : dopI .add (.int i) (.int j) = some (.int (i + j)) := rfl
theorem dop_mod {i j : Int} (h : 0 < j) : dop .mod (.int i) (.int j) = some (.int (i % j)) := if_pos h
theorem dop_div {i j : Int} (h : 0 < j) (h2 : j < 1073741824) : dop .fdiv (.int i) (.int j) = some (.int (i / j)) := if_pos ⟨h, h2⟩
@[simp] theorem isn_non (ng : Bool) : isnB ng .non = !ng := by cases ng <;> rfl
@[simp] theorem isn_int (ng : Bool) (i : Int) : isnB ng (.int i) = ng := by cases ng <;> rfl
@[simp] theorem isn_tup (ng : Bool) (xs : List D) : isnB ng (.tup xs) = ng := by cases ng <;> rfl
@[simp] theorem isn_lst (ng : Bool) (xs : List D) : isnB ng (.lst xs) = ng := by cases ng <;> rfl
/-! lists of nums -/
def nums (l : List Int) : List D := l.map .int
theorem pys_ints : ∀ l : List Int, D.pys (nums l) = some (l.map PyData.int)
  | [] => rfl
  | i :: r => by
    have ih := pys_ints r
    simp only [nums, List.map_cons, D.pys, D.py] at ih ⊢
    rw [ih]
theorem eqv_ints : ∀ l m : List Int, PyData.eqv (.list (l.map .int)) (.list (m.map .int)) = decide (l = m) := by
  intro l
  have h : ∀ l m : List Int, PyData.eqvAll (l.map .int) (m.map .int) = decide (l = m) := by
    intro l
    induction l with
    | nil => intro m; cases m <;> simp [PyData.eqvAll]
    | cons i r ih =>
      intro m
      cases m with
      | nil => simp [PyData.eqvAll]
      | cons j q =>
        rw [List.map_cons, List.map_cons, PyData.eqvAll, ih q, PyData.eqv]
        by_cases h1 : i = j
        · by_cases h2 : r = q <;> simp [h1, h2]
        · simp [h1]
  intro m
  rw [PyData.eqv, h]
theorem shaped_ints (l : List Int) : SeqAt.shaped (.list (l.map .int)) = true := by
  have h : ∀ l : List Int, PyData.canLayAll0 (l.map .int) = true := by
    intro l
    induction l with
    | nil => rfl
    | cons i r ih => rw [List.map_cons, PyData.canLayAll0, ih]; rfl
  have h2 : ∀ l : List Int, PyData.depthAll (l.map .int) ≤ 1 := by
    intro l
    induction l with
    | nil => simp [PyData.depthAll]
    | cons i r ih => rw [List.map_cons, PyData.depthAll]; simp [PyData.depth]; omega
  unfold SeqAt.shaped
  rw [PyData.canLay0, h, PyData.depth, Bool.true_and, decide_eq_true_eq]
  have := h2 l
  omega
theorem deq_ints (l m : List Int) : deq (.lst (nums l)) (.lst (nums m)) = some (decide (l = m)) := by
  have h : ∀ l, D.py (.lst (nums l)) = some (.list (l.map .int)) := fun l => by
    show (D.pys (nums l)).map PyData.list = _
    rw [pys_ints]; rfl
  rw [deq_of (h l) (h m) (shaped_ints l) (shaped_ints m), eqv_ints]
@[simp] theorem dcmp_eq_ints (S : Store) (l m : List Int) : dcmp S .eq (.lst (nums l)) (.lst (nums m)) = some (.bl (decide (l = m))) := dcmp_eq_of (deq_ints l m)
@[simp] theorem dcmp_ne_ints (S : Store) (l m : List Int) : dcmp S .ne (.lst (nums l)) (.lst (nums m)) = some (.bl (!decide (l = m))) := dcmp_ne_of (deq_ints l m)
theorem din_ints (i : Int) (l : List Int) : din (.int i) (nums l) = some (decide (i ∈ l)) := by
  unfold din
  have h : (D.int i).flat = true ∧ (nums l).all D.flat = true := ⟨rfl, List.all_eq_true.mpr fun d hd => by
    obtain ⟨j, _, rfl⟩ := List.mem_map.mp hd; rfl⟩
  rw [if_pos h]
  congr 1
  rw [Bool.eq_iff_iff]
  simp only [List.any_eq_true, decide_eq_true_eq]
  constructor
  · rintro ⟨d, hd, e⟩
    obtain ⟨j, hj, rfl⟩ := List.mem_map.mp hd
    have e : eqV (V.int j) (V.int i) = true := e
    simp [eqV] at e
    rw [← e]; exact hj
  · intro hi
    exact ⟨.int i, List.mem_map.mpr ⟨i, hi, rfl⟩, by show eqV (V.int i) (V.int i) = true; simp [eqV]⟩
@[simp] theorem dcmp_in_ints (S : Store) (i : Int) (l : List Int) : dcmp S .inn (.int i) (.lst (nums l)) = some (.bl (decide (i ∈ l))) := by
  show dIn S false (.int i) (.lst (nums l)) = _
  unfold dIn
  show (match din (.int i) (nums l) with | some b => some (D.bl (nb false b)) | none => none) = _
  rw [din_ints]; rfl
@[simp] theorem dcmp_nin_ints (S : Store) (i : Int) (l : List Int) : dcmp S .nin (.int i) (.lst (nums l)) = some (.bl (!decide (i ∈ l))) := by
  show dIn S true (.int i) (.lst (nums l)) = _
  unfold dIn
  show (match din (.int i) (nums l) with | some b => some (D.bl (nb true b)) | none => none) = _
  rw [din_ints]; rfl
/-! comprehensions -/
theorem lcL_map {f : D → Store → R (Option D)} {S : Store} {g : D → Option D} : ∀ {l : List D}, (∀ x ∈ l, f x S = .ok (g x) S) → lcL f l S = .ok (l.filterMap g) S
  | [], _ => rfl
  | x :: xs, h => by
    show ((f x S).bind fun o S1 => (lcL f xs S1).bind fun r S2 => .ok (match o with | some y => y :: r | none => r) S2) = _
    rw [h x List.mem_cons_self, bind_ok, lcL_map fun y hy => h y (List.mem_cons_of_mem _ hy), bind_ok]
    cases q : g x with
    | none => rw [List.filterMap_cons_none q]
    | some y => rw [List.filterMap_cons_some q]
theorem lcL_filter {f : D → Store → R (Option D)} {S : Store} {l : List Int} {p : Int → Bool} (h : ∀ x ∈ l, f (.int x) S = .ok (if p x = true then some (.int x) else none) S) : lcL f (nums l) S = .ok (nums (l.filter p)) S := by
  induction l with
  | nil => rfl
  | cons x xs ih =>
    show ((f (.int x) S).bind fun o S1 => (lcL f (nums xs) S1).bind fun r S2 => .ok (match o with | some y => y :: r | none => r) S2) = _
    rw [h x List.mem_cons_self, bind_ok, ih fun y hy => h y (List.mem_cons_of_mem _ hy), bind_ok]
    cases q : p x with
    | false => rw [List.filter_cons_of_neg (by rw [q]; simp)]; rfl
    | true => rw [List.filter_cons_of_pos q]; rfl
theorem lcL_bools {f : D → Store → R (Option D)} {S : Store} {l : List Int} {p : Int → Bool} (h : ∀ x ∈ l, f (.int x) S = .ok (some (.bl (p x))) S) : lcL f (nums l) S = .ok ((l.map p).map .bl) S := by
  induction l with
  | nil => rfl
  | cons x xs ih =>
    show ((f (.int x) S).bind fun o S1 => (lcL f (nums xs) S1).bind fun r S2 => .ok (match o with | some y => y :: r | none => r) S2) = _
    rw [h x List.mem_cons_self, bind_ok, ih fun y hy => h y (List.mem_cons_of_mem _ hy), bind_ok]
    rfl
theorem mapO_bls : ∀ l : List Bool, mapO D.isBl (l.map .bl) = some l
  | [] => rfl
  | b :: r => by
    simp [mapO, D.isBl, mapO_bls r]
@[simp] theorem dbi_all (S : Store) (l : List Bool) : dbi S .all [.lst (l.map .bl)] = some (.bl (l.all id)) := by
  show (match mapO D.isBl (l.map .bl) with | some bs => some (D.bl (bs.all id)) | none => none) = _
  rw [mapO_bls]
@[simp] theorem dbi_any (S : Store) (l : List Bool) : dbi S .any [.lst (l.map .bl)] = some (.bl (l.any id)) := by
  show (match mapO D.isBl (l.map .bl) with | some bs => some (D.bl (bs.any id)) | none => none) = _
  rw [mapO_bls]
theorem finL_fz {ys : List D} {S : Store} (h : ys.length ≤ sizeLine) : finL true ys S = .ok (.lst ys) S := by
  unfold finL; rw [if_pos h]; rfl
@[simp] theorem noexc_ok {α : Type} (a : α) (S : Store) : noexc (R.ok a S) = .ok a S := rfl
@[simp] theorem seqIt_lst (xs : List D) (S : Store) : seqIt (.lst xs) S = .ok xs S := rfl
@[simp] theorem seqIt_tup (xs : List D) (S : Store) : seqIt (.tup xs) S = .ok xs S := rfl
end KF

set_option Elab.async false
set_option linter.all false
set_option maxRecDepth 100000
set_option maxHeartbeats 0
namespace K04
open PySem PySem.Spec PyProof.Rows L2 LamX KF
def top (i : Nat) : Stmt := PySem.Challenge.pw_knownfirst_k04_whole_spans.main.body.getD i (.Pass ⟨0, 0, 0, 0⟩)
def clsB : Stmt → List Stmt
  | .ClassDef _ _ _ b _ _ _ _ _ _ _ => b
  | _ => []
def cls (i j : Nat) : Stmt := (clsB (top i)).getD j (.Pass ⟨0, 0, 0, 0⟩)
/-- is_row -/
def b0 : Sts := (.cons 
  (.ret (.isi (.v 0) [.list, .tuple])) .nil)
def d0 : Df := ⟨"is_row", 1, ["thing"], b0, false⟩
/-- is_number -/
def b1 : Sts := (.cons 
  (.ret (.and (.isi (.v 0) [.int]) (.and (.not (.isi (.v 0) [.bool])) (.cmp .ge (.v 0) (.ki 0))))) .nil)
def d1 : Df := ⟨"is_number", 1, ["thing"], b1, false⟩
/-- check_span -/
def b2 : Sts := (.cons 
  (.ifs (.or (.not (.call 0 (.cons (.v 0) .nil))) (.or (.cmp .ne (.bi .len (.cons (.v 0) .nil)) (.ki 2)) (.not (.call 1 (.cons (.ix (.v 0) (.ki 0)) .nil))))) (.cons 
  (.raise 0 (.cons (.v 0) .nil)) .nil) .nil) (.cons 
  (.ifs (.and (.isn true (.ix (.v 0) (.ki 1))) (.or (.not (.call 1 (.cons (.ix (.v 0) (.ki 1)) .nil))) (.cmp .lt (.ix (.v 0) (.ki 1)) (.ix (.v 0) (.ki 0))))) (.cons 
  (.raise 0 (.cons (.v 0) .nil)) .nil) .nil) .nil))
def d2 : Df := ⟨"check_span", 1, ["span"], b2, false⟩
/-- is_in -/
def b3 : Sts := (.cons 
  (.ex (.call 2 (.cons (.v 0) .nil))) (.cons 
  (.ifs (.not (.call 1 (.cons (.v 1) .nil))) (.cons 
  (.raise 0 (.cons (.v 1) .nil)) .nil) .nil) (.cons 
  (.ret (.and (.cmp .le (.ix (.v 0) (.ki 0)) (.v 1)) (.or (.isn false (.ix (.v 0) (.ki 1))) (.cmp .le (.v 1) (.ix (.v 0) (.ki 1)))))) .nil)))
def d3 : Df := ⟨"is_in", 2, ["span", "number"], b3, false⟩
/-- below -/
def b4 : Sts := (.cons 
  (.ex (.call 2 (.cons (.v 0) .nil))) (.cons 
  (.ifs (.not (.call 1 (.cons (.v 1) .nil))) (.cons 
  (.raise 0 (.cons (.v 1) .nil)) .nil) .nil) (.cons 
  (.ifs (.cmp .ge (.ix (.v 0) (.ki 0)) (.v 1)) (.cons 
  (.ret .kn) .nil) .nil) (.cons 
  (.ret (.tup (.cons (.ix (.v 0) (.ki 0)) (.cons (.ite (.isn false (.ix (.v 0) (.ki 1))) (.op .sub (.v 1) (.ki 1)) (.bi .min (.cons (.ix (.v 0) (.ki 1)) (.cons (.op .sub (.v 1) (.ki 1)) .nil)))) .nil)))) .nil))))
def d4 : Df := ⟨"below", 2, ["span", "number"], b4, false⟩
/-- from_on -/
def b5 : Sts := (.cons 
  (.ex (.call 2 (.cons (.v 0) .nil))) (.cons 
  (.ifs (.not (.call 1 (.cons (.v 1) .nil))) (.cons 
  (.raise 0 (.cons (.v 1) .nil)) .nil) .nil) (.cons 
  (.ifs (.and (.isn true (.ix (.v 0) (.ki 1))) (.cmp .lt (.ix (.v 0) (.ki 1)) (.v 1))) (.cons 
  (.ret .kn) .nil) .nil) (.cons 
  (.ret (.tup (.cons (.bi .max (.cons (.ix (.v 0) (.ki 0)) (.cons (.v 1) .nil))) (.cons (.ix (.v 0) (.ki 1)) .nil)))) .nil))))
def d5 : Df := ⟨"from_on", 2, ["span", "number"], b5, false⟩
/-- told -/
def b6 : Sts := (.cons 
  (.ifs (.isn false (.call 4 (.cons (.v 0) (.cons (.v 1) .nil)))) (.cons 
  (.ret (.kb false)) .nil) .nil) (.cons 
  (.ret (.ite (.isn false (.call 5 (.cons (.v 0) (.cons (.v 1) .nil)))) (.kb true) .kn)) .nil))
def d6 : Df := ⟨"told", 2, ["span", "number"], b6, false⟩
/-- added -/
def b7 : Sts := (.cons 
  (.ex (.call 2 (.cons (.v 0) .nil))) (.cons 
  (.ifs (.not (.call 1 (.cons (.v 1) .nil))) (.cons 
  (.raise 0 (.cons (.v 1) .nil)) .nil) .nil) (.cons 
  (.ret (.tup (.cons (.op .add (.ix (.v 0) (.ki 0)) (.v 1)) (.cons (.ite (.isn false (.ix (.v 0) (.ki 1))) .kn (.op .add (.ix (.v 0) (.ki 1)) (.v 1))) .nil)))) .nil)))
def d7 : Df := ⟨"added", 2, ["span", "number"], b7, false⟩
/-- capped -/
def b8 : Sts := (.cons 
  (.ex (.call 2 (.cons (.v 0) .nil))) (.cons 
  (.ifs (.not (.call 1 (.cons (.v 1) .nil))) (.cons 
  (.raise 0 (.cons (.v 1) .nil)) .nil) .nil) (.cons 
  (.asg (.n 2) (.ite (.and (.isn true (.ix (.v 0) (.ki 1))) (.cmp .lt (.ix (.v 0) (.ki 1)) (.v 1))) (.ix (.v 0) (.ki 1)) .kn)) (.cons 
  (.ret (.tup (.cons (.bi .min (.cons (.ix (.v 0) (.ki 0)) (.cons (.v 1) .nil))) (.cons (.v 2) .nil)))) .nil))))
def d8 : Df := ⟨"capped", 2, ["span", "bound", "high"], b8, false⟩
/-- is_within -/
def b9 : Sts := (.cons 
  (.ex (.call 2 (.cons (.v 0) .nil))) (.cons 
  (.ex (.call 2 (.cons (.v 1) .nil))) (.cons 
  (.ifs (.cmp .lt (.ix (.v 0) (.ki 0)) (.ix (.v 1) (.ki 0))) (.cons 
  (.ret (.kb false)) .nil) .nil) (.cons 
  (.ret (.or (.isn false (.ix (.v 1) (.ki 1))) (.and (.isn true (.ix (.v 0) (.ki 1))) (.cmp .le (.ix (.v 0) (.ki 1)) (.ix (.v 1) (.ki 1)))))) .nil))))
def d9 : Df := ⟨"is_within", 2, ["one", "other"], b9, false⟩
/-- together -/
def b10 : Sts := (.cons 
  (.ex (.call 2 (.cons (.v 0) .nil))) (.cons 
  (.ex (.call 2 (.cons (.v 1) .nil))) (.cons 
  (.asg (.n 2) (.lc true (.v 4) (.n 4) (.val (.tup (.cons (.ix (.v 0) (.ki 1)) (.cons (.ix (.v 1) (.ki 1)) .nil)))) (.one (.isn true (.v 4))))) (.cons 
  (.asg (.t (.cons (.n 3) (.cons (.n 4) .nil))) (.tup (.cons (.bi .max (.cons (.ix (.v 0) (.ki 0)) (.cons (.ix (.v 1) (.ki 0)) .nil))) (.cons (.ite (.cmp .ne (.v 2) (.lst true .nil)) (.bi .min (.cons (.v 2) .nil)) .kn) .nil)))) (.cons 
  (.ret (.ite (.and (.isn true (.v 4)) (.cmp .lt (.v 4) (.v 3))) .kn (.tup (.cons (.v 3) (.cons (.v 4) .nil))))) .nil)))))
def d10 : Df := ⟨"together", 2, ["one", "other", "highs", "low", "high"], b10, false⟩
/-- least_span -/
def b11 : Sts := (.cons 
  (.ex (.call 2 (.cons (.v 0) .nil))) (.cons 
  (.ex (.call 2 (.cons (.v 1) .nil))) (.cons 
  (.asg (.n 2) (.ite (.cmp .inn .kn (.tup (.cons (.ix (.v 0) (.ki 1)) (.cons (.ix (.v 1) (.ki 1)) .nil)))) .kn (.bi .max (.cons (.ix (.v 0) (.ki 1)) (.cons (.ix (.v 1) (.ki 1)) .nil))))) (.cons 
  (.ret (.tup (.cons (.bi .min (.cons (.ix (.v 0) (.ki 0)) (.cons (.ix (.v 1) (.ki 0)) .nil))) (.cons (.v 2) .nil)))) .nil))))
def d11 : Df := ⟨"least_span", 2, ["one", "other", "high"], b11, false⟩
/-- _law_number -/
def b12 : Sts := (.cons 
  (.asg (.t (.cons (.n 5) (.cons (.n 6) .nil))) (.ite (.cmp .ne (.v 0) (.lst true .nil)) (.tup (.cons (.ix (.v 0) (.op .mod (.v 1) (.bi .len (.cons (.v 0) .nil)))) (.cons (.op .fdiv (.v 1) (.bi .len (.cons (.v 0) .nil))) .nil))) (.tup (.cons (.ki 12345) (.cons (.ki 0) .nil))))) (.cons 
  (.asg (.n 2) (.ite (.cmp .lt (.v 6) (.ki 60)) (.op .sub (.v 5) (.op .pow (.ki 10) (.ki 18))) (.ki 0))) (.cons 
  (.for_ (.n 3) (.rng (.op .mod (.bi .int (.cons (.v 6) .nil)) (.ki 60))) (.cons 
  (.asg (.n 2) (.op .fdiv (.v 2) (.ki 1009))) .nil)) (.cons 
  (.ifs (.cmp .gt (.v 2) (.ki 0)) (.cons 
  (.ret (.op .mod (.bi .int (.cons (.v 2) .nil)) (.ki 1009))) .nil) .nil) (.cons 
  (.asg (.n 4) (.op .mod (.op .add (.op .mul (.bi .int (.cons (.op .add (.v 5) (.op .mul (.ki 977) (.v 1))) .nil)) (.ki 48271)) (.op .mul (.ki 31) (.bi .len (.cons (.v 0) .nil)))) (.ki 2147483647))) (.cons 
  (.asg (.n 4) (.op .mod (.op .add (.op .mul (.v 4) (.v 4)) (.op .mul (.ki 40503) (.v 1))) (.ki 2147483629))) (.cons 
  (.ret (.bi .int (.cons (.op .mod (.op .add (.op .mul (.v 4) (.ki 69621)) (.op .fdiv (.v 4) (.ki 977))) (.ki 2147483587)) .nil))) .nil)))))))
def d12 : Df := ⟨"_law_number", 2, ["script", "index", "rest", "step", "blend", "cell", "turn"], b12, false⟩
/-- _law_take -/
def b13 : Sts := (.cons 
  (.augX (.v 0) (.ki 1) .add (.ki 1)) (.cons 
  (.ret (.op .mod (.bi .int (.cons (.call 12 (.cons (.ix (.v 0) (.ki 0)) (.cons (.bi .int (.cons (.ix (.v 0) (.ki 1)) .nil)) .nil))) .nil)) (.v 1))) .nil))
def d13 : Df := ⟨"_law_take", 2, ["draw", "many"], b13, false⟩
/-- _law_span -/
def b14 : Sts := (.cons 
  (.asg (.n 1) (.call 13 (.cons (.v 0) (.cons (.ki 6) .nil)))) (.cons 
  (.ret (.ite (.cmp .eq (.call 13 (.cons (.v 0) (.cons (.ki 3) .nil))) (.ki 0)) (.tup (.cons (.v 1) (.cons .kn .nil))) (.tup (.cons (.v 1) (.cons (.op .add (.v 1) (.call 13 (.cons (.v 0) (.cons (.ki 5) .nil)))) .nil))))) .nil))
def d14 : Df := ⟨"_law_span", 1, ["draw", "low"], b14, false⟩
/-- _law_has -/
def b15 : Sts := (.cons 
  (.ret (.and (.isn true (.v 0)) (.and (.cmp .le (.ix (.v 0) (.ki 0)) (.v 1)) (.or (.isn false (.ix (.v 0) (.ki 1))) (.cmp .le (.v 1) (.ix (.v 0) (.ki 1))))))) .nil)
def d15 : Df := ⟨"_law_has", 2, ["span", "number"], b15, false⟩
/-- law -/
def b16 : Sts := (.cons 
  (.asg (.n 1) (.lst false (.cons (.v 0) (.cons (.ki 0) .nil)))) (.cons 
  (.asg (.n 2) (.lrng (.ki 40))) (.cons 
  (.for_ (.n 3) (.rng (.ki 8)) (.cons 
  (.asg (.t (.cons (.n 10) (.cons (.n 11) (.cons (.n 12) (.cons (.n 13) .nil))))) (.tup (.cons (.call 14 (.cons (.v 1) .nil)) (.cons (.call 14 (.cons (.v 1) .nil)) (.cons (.call 13 (.cons (.v 1) (.cons (.ki 9) .nil))) (.cons (.call 13 (.cons (.v 1) (.cons (.ki 4) .nil))) .nil)))))) (.cons 
  (.asg (.n 4) (.lc true (.v 18) (.n 18) (.val (.v 2)) (.one (.call 15 (.cons (.v 10) (.cons (.v 18) .nil)))))) (.cons 
  (.asg (.n 5) (.lc true (.v 18) (.n 18) (.val (.v 2)) (.one (.call 15 (.cons (.v 11) (.cons (.v 18) .nil)))))) (.cons 
  (.ifs (.cmp .ne (.lc true (.v 18) (.n 18) (.val (.v 2)) (.one (.call 3 (.cons (.bi .list (.cons (.v 10) .nil)) (.cons (.v 18) .nil))))) (.v 4)) (.cons 
  (.ret (.kb false)) .nil) .nil) (.cons 
  (.asg (.t (.cons (.n 14) (.cons (.n 15) .nil))) (.tup (.cons (.call 4 (.cons (.v 10) (.cons (.v 12) .nil))) (.cons (.call 5 (.cons (.v 10) (.cons (.v 12) .nil))) .nil)))) (.cons 
  (.ifs (.cmp .ne (.lc true (.v 18) (.n 18) (.val (.v 2)) (.one (.call 15 (.cons (.v 14) (.cons (.v 18) .nil))))) (.lc true (.v 18) (.n 18) (.val (.v 4)) (.one (.cmp .lt (.v 18) (.v 12))))) (.cons 
  (.ret (.kb false)) .nil) .nil) (.cons 
  (.ifs (.cmp .ne (.lc true (.v 18) (.n 18) (.val (.v 2)) (.one (.call 15 (.cons (.v 15) (.cons (.v 18) .nil))))) (.lc true (.v 18) (.n 18) (.val (.v 4)) (.one (.cmp .ge (.v 18) (.v 12))))) (.cons 
  (.ret (.kb false)) .nil) .nil) (.cons 
  (.ifs (.or (.cmp .ne (.isn false (.v 14)) (.bi .all (.cons (.lc true (.cmp .ge (.v 18) (.v 12)) (.n 18) (.val (.v 4)) .no) .nil))) (.cmp .ne (.call 6 (.cons (.v 10) (.cons (.v 12) .nil))) (.ite (.isn false (.v 15)) (.kb true) (.ite (.isn false (.v 14)) (.kb false) .kn)))) (.cons 
  (.ret (.kb false)) .nil) .nil) (.cons 
  (.ifs (.cmp .ne (.lc true (.v 18) (.n 18) (.val (.v 2)) (.one (.call 15 (.cons (.call 7 (.cons (.v 10) (.cons (.v 13) .nil))) (.cons (.v 18) .nil))))) (.lc true (.v 18) (.n 18) (.val (.v 2)) (.one (.cmp .inn (.op .sub (.v 18) (.v 13)) (.v 4))))) (.cons 
  (.ret (.kb false)) .nil) .nil) (.cons 
  (.asg (.n 6) (.call 8 (.cons (.v 10) (.cons (.v 12) .nil)))) (.cons 
  (.ifs (.or (.cmp .ne (.bi .tuple (.cons (.v 6) .nil)) (.tup (.cons (.bi .min (.cons (.ix (.v 10) (.ki 0)) (.cons (.v 12) .nil))) (.cons (.ite (.and (.isn true (.ix (.v 10) (.ki 1))) (.cmp .lt (.ix (.v 10) (.ki 1)) (.v 12))) (.ix (.v 10) (.ki 1)) .kn) .nil)))) (.cmp .ne (.call 8 (.cons (.v 6) (.cons (.v 12) .nil))) (.v 6))) (.cons 
  (.ret (.kb false)) .nil) .nil) (.cons 
  (.ifs (.or (.not (.bi .all (.cons (.lc true (.cmp .ge (.bi .min (.cons (.v 18) (.cons (.v 12) .nil))) (.ix (.v 6) (.ki 0))) (.n 18) (.val (.v 4)) .no) .nil))) (.bi .any (.cons (.lc true (.and (.cmp .lt (.v 18) (.v 12)) (.not (.call 15 (.cons (.v 6) (.cons (.v 18) .nil))))) (.n 18) (.val (.v 4)) .no) .nil))) (.cons 
  (.ret (.kb false)) .nil) .nil) (.cons 
  (.asg (.t (.cons (.n 16) (.cons (.n 17) .nil))) (.tup (.cons (.call 10 (.cons (.v 10) (.cons (.v 11) .nil))) (.cons (.call 11 (.cons (.v 10) (.cons (.v 11) .nil))) .nil)))) (.cons 
  (.ifs (.cmp .ne (.lc true (.v 18) (.n 18) (.val (.v 2)) (.one (.call 15 (.cons (.v 16) (.cons (.v 18) .nil))))) (.lc true (.v 18) (.n 18) (.val (.v 4)) (.one (.cmp .inn (.v 18) (.v 5))))) (.cons 
  (.ret (.kb false)) .nil) .nil) (.cons 
  (.ifs (.or (.not (.bi .all (.cons (.lc true (.call 15 (.cons (.v 17) (.cons (.v 18) .nil))) (.n 18) (.val (.op .add (.v 4) (.v 5))) .no) .nil))) (.or (.not (.call 9 (.cons (.v 10) (.cons (.v 17) .nil)))) (.not (.call 9 (.cons (.v 11) (.cons (.v 17) .nil)))))) (.cons 
  (.ret (.kb false)) .nil) .nil) (.cons 
  (.ifs (.cmp .ne (.call 9 (.cons (.v 10) (.cons (.v 11) .nil))) (.and (.bi .all (.cons (.lc true (.cmp .inn (.v 18) (.v 5)) (.n 18) (.val (.v 4)) .no) .nil)) (.or (.isn true (.ix (.v 10) (.ki 1))) (.isn false (.ix (.v 11) (.ki 1)))))) (.cons 
  (.ret (.kb false)) .nil) .nil) (.cons 
  (.ifs (.or (.and (.isn true (.v 16)) (.not (.call 9 (.cons (.v 16) (.cons (.v 10) .nil))))) (.or (.cmp .ne (.call 10 (.cons (.v 11) (.cons (.v 10) .nil))) (.v 16)) (.cmp .ne (.call 11 (.cons (.v 11) (.cons (.v 10) .nil))) (.v 17)))) (.cons 
  (.ret (.kb false)) .nil) .nil) (.cons 
  (.ifs (.or (.cmp .nin (.ix (.v 17) (.ki 0)) (.op .add (.v 4) (.v 5))) (.or (.cmp .ne (.call 10 (.cons (.v 10) (.cons (.g 0) .nil))) (.v 10)) (.or (.cmp .ne (.call 11 (.cons (.v 10) (.cons (.v 10) .nil))) (.v 10)) (.not (.call 9 (.cons (.v 10) (.cons (.g 0) .nil))))))) (.cons 
  (.ret (.kb false)) .nil) .nil) .nil))))))))))))))))))) (.cons 
  (.deeds (.cons (.call 3 (.cons (.tup (.cons (.ki 3) (.cons (.ki 2) .nil))) (.cons (.ki 1) .nil))) (.tup (.cons (.ki 3) (.cons (.ki 2) .nil)))
   (.cons (.call 3 (.cons .kn (.cons (.ki 1) .nil))) .kn
   (.cons (.call 3 (.cons (.tup (.cons (.ki 0) (.cons .kn .nil))) (.cons (.neg (.ki 1)) .nil))) (.neg (.ki 1))
   (.cons (.call 4 (.cons (.tup (.cons (.ki 0) (.cons (.ki 1) .nil))) (.cons .kn .nil))) .kn
   (.cons (.call 6 (.cons (.tup (.cons (.ki 0) .nil)) (.cons (.ki 1) .nil))) (.tup (.cons (.ki 0) .nil))
   (.cons (.call 7 (.cons (.tup (.cons (.ki 0) (.cons (.ki 1) .nil))) (.cons (.neg (.ki 1)) .nil))) (.neg (.ki 1))
   (.cons (.call 8 (.cons (.tup (.cons (.ki 0) (.cons (.ki 1) .nil))) (.cons .kn .nil))) .kn
   (.cons (.call 9 (.cons (.tup (.cons (.ki 0) (.cons (.ki 1) .nil))) (.cons (.tup (.cons (.ki 1) (.cons (.ki 0) .nil))) .nil))) (.tup (.cons (.ki 1) (.cons (.ki 0) .nil)))
   (.cons (.call 10 (.cons (.ki 5) (.cons (.tup (.cons (.ki 0) (.cons (.ki 1) .nil))) .nil))) (.ki 5)
   (.cons (.call 11 (.cons (.tup (.cons (.ki 0) (.cons (.ki 1) .nil))) (.cons (.ki 5) .nil))) (.ki 5)
   .nil)))))))))) 7 8 9 0 (.cons 
  (.ret (.kb false)) .nil) (.cons 
  (.ifs (.cmp .ne (.fx 9 "name") (.v 8)) (.cons 
  (.ret (.kb false)) .nil) .nil) .nil)) (.cons 
  (.ret (.cmp .eq (.bi .tuple (.cons (.g 0) .nil)) (.tup (.cons (.ki 0) (.cons .kn .nil))))) .nil)))))
def d16 : Df := ⟨"law", 1, ["script", "draw", "numbers", "turn", "mine", "theirs", "top", "deed", "due", "fault", "one", "other", "cut", "more", "low", "high", "both", "least", "number"], b16, true⟩
def tx : Tx := ⟨[(d0, top 4), (d1, top 5), (d2, top 8), (d3, top 9), (d4, top 10), (d5, top 11), (d6, top 12), (d7, top 13), (d8, top 14), (d9, top 15), (d10, top 16), (d11, top 17), (d12, top 19), (d13, top 20), (d14, top 21), (d15, top 22), (d16, top 23)],
  [⟨"BadName", ["name"], cls 2 0⟩],
  [("ALL", (.tup [(.int 0), .non]))],
  ["isinstance", "list", "tuple", "int", "bool", "len", "min", "max", "range", "all", "any"],
  [(0, 0)]⟩
theorem ok0 : DfOk tx.w d0 (defArgs (top 4)) (defBody (top 4)) (defScope (top 4)) :=
  ⟨fnScope_by (by decide +kernel), rfl, by decide +kernel, fun x kV doc pm an cdv ct us hl => match us, hl with | [_], _ => rfl⟩
theorem ok1 : DfOk tx.w d1 (defArgs (top 5)) (defBody (top 5)) (defScope (top 5)) :=
  ⟨fnScope_by (by decide +kernel), rfl, by decide +kernel, fun x kV doc pm an cdv ct us hl => match us, hl with | [_], _ => rfl⟩
theorem ok2 : DfOk tx.w d2 (defArgs (top 8)) (defBody (top 8)) (defScope (top 8)) :=
  ⟨fnScope_by (by decide +kernel), rfl, by decide +kernel, fun x kV doc pm an cdv ct us hl => match us, hl with | [_], _ => rfl⟩
theorem ok3 : DfOk tx.w d3 (defArgs (top 9)) (defBody (top 9)) (defScope (top 9)) :=
  ⟨fnScope_by (by decide +kernel), rfl, by decide +kernel, fun x kV doc pm an cdv ct us hl => match us, hl with | [_, _], _ => rfl⟩
theorem ok4 : DfOk tx.w d4 (defArgs (top 10)) (defBody (top 10)) (defScope (top 10)) :=
  ⟨fnScope_by (by decide +kernel), rfl, by decide +kernel, fun x kV doc pm an cdv ct us hl => match us, hl with | [_, _], _ => rfl⟩
theorem ok5 : DfOk tx.w d5 (defArgs (top 11)) (defBody (top 11)) (defScope (top 11)) :=
  ⟨fnScope_by (by decide +kernel), rfl, by decide +kernel, fun x kV doc pm an cdv ct us hl => match us, hl with | [_, _], _ => rfl⟩
theorem ok6 : DfOk tx.w d6 (defArgs (top 12)) (defBody (top 12)) (defScope (top 12)) :=
  ⟨fnScope_by (by decide +kernel), rfl, by decide +kernel, fun x kV doc pm an cdv ct us hl => match us, hl with | [_, _], _ => rfl⟩
theorem ok7 : DfOk tx.w d7 (defArgs (top 13)) (defBody (top 13)) (defScope (top 13)) :=
  ⟨fnScope_by (by decide +kernel), rfl, by decide +kernel, fun x kV doc pm an cdv ct us hl => match us, hl with | [_, _], _ => rfl⟩
theorem ok8 : DfOk tx.w d8 (defArgs (top 14)) (defBody (top 14)) (defScope (top 14)) :=
  ⟨fnScope_by (by decide +kernel), rfl, by decide +kernel, fun x kV doc pm an cdv ct us hl => match us, hl with | [_, _], _ => rfl⟩
theorem ok9 : DfOk tx.w d9 (defArgs (top 15)) (defBody (top 15)) (defScope (top 15)) :=
  ⟨fnScope_by (by decide +kernel), rfl, by decide +kernel, fun x kV doc pm an cdv ct us hl => match us, hl with | [_, _], _ => rfl⟩
theorem ok10 : DfOk tx.w d10 (defArgs (top 16)) (defBody (top 16)) (defScope (top 16)) :=
  ⟨fnScope_by (by decide +kernel), rfl, by decide +kernel, fun x kV doc pm an cdv ct us hl => match us, hl with | [_, _], _ => rfl⟩
theorem ok11 : DfOk tx.w d11 (defArgs (top 17)) (defBody (top 17)) (defScope (top 17)) :=
  ⟨fnScope_by (by decide +kernel), rfl, by decide +kernel, fun x kV doc pm an cdv ct us hl => match us, hl with | [_, _], _ => rfl⟩
theorem ok12 : DfOk tx.w d12 (defArgs (top 19)) (defBody (top 19)) (defScope (top 19)) :=
  ⟨fnScope_by (by decide +kernel), rfl, by decide +kernel, fun x kV doc pm an cdv ct us hl => match us, hl with | [_, _], _ => rfl⟩
theorem ok13 : DfOk tx.w d13 (defArgs (top 20)) (defBody (top 20)) (defScope (top 20)) :=
  ⟨fnScope_by (by decide +kernel), rfl, by decide +kernel, fun x kV doc pm an cdv ct us hl => match us, hl with | [_, _], _ => rfl⟩
theorem ok14 : DfOk tx.w d14 (defArgs (top 21)) (defBody (top 21)) (defScope (top 21)) :=
  ⟨fnScope_by (by decide +kernel), rfl, by decide +kernel, fun x kV doc pm an cdv ct us hl => match us, hl with | [_], _ => rfl⟩
theorem ok15 : DfOk tx.w d15 (defArgs (top 22)) (defBody (top 22)) (defScope (top 22)) :=
  ⟨fnScope_by (by decide +kernel), rfl, by decide +kernel, fun x kV doc pm an cdv ct us hl => match us, hl with | [_, _], _ => rfl⟩
theorem ok16 : DfOk tx.w d16 (defArgs (top 23)) (defBody (top 23)) (defScope (top 23)) :=
  ⟨fnScope_by (by decide +kernel), rfl, by decide +kernel, fun x kV doc pm an cdv ct us hl => match us, hl with | [_], _ => rfl⟩
theorem all : AllOk tx.w tx.defs := ⟨ok0, ok1, ok2, ok3, ok4, ok5, ok6, ok7, ok8, ok9, ok10, ok11, ok12, ok13, ok14, ok15, ok16, trivial⟩
theorem ini : AllIni tx.exs := ⟨iniOk1 "name" "name" rfl (by decide +kernel) (by decide +kernel) rfl (by decide +kernel) (fun kV doc pm an cdv ct us hl => match us, hl with | [_, _], _ => rfl), trivial⟩
def tf : List Str := ["law"]
end K04

set_option Elab.async false
set_option linter.all false
set_option maxRecDepth 100000
set_option maxHeartbeats 1000000
namespace KF
open PySem L2 K04
abbrev C := callN tx.w
abbrev cf (n : Nat) : Cfg := cfgN tx.w (C n)
def hD : Option Int → D
  | none => .non
  | some b => .int b
def sp (a : Int) (h : Option Int) : D := .tup [.int a, hD h]
def sl (a : Int) (h : Option Int) : D := .lst [.int a, hD h]
def okSp (a : Int) (h : Option Int) : Prop := 0 ≤ a ∧ ∀ b, h = some b → a ≤ b
def has (a : Int) (h : Option Int) (x : Int) : Bool := decide (a ≤ x) && (match h with | none => true | some b => decide (x ≤ b))
@[simp] theorem hD_none : hD none = .non := rfl
@[simp] theorem hD_some (b : Int) : hD (some b) = .int b := rfl
@[simp] theorem is_row_t (n : Nat) (a : Int) (h : Option Int) (S : Store) : C (n+1) 0 [sp a h] S = .ok (.bl true) S := rfl
@[simp] theorem is_row_l (n : Nat) (a : Int) (h : Option Int) (S : Store) : C (n+1) 0 [sl a h] S = .ok (.bl true) S := rfl
@[simp] theorem is_number_int (n : Nat) (i : Int) (S : Store) : C (n+1) 1 [.int i] S = .ok (.bl (decide (0 ≤ i))) S := rfl
@[simp] theorem is_number_non (n : Nat) (S : Store) : C (n+1) 1 [.non] S = .ok (.bl false) S := rfl
@[simp] theorem ix0 (S : Store) (a : Int) (h : Option Int) : dix S (sp a h) (.int 0) = some (.int a) := rfl
@[simp] theorem ix1 (S : Store) (a : Int) (h : Option Int) : dix S (sp a h) (.int 1) = some (hD h) := rfl
@[simp] theorem lx0 (S : Store) (a : Int) (h : Option Int) : dix S (sl a h) (.int 0) = some (.int a) := rfl
@[simp] theorem lx1 (S : Store) (a : Int) (h : Option Int) : dix S (sl a h) (.int 1) = some (hD h) := rfl
@[simp] theorem len_sp (S : Store) (a : Int) (h : Option Int) : dbi S .len [sp a h] = some (.int 2) := rfl
@[simp] theorem len_sl (S : Store) (a : Int) (h : Option Int) : dbi S .len [sl a h] = some (.int 2) := rfl
@[simp] theorem list_sp (S : Store) (a : Int) (h : Option Int) : dbi S .list [sp a h] = some (sl a h) := rfl
@[simp] theorem tuple_sp (S : Store) (a : Int) (h : Option Int) : dbi S .tuple [sp a h] = some (sp a h) := rfl
@[simp] theorem isn_sp (ng : Bool) (a : Int) (h : Option Int) : isnB ng (sp a h) = ng := by cases ng <;> rfl
theorem check_ok {n : Nat} {a : Int} {h : Option Int} {S : Store} (o : okSp a h) : C (n+2) 2 [sp a h] S = .ok .non S := by
  obtain ⟨h1, h2⟩ := o
  show endR (execs (cf (n+1)) b2 (startE d2.N [sp a h]) S) = _
  rw [show startE d2.N [sp a h] = [some (sp a h)] from rfl]
  cases h with
  | none => simp [b2, execs_cons, exec, ev, evs, h1]
  | some b =>
    have h3 := h2 b rfl
    simp [b2, execs_cons, exec, ev, evs, h1, show 0 ≤ b by omega, show ¬ b < a by omega]
theorem check_okl {n : Nat} {a : Int} {h : Option Int} {S : Store} (o : okSp a h) : C (n+2) 2 [sl a h] S = .ok .non S := by
  obtain ⟨h1, h2⟩ := o
  show endR (execs (cf (n+1)) b2 (startE d2.N [sl a h]) S) = _
  rw [show startE d2.N [sl a h] = [some (sl a h)] from rfl]
  cases h with
  | none => simp [b2, execs_cons, exec, ev, evs, h1]
  | some b =>
    have h3 := h2 b rfl
    simp [b2, execs_cons, exec, ev, evs, h1, show 0 ≤ b by omega, show ¬ b < a by omega]
@[simp] theorem min2 (S : Store) (i j : Int) : dbi S .min [.int i, .int j] = some (.int (if j < i then j else i)) := rfl
@[simp] theorem max2 (S : Store) (i j : Int) : dbi S .max [.int i, .int j] = some (.int (if j > i then j else i)) := rfl
@[simp] theorem le2 : (2 ≤ sizeLine) = True := by rw [sizeLine_eq]; simp
@[simp] theorem int1 (S : Store) (i : Int) : dbi S .int [.int i] = some (.int i) := rfl
theorem has_if {a x : Int} {b : Bool} {S : Store} : (if a ≤ x then R.ok (D.bl b) S else R.ok (D.bl false) S) = R.ok (D.bl (decide (a ≤ x) && b)) S := by
  by_cases h : a ≤ x <;> simp [h]
theorem is_in_ok {n : Nat} {a x : Int} {h : Option Int} {S : Store} (o : okSp a h) (hx : 0 ≤ x) : C (n+3) 3 [sl a h, .int x] S = .ok (.bl (has a h x)) S := by
  show endR (execs (cf (n+2)) b3 (startE d3.N [sl a h, .int x]) S) = _
  rw [show startE d3.N [sl a h, .int x] = [some (sl a h), some (.int x)] from rfl]
  cases h with
  | none =>
    simp [b3, execs_cons, exec, ev, evs, hx, check_okl o, has]
    by_cases h : a ≤ x <;> simp [h]
  | some b =>
    simp [b3, execs_cons, exec, ev, evs, hx, check_okl o, has]
    by_cases h : a ≤ x <;> simp [h]
/-- _law_has -/
def hasO : Option (Int × Option Int) → Int → Bool
  | none, _ => false
  | some (a, h), x => has a h x
def oD : Option (Int × Option Int) → D
  | none => .non
  | some (a, h) => sp a h
@[simp] theorem oD_some (a : Int) (h : Option Int) : oD (some (a, h)) = sp a h := rfl
@[simp] theorem oD_none : oD none = .non := rfl
theorem law_has_ok {n : Nat} {x : Int} (o : Option (Int × Option Int)) {S : Store} : C (n+1) 15 [oD o, .int x] S = .ok (.bl (hasO o x)) S := by
  show endR (execs (cf n) b15 (startE d15.N [oD o, .int x]) S) = _
  rw [show startE d15.N [oD o, .int x] = [some (oD o), some (.int x)] from rfl]
  cases o with
  | none => simp [b15, execs_cons, exec, ev, evs, hasO]
  | some p =>
    obtain ⟨a, h⟩ := p
    cases h with
    | none =>
      simp [b15, execs_cons, exec, ev, evs, hasO, has]
      by_cases h : a ≤ x <;> simp [h]
    | some b =>
      simp [b15, execs_cons, exec, ev, evs, hasO, has]
      by_cases h : a ≤ x <;> simp [h]
/-! below, from_on, told -/
def belowO (a : Int) (h : Option Int) (c : Int) : Option (Int × Option Int) := if c ≤ a then none else some (a, some (match h with | none => c - 1 | some b => if c - 1 < b then c - 1 else b))
theorem below_ok {n : Nat} {a c : Int} {h : Option Int} {S : Store} (o : okSp a h) (hc : 0 ≤ c) : C (n+3) 4 [sp a h, .int c] S = .ok (oD (belowO a h c)) S := by
  show endR (execs (cf (n+2)) b4 (startE d4.N [sp a h, .int c]) S) = _
  rw [show startE d4.N [sp a h, .int c] = [some (sp a h), some (.int c)] from rfl]
  by_cases hca : c ≤ a
  · cases h <;> simp [b4, execs_cons, exec, ev, evs, hc, check_ok o, belowO, hca]
  · cases h with
    | none =>
      simp [b4, execs_cons, exec, ev, evs, hc, check_ok o, belowO, hca]
      rfl
    | some b =>
      simp [b4, execs_cons, exec, ev, evs, hc, check_ok o, belowO, hca]
      rfl
def fromO (a : Int) (h : Option Int) (c : Int) : Option (Int × Option Int) := match h with
  | none => some (if c > a then c else a, none)
  | some b => if b < c then none else some (if c > a then c else a, some b)
theorem from_ok {n : Nat} {a c : Int} {h : Option Int} {S : Store} (o : okSp a h) (hc : 0 ≤ c) : C (n+3) 5 [sp a h, .int c] S = .ok (oD (fromO a h c)) S := by
  show endR (execs (cf (n+2)) b5 (startE d5.N [sp a h, .int c]) S) = _
  rw [show startE d5.N [sp a h, .int c] = [some (sp a h), some (.int c)] from rfl]
  cases h with
  | none =>
    simp [b5, execs_cons, exec, ev, evs, hc, check_ok o, fromO]
    rfl
  | some b =>
    by_cases hb : b < c
    · simp [b5, execs_cons, exec, ev, evs, hc, check_ok o, fromO, hb]
    · simp [b5, execs_cons, exec, ev, evs, hc, check_ok o, fromO, hb]
      rfl
@[simp] theorem isn_oD (ng : Bool) (o : Option (Int × Option Int)) : isnB ng (oD o) = if ng then o.isSome else o.isNone := by
  cases ng <;> cases o <;> rfl
def toldD (a : Int) (h : Option Int) (c : Int) : D := if (belowO a h c).isNone then .bl false else if (fromO a h c).isNone then .bl true else .non
theorem told_ok {n : Nat} {a c : Int} {h : Option Int} {S : Store} (o : okSp a h) (hc : 0 ≤ c) : C (n+4) 6 [sp a h, .int c] S = .ok (toldD a h c) S := by
  show endR (execs (cf (n+3)) b6 (startE d6.N [sp a h, .int c]) S) = _
  rw [show startE d6.N [sp a h, .int c] = [some (sp a h), some (.int c)] from rfl]
  cases h1 : (belowO a h c).isNone <;> cases h2 : (fromO a h c).isNone <;> simp [b6, execs_cons, exec, ev, evs, below_ok o hc, from_ok o hc, toldD, h1, h2]
/-! added, capped, is_within, together, least_span -/
theorem added_ok {n : Nat} {a m : Int} {h : Option Int} {S : Store} (o : okSp a h) (hm : 0 ≤ m) : C (n+3) 7 [sp a h, .int m] S = .ok (sp (a + m) (h.map (· + m))) S := by
  show endR (execs (cf (n+2)) b7 (startE d7.N [sp a h, .int m]) S) = _
  rw [show startE d7.N [sp a h, .int m] = [some (sp a h), some (.int m)] from rfl]
  cases h with
  | none =>
    simp [b7, execs_cons, exec, ev, evs, hm, check_ok o]
    rfl
  | some b =>
    simp [b7, execs_cons, exec, ev, evs, hm, check_ok o]
    rfl
def capH (h : Option Int) (c : Int) : Option Int := match h with
  | none => none
  | some b => if b < c then some b else none
theorem capped_ok {n : Nat} {a c : Int} {h : Option Int} {S : Store} (o : okSp a h) (hc : 0 ≤ c) : C (n+3) 8 [sp a h, .int c] S = .ok (sp (if c < a then c else a) (capH h c)) S := by
  show endR (execs (cf (n+2)) b8 (startE d8.N [sp a h, .int c]) S) = _
  rw [show startE d8.N [sp a h, .int c] = [some (sp a h), some (.int c), none] from rfl]
  cases h with
  | none =>
    simp [b8, execs_cons, exec, ev, evs, hc, check_ok o, capH]
    rfl
  | some b =>
    by_cases hb : b < c
    · simp [b8, execs_cons, exec, ev, evs, hc, check_ok o, capH, hb]
      rfl
    · simp [b8, execs_cons, exec, ev, evs, hc, check_ok o, capH, hb]
      rfl
def withinB (a : Int) (h : Option Int) (a' : Int) (h' : Option Int) : Bool := decide (a' ≤ a) && (match h', h with
  | none, _ => true
  | some _, none => false
  | some b', some b => decide (b ≤ b'))
theorem within_ok {n : Nat} {a a' : Int} {h h' : Option Int} {S : Store} (o : okSp a h) (o' : okSp a' h') : C (n+3) 9 [sp a h, sp a' h'] S = .ok (.bl (withinB a h a' h')) S := by
  show endR (execs (cf (n+2)) b9 (startE d9.N [sp a h, sp a' h']) S) = _
  rw [show startE d9.N [sp a h, sp a' h'] = [some (sp a h), some (sp a' h')] from rfl]
  by_cases ha : a < a'
  · cases h <;> cases h' <;> simp [b9, execs_cons, exec, ev, evs, check_ok o, check_ok o', withinB, ha, show ¬ a' ≤ a by omega]
  · cases h <;> cases h' <;> simp [b9, execs_cons, exec, ev, evs, check_ok o, check_ok o', withinB, ha, show a' ≤ a by omega]
end KF

set_option Elab.async false
set_option linter.all false
set_option maxRecDepth 100000
set_option maxHeartbeats 1000000
namespace KF
open PySem L2 K04
def togH (h h' : Option Int) : Option Int := match h, h' with
  | none, none => none
  | some b, none => some b
  | none, some b' => some b'
  | some b, some b' => some (if b' < b then b' else b)
def togO (a : Int) (h : Option Int) (a' : Int) (h' : Option Int) : Option (Int × Option Int) := match togH h h' with
  | none => some (if a' > a then a' else a, none)
  | some x => if x < (if a' > a then a' else a) then none else some (if a' > a then a' else a, some x)
@[simp] theorem ne_nil1 (S : Store) (b : Int) : dcmp S .ne (.lst [.int b]) (.lst []) = some (.bl true) := (dcmp_ne_ints S [b] []).trans (by simp)
@[simp] theorem ne_nil2 (S : Store) (b c : Int) : dcmp S .ne (.lst [.int b, .int c]) (.lst []) = some (.bl true) := (dcmp_ne_ints S [b, c] []).trans (by simp)
@[simp] theorem ne_nil0 (S : Store) : dcmp S .ne (.lst []) (.lst []) = some (.bl false) := (dcmp_ne_ints S [] []).trans (by simp)
@[simp] theorem min1 (S : Store) (b : Int) : dbi S .min [.lst [.int b]] = some (.int b) := rfl
@[simp] theorem min1b (S : Store) (b c : Int) : dbi S .min [.lst [.int b, .int c]] = some (.int (if c < b then c else b)) := rfl
@[simp] theorem le0 : (0 ≤ sizeLine) = True := by simp
@[simp] theorem le1 : (1 ≤ sizeLine) = True := by rw [sizeLine_eq]; simp
theorem tog_ok {n : Nat} {a a' : Int} {h h' : Option Int} {S : Store} (o : okSp a h) (o' : okSp a' h') : C (n+3) 10 [sp a h, sp a' h'] S = .ok (oD (togO a h a' h')) S := by
  show endR (execs (cf (n+2)) b10 (startE d10.N [sp a h, sp a' h']) S) = _
  rw [show startE d10.N [sp a h, sp a' h'] = [some (sp a h), some (sp a' h'), none, none, none] from rfl]
  cases h with
  | none => cases h' with
    | none =>
      simp [b10, execs_cons, exec, ev, evs, evI, evC, check_ok o, check_ok o', lcL, lcF, wipeE, Tg.sl, finL, togO, togH]
      rfl
    | some b' =>
      simp [b10, execs_cons, exec, ev, evs, evI, evC, check_ok o, check_ok o', lcL, lcF, wipeE, Tg.sl, finL, togO, togH]
      by_cases hb : b' < (if a < a' then a' else a)
      · simp [hb]
      · simp [hb]; rfl
  | some b => cases h' with
    | none =>
      simp [b10, execs_cons, exec, ev, evs, evI, evC, check_ok o, check_ok o', lcL, lcF, wipeE, Tg.sl, finL, togO, togH]
      by_cases hb : b < (if a < a' then a' else a)
      · simp [hb]
      · simp [hb]; rfl
    | some b' =>
      simp [b10, execs_cons, exec, ev, evs, evI, evC, check_ok o, check_ok o', lcL, lcF, wipeE, Tg.sl, finL, togO, togH]
      by_cases hb : (if b' < b then b' else b) < (if a < a' then a' else a)
      · simp [hb]
      · simp [hb]; rfl
def leastH (h h' : Option Int) : Option Int := match h, h' with
  | some b, some b' => some (if b' > b then b' else b)
  | _, _ => none
@[simp] theorem in_hh (S : Store) (h h' : Option Int) : dcmp S .inn .non (.tup [hD h, hD h']) = some (.bl (h.isNone || h'.isNone)) := by cases h <;> cases h' <;> rfl
theorem least_ok {n : Nat} {a a' : Int} {h h' : Option Int} {S : Store} (o : okSp a h) (o' : okSp a' h') : C (n+3) 11 [sp a h, sp a' h'] S = .ok (sp (if a' < a then a' else a) (leastH h h')) S := by
  show endR (execs (cf (n+2)) b11 (startE d11.N [sp a h, sp a' h']) S) = _
  rw [show startE d11.N [sp a h, sp a' h'] = [some (sp a h), some (sp a' h'), none] from rfl]
  have e1 := in_hh S h h'
  cases h <;> cases h' <;>
    (simp only [hD_none, hD_some] at e1
     simp [b11, execs_cons, exec, ev, evs, check_ok o, check_ok o', leastH, e1]
     rfl)
end KF

set_option Elab.async false
set_option linter.all false
set_option maxRecDepth 100000
set_option maxHeartbeats 1000000
namespace KF
open PySem L2 K04
theorem atI_nums {l : List Int} {j : Int} (h0 : 0 ≤ j) (h1 : j < l.length) : ∃ x, atI (nums l) j = some (.int x) := by
  unfold atI ixN
  have hl : (nums l).length = l.length := List.length_map _
  rw [hl, if_pos h0, if_pos h1]
  have h2 : j.toNat < l.length := by omega
  exact ⟨l[j.toNat], by
    show (nums l)[j.toNat]? = _
    unfold nums
    rw [List.getElem?_map, List.getElem?_eq_getElem h2]; rfl⟩
@[simp] theorem len_nums (S : Store) (l : List Int) : dbi S .len [.lst (nums l)] = some (.int l.length) := by
  show some (D.int ((nums l).length : Int)) = _
  unfold nums
  rw [List.length_map]
theorem dix_nums {S : Store} {l : List Int} {j : Int} (h0 : 0 ≤ j) (h1 : j < l.length) : ∃ x, dix S (.lst (nums l)) (.int j) = some (.int x) := atI_nums h0 h1
@[simp] theorem ne_nums (S : Store) (l : List Int) : dcmp S .ne (.lst (nums l)) (.lst []) = some (.bl (!decide (l = []))) := dcmp_ne_ints S l []
@[simp] theorem pow1018 : dop .pow (.int 10) (.int 18) = some (.int 1000000000000000000) := by
  show (if 0 ≤ (18 : Int) ∧ (18 : Int) ≤ 1000000 ∧ (10 : Int).natAbs < 2 ^ 64 then some (D.int ((10 : Int) ^ (18 : Int).toNat)) else none) = _
  rw [if_pos ⟨by decide, by decide, by decide⟩, show (10 : Int) ^ (18 : Int).toNat = 1000000000000000000 by decide +kernel]
theorem dop_mul {i j : Int} (h : mulOk i j = true) : dop .mul (.int i) (.int j) = some (.int (i * j)) := if_pos h
theorem mulOk_l {i j : Int} (h1 : -(2 ^ 64) < i) (h2 : i < 2 ^ 64) : mulOk i j = true := by unfold mulOk; simp; left; omega
theorem mulOk_r {i j : Int} (h1 : -(2 ^ 64) < j) (h2 : j < 2 ^ 64) : mulOk i j = true := by unfold mulOk; simp; right; omega
/-- the loop of _law_number -/
theorem num_loop (g : Cfg) (e0 e1 e4 e5 e6 : Option D) (S : Store) : ∀ (l : List Int) (r : Int) (e3 : Option D), ∃ (r' : Int) (e3' : Option D),
    forL (fun x env S => match asg (.n 3) x env with
      | some env' => execs g (.cons (.asg (.n 2) (.op .fdiv (.v 2) (.ki 1009))) .nil) env' S
      | none => .bad) (nums l) [e0, e1, some (.int r), e3, e4, e5, e6] S = .next [e0, e1, some (.int r'), e3', e4, e5, e6] S
  | [], r, e3 => ⟨r, e3, rfl⟩
  | x :: xs, r, e3 => by
    obtain ⟨r', e3', h⟩ := num_loop g e0 e1 e4 e5 e6 S xs (r / 1009) (some (.int x))
    refine ⟨r', e3', ?_⟩
    have hd : dop .fdiv (.int r) (.int 1009) = some (.int (r / 1009)) := dop_div (by decide) (by decide)
    rw [← h]
    unfold nums
    rw [List.map_cons, forL_cons]
    simp [execs_cons, exec, ev, hd]
theorem rngIt_ok {n : Int} {S : Store} (h : 0 ≤ n) (h2 : n < 1000) : rngIt (.int n) S = .ok (nums ((List.range n.toNat).map fun (i : Nat) => (0 + (i : Int)))) S := by
  show (if -(2 ^ 62) ≤ n ∧ n < 2 ^ 62 then R.ok (rngD n) S else R.bad) = _
  rw [if_pos ⟨by omega, by omega⟩]
  unfold rngD nums
  rw [List.map_map]; rfl
/-- _law_number: some int -/
theorem num_ok (g : Cfg) {l : List Int} {i : Int} {S : Store} (hl : l.length ≤ 63) : ∃ r : Int, runD g d12 [.lst (nums l), .int i] S = .ok (.int r) S := by
  show ∃ r : Int, endR (execs g b12 (startE d12.N [.lst (nums l), .int i]) S) = _
  rw [show startE d12.N [.lst (nums l), .int i] = [some (.lst (nums l)), some (.int i), none, none, none, none, none] from rfl]
  -- the cell, the turn
  have h1 : ∃ cell turn : Int, exec g (.asg (.t (.cons (.n 5) (.cons (.n 6) .nil))) (.ite (.cmp .ne (.v 0) (.lst true .nil)) (.tup (.cons (.ix (.v 0) (.op .mod (.v 1) (.bi .len (.cons (.v 0) .nil)))) (.cons (.op .fdiv (.v 1) (.bi .len (.cons (.v 0) .nil))) .nil))) (.tup (.cons (.ki 12345) (.cons (.ki 0) .nil)))))
      [some (.lst (nums l)), some (.int i), none, none, none, none, none] S = .next [some (.lst (nums l)), some (.int i), none, none, none, some (.int cell), some (.int turn)] S := by
    by_cases he : l = []
    · subst he
      refine ⟨12345, 0, ?_⟩
      have e := ne_nums S []
      simp [exec, ev, evs, finL, e]
    · have hp : 0 < l.length := List.length_pos_iff.mpr he
      have hm := dop_mod (i := i) (j := (l.length : Int)) (by omega)
      have hd := dop_div (i := i) (j := (l.length : Int)) (by omega) (by omega)
      obtain ⟨x, hx⟩ := dix_nums (S := S) (l := l) (j := i % (l.length : Int)) (Int.emod_nonneg _ (by omega)) (Int.emod_lt_of_pos _ (by omega))
      refine ⟨x, i / (l.length : Int), ?_⟩
      simp [exec, ev, evs, finL, he, hm, hd, hx]
  obtain ⟨cell, turn, h1⟩ := h1
  unfold b12
  rw [execs_cons, h1, then_next, execs_cons]
  have h2 : ∃ rest : Int, exec g (.asg (.n 2) (.ite (.cmp .lt (.v 6) (.ki 60)) (.op .sub (.v 5) (.op .pow (.ki 10) (.ki 18))) (.ki 0))) [some (.lst (nums l)), some (.int i), none, none, none, some (.int cell), some (.int turn)] S
      = .next [some (.lst (nums l)), some (.int i), some (.int rest), none, none, some (.int cell), some (.int turn)] S := by
    by_cases ht : turn < 60
    · exact ⟨cell - 1000000000000000000, by simp [exec, ev, ht]⟩
    · exact ⟨0, by simp [exec, ev, ht]⟩
  obtain ⟨rest, h2⟩ := h2
  rw [h2, then_next, execs_cons]
  have hm60 := dop_mod (i := turn) (j := 60) (by decide)
  have hr := rngIt_ok (n := turn % 60) (S := S) (Int.emod_nonneg _ (by decide)) (by have := Int.emod_lt_of_pos turn (show (0 : Int) < 60 by decide); omega)
  obtain ⟨r', e3', hloop⟩ := num_loop g (some (.lst (nums l))) (some (.int i)) none (some (.int cell)) (some (.int turn)) S ((List.range (turn % 60).toNat).map fun (i : Nat) => (0 + (i : Int))) rest none
  have h3 : exec g (.for_ (.n 3) (.rng (.op .mod (.bi .int (.cons (.v 6) .nil)) (.ki 60))) (.cons (.asg (.n 2) (.op .fdiv (.v 2) (.ki 1009))) .nil)) [some (.lst (nums l)), some (.int i), some (.int rest), none, none, some (.int cell), some (.int turn)] S
      = .next [some (.lst (nums l)), some (.int i), some (.int r'), e3', none, some (.int cell), some (.int turn)] S := by
    rw [← hloop]
    simp [exec, evI, ev, evs, hm60, hr]
    all_goals rfl
  rw [h3, then_next, execs_cons]
  have hm9 := dop_mod (i := r') (j := 1009) (by decide)
  by_cases hp : 0 < r'
  · exact ⟨r' % 1009, by simp [exec, ev, evs, hp, execs_cons, hm9]⟩
  · have h4 : exec g (.ifs (.cmp .gt (.v 2) (.ki 0)) (.cons (.ret (.op .mod (.bi .int (.cons (.v 2) .nil)) (.ki 1009))) .nil) .nil) [some (.lst (nums l)), some (.int i), some (.int r'), e3', none, some (.int cell), some (.int turn)] S
      = .next [some (.lst (nums l)), some (.int i), some (.int r'), e3', none, some (.int cell), some (.int turn)] S := by simp [exec, ev, evs, hp]
    rw [h4, then_next, execs_cons]
    have m1 : ∀ x : Int, dop .mul (.int 977) (.int x) = some (.int (977 * x)) := fun x => dop_mul (mulOk_l (by decide) (by decide))
    have m2 : ∀ x : Int, dop .mul (.int x) (.int 48271) = some (.int (x * 48271)) := fun x => dop_mul (mulOk_r (by decide) (by decide))
    have m3 : ∀ x : Int, dop .mul (.int 31) (.int x) = some (.int (31 * x)) := fun x => dop_mul (mulOk_l (by decide) (by decide))
    have m4 : ∀ x : Int, dop .mul (.int 40503) (.int x) = some (.int (40503 * x)) := fun x => dop_mul (mulOk_l (by decide) (by decide))
    have m5 : ∀ x : Int, dop .mul (.int x) (.int 69621) = some (.int (x * 69621)) := fun x => dop_mul (mulOk_r (by decide) (by decide))
    have q1 : ∀ x : Int, dop .mod (.int x) (.int 2147483647) = some (.int (x % 2147483647)) := fun x => dop_mod (by decide)
    have q2 : ∀ x : Int, dop .mod (.int x) (.int 2147483629) = some (.int (x % 2147483629)) := fun x => dop_mod (by decide)
    have q3 : ∀ x : Int, dop .mod (.int x) (.int 2147483587) = some (.int (x % 2147483587)) := fun x => dop_mod (by decide)
    have q4 : ∀ x : Int, dop .fdiv (.int x) (.int 977) = some (.int (x / 977)) := fun x => dop_div (by decide) (by decide)
    obtain ⟨bl, hb⟩ : ∃ bl : Int, ((cell + 977 * i) * 48271 + 31 * (l.length : Int)) % 2147483647 = bl := ⟨_, rfl⟩
    have hb0 : 0 ≤ bl := by rw [← hb]; exact Int.emod_nonneg _ (by decide)
    have hb1 : bl < 2147483647 := by rw [← hb]; exact Int.emod_lt_of_pos _ (by decide)
    have m6 : dop .mul (.int bl) (.int bl) = some (.int (bl * bl)) := dop_mul (mulOk_l (by omega) (by omega))
    have h5 : exec g (.asg (.n 4) (.op .mod (.op .add (.op .mul (.bi .int (.cons (.op .add (.v 5) (.op .mul (.ki 977) (.v 1))) .nil)) (.ki 48271)) (.op .mul (.ki 31) (.bi .len (.cons (.v 0) .nil)))) (.ki 2147483647)))
        [some (.lst (nums l)), some (.int i), some (.int r'), e3', none, some (.int cell), some (.int turn)] S = .next [some (.lst (nums l)), some (.int i), some (.int r'), e3', some (.int bl), some (.int cell), some (.int turn)] S := by
      rw [← hb]
      simp [exec, ev, evs, m1, m2, m3, q1]
    rw [h5, then_next]
    exact ⟨(((bl * bl + 40503 * i) % 2147483629) * 69621 + ((bl * bl + 40503 * i) % 2147483629) / 977) % 2147483587, by simp [execs_cons, exec, ev, evs, m4, m5, m6, q2, q3, q4]⟩
end KF

set_option Elab.async false
set_option linter.all false
set_option maxRecDepth 100000
set_option maxHeartbeats 1000000
namespace KF
open PySem L2 K04
/-- the store of a law: the drawing -/
abbrev dr (l : List Int) (k : Int) : Store := [.lst [.lst (nums l), .int k]]
theorem take_ok {n : Nat} {l : List Int} {k m : Int} (hl : l.length ≤ 63) (hm : 0 < m) : ∃ r : Int, 0 ≤ r ∧ r < m ∧ C (n+2) 13 [.loc 0, .int m] (dr l k) = .ok (.int r) (dr l (k + 1)) := by
  obtain ⟨r, hr⟩ := num_ok (cf n) (l := l) (i := k + 1) (S := dr l (k + 1)) hl
  have hr : C (n+1) 12 [.lst (nums l), .int (k + 1)] (dr l (k + 1)) = .ok (.int r) (dr l (k + 1)) := hr
  refine ⟨r % m, Int.emod_nonneg _ (by omega), Int.emod_lt_of_pos _ hm, ?_⟩
  show endR (execs (cf (n+1)) b13 (startE d13.N [.loc 0, .int m]) (dr l k)) = _
  rw [show startE d13.N [.loc 0, .int m] = [some (.loc 0), some (.int m)] from rfl]
  unfold b13
  have h1 : exec (cf (n+1)) (.augX (.v 0) (.ki 1) .add (.ki 1)) [some (.loc 0), some (.int m)] (dr l k) = .next [some (.loc 0), some (.int m)] (dr l (k + 1)) := rfl
  rw [execs_cons, h1, then_next]
  have x0 : dix (dr l (k + 1)) (.loc 0) (.int 0) = some (.lst (nums l)) := rfl
  have x1 : dix (dr l (k + 1)) (.loc 0) (.int 1) = some (.int (k + 1)) := rfl
  simp [execs_cons, exec, ev, evs, x0, x1, hr, dop_mod hm]
def smSp (a : Int) (h : Option Int) : Prop := 0 ≤ a ∧ a < 6 ∧ ∀ b, h = some b → a ≤ b ∧ b < a + 5
theorem smSp.ok {a : Int} {h : Option Int} (s : smSp a h) : okSp a h := ⟨s.1, fun b e => (s.2.2 b e).1⟩
theorem span_ok {n : Nat} {l : List Int} {k : Int} (hl : l.length ≤ 63) : ∃ (a : Int) (h : Option Int) (k' : Int), smSp a h ∧ C (n+3) 14 [.loc 0] (dr l k) = .ok (sp a h) (dr l k') := by
  obtain ⟨a, a0, a1, ha⟩ := take_ok (n := n) (l := l) (k := k) (m := 6) hl (by decide)
  obtain ⟨t, t0, t1, ht⟩ := take_ok (n := n) (l := l) (k := k + 1) (m := 3) hl (by decide)
  obtain ⟨u, u0, u1, hu⟩ := take_ok (n := n) (l := l) (k := k + 1 + 1) (m := 5) hl (by decide)
  have e : C (n+3) 14 [.loc 0] (dr l k) = endR (execs (cf (n+2)) b14 [some (.loc 0), none] (dr l k)) := rfl
  by_cases hz : t = 0
  · subst hz
    refine ⟨a, none, k + 1 + 1, ⟨a0, a1, fun b e => by cases e⟩, ?_⟩
    rw [e]
    simp [b14, execs_cons, exec, ev, evs, ha, ht]
    rfl
  · refine ⟨a, some (a + u), k + 1 + 1 + 1, ⟨a0, a1, fun b e => by cases e; omega⟩, ?_⟩
    rw [e]
    simp [b14, execs_cons, exec, ev, evs, ha, ht, hu, hz]
    rfl
end KF

set_option Elab.async false
set_option linter.all false
set_option maxRecDepth 100000
set_option maxHeartbeats 1000000
namespace KF
open PySem L2 K04
theorem then_of {f : Env → Store → RS} {r R : RS} {env : Env} {S : Store} (h : r = .next env S) (k : f env S = R) : thenS f r = R := by rw [h]; exact k
/-- a value, a test, that leave the store -/
def Va (g : Cfg) (e : E) (env : Env) (S : Store) (x : D) : Prop := ev g e env S = .ok x S
def Te (g : Cfg) (e : E) (env : Env) (S : Store) (b : Bool) : Prop := (ev g e env S).bind asB = .ok b S
section
variable {g : Cfg} {env : Env} {S : Store} {a b : E}
theorem Va.te {x : Bool} (h : Va g a env S (.bl x)) : Te g a env S x := by unfold Te; rw [show ev g a env S = _ from h]; rfl
theorem Te.or_no (h : Te g a env S false) (k : Te g b env S false) : Te g (.or a b) env S false := by
  show ((((ev g a env S).bind asB).bind fun x S1 => if x = true then R.ok (D.bl true) S1 else ev g b env S1)).bind asB = _
  rw [show (ev g a env S).bind asB = _ from h]
  exact k
theorem Te.or_yes (h : Te g a env S true) : Te g (.or a b) env S true := by
  show ((((ev g a env S).bind asB).bind fun x S1 => if x = true then R.ok (D.bl true) S1 else ev g b env S1)).bind asB = _
  rw [show (ev g a env S).bind asB = _ from h]
  rfl
theorem Te.and_no (h : Te g a env S false) : Te g (.and a b) env S false := by
  show ((((ev g a env S).bind asB).bind fun x S1 => if x = true then ev g b env S1 else R.ok (D.bl false) S1)).bind asB = _
  rw [show (ev g a env S).bind asB = _ from h]
  rfl
theorem Te.and_yes {x : Bool} (h : Te g a env S true) (k : Te g b env S x) : Te g (.and a b) env S x := by
  show ((((ev g a env S).bind asB).bind fun x S1 => if x = true then ev g b env S1 else R.ok (D.bl false) S1)).bind asB = _
  rw [show (ev g a env S).bind asB = _ from h]
  exact k
theorem Te.not {x : Bool} (h : Te g a env S x) : Te g (.not a) env S (!x) := by
  show ((((ev g a env S).bind asB).bind fun x S1 => R.ok (D.bl (!x)) S1)).bind asB = _
  rw [show (ev g a env S).bind asB = _ from h]
  rfl
theorem Te.not_no (h : Te g a env S true) : Te g (.not a) env S false := h.not
theorem Te.ne_no {x y : D} (h : Va g a env S x) (k : Va g b env S y) (e : deq x y = some true) : Te g (.cmp .ne a b) env S false := by
  show (((ev g a env S).bind fun x S1 => (ev g b env S1).bind fun y S2 => lift (dcmp S2 .ne x y) S2)).bind asB = _
  rw [show ev g a env S = _ from h, bind_ok, show ev g b env S = _ from k, bind_ok, dcmp_ne_of e]
  rfl
theorem ifs_no {t : E} {ss : Sts} (h : Te g t env S false) : exec g (.ifs t ss .nil) env S = .next env S := by
  show (((ev g t env S).bind asB).st env fun x S1 => if x = true then execs g ss env S1 else execs g .nil env S1) = _
  rw [show (ev g t env S).bind asB = _ from h]
  rfl
/-- a comprehension that keeps some of the ints -/
theorem va_filter {e cond : E} {i : Nat} {L : List Int} {p : Int → Bool} (he : Va g e env S (.lst (nums L))) (hi : i < env.length) (hL : L.length ≤ 100) (hc : ∀ x ∈ L, Te g cond ((env.set i none).set i (some (.int x))) S (p x)) :
    Va g (.lc true (.v i) (.n i) (.val e) (.one cond)) env S (.lst (nums (L.filter p))) := by
  show (((ev g e env S).bind seqIt).bind fun xs S1 => (noexc (lcL (lcF (.n i) env (fun env' S' => (ev g cond env' S').bind asB) (fun env' S' => ev g (.v i) env' S')) xs S1)).bind fun ys S5 => finL true ys S5) = _
  rw [show ev g e env S = _ from he, bind_ok, seqIt_lst, bind_ok]
  rw [lcL_filter (p := p) fun x hx => ?_]
  · rw [noexc_ok, bind_ok, finL_fz]
    have := List.length_filter_le p L
    unfold nums
    rw [List.length_map, sizeLine_eq]; omega
  · show (match asg (.n i) (.int x) (wipeE env [i]) with
      | some env' => ((ev g cond env' S).bind asB).bind fun b S1 => if b = true then (ev g (.v i) env' S1).bind fun y S2 => .ok (some y) S2 else .ok none S1
      | none => .bad) = _
    have e1 : wipeE env [i] = env.set i none := rfl
    rw [e1, asg_n, if_pos (by rw [List.length_set]; exact hi)]
    show (((ev g cond ((env.set i none).set i (some (.int x))) S).bind asB).bind fun b S1 => if b = true then (ev g (.v i) ((env.set i none).set i (some (.int x))) S1).bind fun y S2 => .ok (some y) S2 else .ok none S1) = _
    rw [show (ev g cond ((env.set i none).set i (some (.int x))) S).bind asB = _ from hc x hx, bind_ok]
    have e2 : ev g (.v i) ((env.set i none).set i (some (.int x))) S = .ok (.int x) S := by
      show lift ((((env.set i none).set i (some (.int x)))[i]?).join) S = _
      rw [List.getElem?_set_self (by rw [List.length_set]; exact hi)]; rfl
    rw [e2, bind_ok]
    cases p x <;> rfl
/-- .. that asks of each -/
theorem va_bools {e elt : E} {i : Nat} {L : List Int} {p : Int → Bool} (he : Va g e env S (.lst (nums L))) (hi : i < env.length) (hL : L.length ≤ 100) (hc : ∀ x ∈ L, Va g elt ((env.set i none).set i (some (.int x))) S (.bl (p x))) :
    Va g (.lc true elt (.n i) (.val e) .no) env S (.lst ((L.map p).map .bl)) := by
  show (((ev g e env S).bind seqIt).bind fun xs S1 => (noexc (lcL (lcF (.n i) env (fun env' S' => R.ok true S') (fun env' S' => ev g elt env' S')) xs S1)).bind fun ys S5 => finL true ys S5) = _
  rw [show ev g e env S = _ from he, bind_ok, seqIt_lst, bind_ok]
  rw [lcL_bools (p := p) fun x hx => ?_]
  · rw [noexc_ok, bind_ok, finL_fz]
    rw [List.length_map, List.length_map, sizeLine_eq]; omega
  · show (match asg (.n i) (.int x) (wipeE env [i]) with
      | some env' => (R.ok true S).bind fun b S1 => if b = true then (ev g elt env' S1).bind fun y S2 => .ok (some y) S2 else .ok none S1
      | none => .bad) = _
    have e1 : wipeE env [i] = env.set i none := rfl
    rw [e1, asg_n, if_pos (by rw [List.length_set]; exact hi)]
    show (ev g elt ((env.set i none).set i (some (.int x))) S).bind (fun y S2 => R.ok (some y) S2) = _
    rw [show ev g elt ((env.set i none).set i (some (.int x))) S = _ from hc x hx, bind_ok]
theorem va_all {e : E} {l : List Bool} (h : Va g e env S (.lst (l.map .bl))) : Va g (.bi .all (.cons e .nil)) env S (.bl (l.all id)) := by
  show (((ev g e env S).bind fun x S1 => (R.ok [] S1).bind fun xs S2 => R.ok (x :: xs) S2).bind fun ds S1 => lift (dbi S1 .all ds) S1) = _
  rw [show ev g e env S = _ from h]
  simp
theorem va_any {e : E} {l : List Bool} (h : Va g e env S (.lst (l.map .bl))) : Va g (.bi .any (.cons e .nil)) env S (.bl (l.any id)) := by
  show (((ev g e env S).bind fun x S1 => (R.ok [] S1).bind fun xs S2 => R.ok (x :: xs) S2).bind fun ds S1 => lift (dbi S1 .any ds) S1) = _
  rw [show ev g e env S = _ from h]
  simp
theorem va_cat {l1 l2 : List Int} (h : Va g a env S (.lst (nums l1))) (k : Va g b env S (.lst (nums l2))) (hl : l1.length + l2.length ≤ 1000) : Va g (.op .add a b) env S (.lst (nums (l1 ++ l2))) := by
  show ((ev g a env S).bind fun x S1 => (ev g b env S1).bind fun y S2 => lift (dop .add x y) S2) = _
  rw [show ev g a env S = _ from h, bind_ok, show ev g b env S = _ from k, bind_ok]
  have e : dop .add (.lst (nums l1)) (.lst (nums l2)) = some (.lst (nums l1 ++ nums l2)) := if_pos (by unfold nums; rw [List.length_map, List.length_map, sizeLine_eq]; omega)
  rw [e, lift_some]
  unfold nums
  rw [List.map_append]
end
theorem deq_bl (x y : Bool) : deq (.bl x) (.bl y) = some (x == y) := by
  rw [deq_of (x := .bl x) (y := .bl y) rfl rfl rfl rfl]; rfl
theorem deq_nn : deq .non .non = some true := by decide +kernel
theorem deq_sp (a : Int) (h : Option Int) : deq (sp a h) (sp a h) = some true := by
  cases h with
  | none =>
    rw [deq_of (x := sp a none) (y := sp a none) (d := .tuple [.int a, .none]) (e := .tuple [.int a, .none]) rfl rfl rfl rfl]
    simp [PyData.eqv, PyData.eqvAll]
  | some b =>
    rw [deq_of (x := sp a (some b)) (y := sp a (some b)) (d := .tuple [.int a, .int b]) (e := .tuple [.int a, .int b]) rfl rfl rfl rfl]
    simp [PyData.eqv, PyData.eqvAll]
theorem deq_oD (o : Option (Int × Option Int)) : deq (oD o) (oD o) = some true := by
  cases o with
  | none => exact deq_nn
  | some p => exact deq_sp _ _
theorem deq_nums (l m : List Int) (h : l = m) : deq (.lst (nums l)) (.lst (nums m)) = some true := by
  rw [deq_ints, h]; simp
/-! plain facts -/
def N40 : List Int := (List.range 40).map fun (i : Nat) => (0 + (i : Int))
theorem N40_mem {x : Int} : x ∈ N40 ↔ 0 ≤ x ∧ x < 40 := by
  unfold N40
  rw [List.mem_map]
  constructor
  · rintro ⟨i, hi, rfl⟩
    have := List.mem_range.mp hi
    omega
  · rintro ⟨h1, h2⟩
    exact ⟨x.toNat, List.mem_range.mpr (by omega), by omega⟩
theorem N40_len : N40.length = 40 := by unfold N40; rw [List.length_map, List.length_range]
theorem fil_congr {p q : Int → Bool} (h : ∀ x, 0 ≤ x → x < 40 → p x = q x) : N40.filter p = N40.filter q := List.filter_congr fun x hx => h x (N40_mem.mp hx).1 (N40_mem.mp hx).2
theorem fil_fil {p q r : Int → Bool} (h : ∀ x, 0 ≤ x → x < 40 → p x = (q x && r x)) : N40.filter p = (N40.filter q).filter r := by
  rw [List.filter_filter]
  exact fil_congr fun x h1 h2 => by rw [h x h1 h2, Bool.and_comm]
theorem mine_mem {a : Int} {h : Option Int} {x : Int} : x ∈ N40.filter (has a h) ↔ (0 ≤ x ∧ x < 40) ∧ has a h x = true := by rw [List.mem_filter, N40_mem]
theorem mine_len (p : Int → Bool) : (N40.filter p).length ≤ 40 := by have := List.length_filter_le p N40; rw [N40_len] at this; exact this
end KF

set_option Elab.async false
set_option linter.all false
set_option maxRecDepth 100000
set_option maxHeartbeats 4000000
namespace KF
open PySem L2 K04
section
variable {a a' c m x : Int} {h h' : Option Int}
theorem low_fact : hasO (belowO a h c) x = (has a h x && decide (x < c)) := by
  rw [Bool.eq_iff_iff]
  by_cases hc : c ≤ a
  · cases h <;> simp [belowO, hasO, has, hc] <;> omega
  · cases h with
    | none => simp [belowO, hasO, has, hc]; omega
    | some b => 
      by_cases hb : c - 1 < b
      · simp [belowO, hasO, has, hc, hb]; omega
      · simp [belowO, hasO, has, hc, hb]; omega
theorem high_fact : hasO (fromO a h c) x = (has a h x && decide (c ≤ x)) := by
  rw [Bool.eq_iff_iff]
  cases h with
  | none =>
    by_cases hc : c > a
    · simp [fromO, hasO, has, hc]; omega
    · simp [fromO, hasO, has, hc]; omega
  | some b =>
    by_cases hb : b < c
    · simp [fromO, hasO, has, hb]; omega
    · by_cases hc : c > a
      · simp [fromO, hasO, has, hb, hc]; omega
      · simp [fromO, hasO, has, hb, hc]; omega
theorem has_self (o : okSp a h) : has a h a = true := by
  cases h with
  | none => simp [has]
  | some b => simp [has, o.2 b rfl]
theorem has_ge (q : has a h x = true) : a ≤ x := by
  cases h <;> simp [has] at q
  · exact q
  · exact q.1
theorem a_mem (s : smSp a h) : a ∈ N40.filter (has a h) := mine_mem.mpr ⟨⟨s.1, by have := s.2.1; omega⟩, has_self s.ok⟩
theorem all_fact (s : smSp a h) : (belowO a h c).isNone = ((N40.filter (has a h)).map (fun x => decide (c ≤ x))).all id := by
  rw [Bool.eq_iff_iff]
  constructor
  · intro q
    rw [List.all_eq_true]
    intro b hb
    obtain ⟨x, hx, rfl⟩ := List.mem_map.mp hb
    have hge := has_ge (mine_mem.mp hx).2
    by_cases hc : c ≤ a
    · simp; omega
    · simp [belowO, hc] at q
  · intro q
    have := List.all_eq_true.mp q _ (List.mem_map.mpr ⟨a, a_mem s, rfl⟩)
    simp at this
    simp [belowO, this]
theorem told_fact (o : okSp a h) : toldD a h c = (if (fromO a h c).isNone then .bl true else if (belowO a h c).isNone then .bl false else .non) := by
  unfold toldD
  by_cases hc : c ≤ a
  · cases h with
    | none => simp [belowO, fromO, hc]
    | some b =>
      have := o.2 b rfl
      simp [belowO, fromO, hc, show ¬ b < c by omega]
  · simp [belowO, hc]
theorem deq_told : deq (toldD a h c) (toldD a h c) = some true := by
  unfold toldD
  split
  · rw [deq_bl]; rfl
  · split
    · rw [deq_bl]; rfl
    · exact deq_nn
theorem add_fact (o : okSp a h) (hm : 0 ≤ m) : N40.filter (has (a + m) (h.map (· + m))) = N40.filter (fun x => decide (x - m ∈ N40.filter (has a h))) := by
  refine fil_congr fun x h1 h2 => ?_
  have h0 := o.1
  rw [Bool.eq_iff_iff]
  cases h with
  | none => simp [N40_mem, has]; omega
  | some b => simp [N40_mem, has]; omega
theorem cap_okSp (o : okSp a h) (hc : 0 ≤ c) : okSp (if c < a then c else a) (capH h c) := by
  have h0 := o.1
  refine ⟨by split <;> omega, fun b e => ?_⟩
  cases h with
  | none => cases e
  | some b0 =>
    have := o.2 b0 rfl
    simp [capH] at e
    split <;> omega
theorem cap_idem : sp (if c < (if c < a then c else a) then c else (if c < a then c else a)) (capH (capH h c) c) = sp (if c < a then c else a) (capH h c) := by
  have e1 : (if c < (if c < a then c else a) then c else (if c < a then c else a)) = (if c < a then c else a) := by
    by_cases hc : c < a
    · simp [hc]
    · simp [hc]
  have e2 : capH (capH h c) c = capH h c := by
    cases h with
    | none => rfl
    | some b =>
      by_cases hb : b < c
      · simp [capH, hb]
      · simp [capH, hb]
  rw [e1, e2]
theorem cap_all : ((N40.filter (has a h)).map (fun x => decide ((if c < a then c else a) ≤ (if c < x then c else x)))).all id = true := by
  rw [List.all_eq_true]
  intro b hb
  obtain ⟨x, hx, rfl⟩ := List.mem_map.mp hb
  have := has_ge (mine_mem.mp hx).2
  simp
  split <;> split <;> omega
theorem cap_any : ((N40.filter (has a h)).map (fun x => decide (x < c) && !has (if c < a then c else a) (capH h c) x)).any id = false := by
  rw [List.any_eq_false]
  intro b hb
  obtain ⟨x, hx, rfl⟩ := List.mem_map.mp hb
  have hx := (mine_mem.mp hx).2
  by_cases hc : c < a
  · cases h with
    | none => simp [has, capH, hc] at hx ⊢; omega
    | some b =>
      by_cases hb : b < c
      · simp [has, capH, hc, hb] at hx ⊢; omega
      · simp [has, capH, hc, hb] at hx ⊢; omega
  · cases h with
    | none => simp [has, capH, hc] at hx ⊢; omega
    | some b =>
      by_cases hb : b < c
      · simp [has, capH, hc, hb] at hx ⊢; omega
      · simp [has, capH, hc, hb] at hx ⊢; omega
theorem tog_fact : N40.filter (hasO (togO a h a' h')) = (N40.filter (has a h)).filter (fun x => decide (x ∈ N40.filter (has a' h'))) := by
  refine fil_fil fun x h1 h2 => ?_
  rw [Bool.eq_iff_iff]
  by_cases ha : a' > a
  · cases h with
    | none => cases h' with
      | none => simp [togO, togH, hasO, has, N40_mem, ha]; omega
      | some b' =>
        by_cases hb : b' < a'
        · simp [togO, togH, hasO, has, N40_mem, ha, hb]; omega
        · simp [togO, togH, hasO, has, N40_mem, ha, hb]; omega
    | some b => cases h' with
      | none =>
        by_cases hb : b < a'
        · simp [togO, togH, hasO, has, N40_mem, ha, hb]; omega
        · simp [togO, togH, hasO, has, N40_mem, ha, hb]; omega
      | some b' =>
        by_cases hbb : b' < b
        · by_cases hb : b' < a'
          · simp [togO, togH, hasO, has, N40_mem, ha, hbb, hb]; omega
          · simp [togO, togH, hasO, has, N40_mem, ha, hbb, hb]; omega
        · by_cases hb : b < a'
          · simp [togO, togH, hasO, has, N40_mem, ha, hbb, hb]; omega
          · simp [togO, togH, hasO, has, N40_mem, ha, hbb, hb]; omega
  · cases h with
    | none => cases h' with
      | none => simp [togO, togH, hasO, has, N40_mem, ha]; omega
      | some b' =>
        by_cases hb : b' < a
        · simp [togO, togH, hasO, has, N40_mem, ha, hb]; omega
        · simp [togO, togH, hasO, has, N40_mem, ha, hb]; omega
    | some b => cases h' with
      | none =>
        by_cases hb : b < a
        · simp [togO, togH, hasO, has, N40_mem, ha, hb]; omega
        · simp [togO, togH, hasO, has, N40_mem, ha, hb]; omega
      | some b' =>
        by_cases hbb : b' < b
        · by_cases hb : b' < a
          · simp [togO, togH, hasO, has, N40_mem, ha, hbb, hb]; omega
          · simp [togO, togH, hasO, has, N40_mem, ha, hbb, hb]; omega
        · by_cases hb : b < a
          · simp [togO, togH, hasO, has, N40_mem, ha, hbb, hb]; omega
          · simp [togO, togH, hasO, has, N40_mem, ha, hbb, hb]; omega
end
end KF

set_option Elab.async false
set_option linter.all false
set_option maxRecDepth 100000
set_option maxHeartbeats 4000000
namespace KF
open PySem L2 K04
section
variable {a a' c m x p : Int} {h h' q : Option Int}
theorem least_okSp (o : okSp a h) (o' : okSp a' h') : okSp (if a' < a then a' else a) (leastH h h') := by
  have h0 := o.1
  have h0' := o'.1
  refine ⟨by split <;> omega, fun b e => ?_⟩
  cases h with
  | none => cases h' <;> cases e
  | some b0 => cases h' with
    | none => cases e
    | some b1 =>
      have := o.2 b0 rfl
      have := o'.2 b1 rfl
      simp [leastH] at e
      by_cases h1 : b0 < b1
      · rw [if_pos h1] at e; split <;> omega
      · rw [if_neg h1] at e; split <;> omega
theorem least_has1 (q : has a h x = true) : has (if a' < a then a' else a) (leastH h h') x = true := by
  by_cases ha : a' < a
  · cases h with
    | none => cases h' <;> simp [has, leastH, ha] at q ⊢ <;> omega
    | some b => cases h' with
      | none => simp [has, leastH, ha] at q ⊢; omega
      | some b' =>
        by_cases hb : b < b'
        · simp [has, leastH, ha, hb] at q ⊢; omega
        · simp [has, leastH, ha, hb] at q ⊢; omega
  · cases h with
    | none => cases h' <;> simp [has, leastH, ha] at q ⊢ <;> omega
    | some b => cases h' with
      | none => simp [has, leastH, ha] at q ⊢; omega
      | some b' =>
        by_cases hb : b < b'
        · simp [has, leastH, ha, hb] at q ⊢; omega
        · simp [has, leastH, ha, hb] at q ⊢; omega
theorem least_comm : sp (if a < a' then a else a') (leastH h' h) = sp (if a' < a then a' else a) (leastH h h') := by
  have e1 : (if a < a' then a else a') = (if a' < a then a' else a) := by
    by_cases h1 : a < a'
    · rw [if_pos h1, if_neg (by omega)]
    · by_cases h2 : a' < a
      · rw [if_neg h1, if_pos h2]
      · rw [if_neg h1, if_neg h2]; omega
  have e2 : leastH h' h = leastH h h' := by
    cases h with
    | none => cases h' <;> rfl
    | some b => cases h' with
      | none => rfl
      | some b' =>
        simp only [leastH]
        congr 1
        by_cases h1 : b > b'
        · rw [if_pos h1, if_neg (by omega)]
        · by_cases h2 : b' > b
          · rw [if_neg h1, if_pos h2]
          · rw [if_neg h1, if_neg h2]; omega
  rw [e1, e2]
theorem least_has2 (q : has a' h' x = true) : has (if a' < a then a' else a) (leastH h h') x = true := by
  have e := least_has1 (a' := a) (h' := h) q
  have e1 : (if a < a' then a else a') = (if a' < a then a' else a) ∧ leastH h' h = leastH h h' := by
    have := least_comm (a := a) (a' := a') (h := h) (h' := h')
    unfold sp at this
    injection this with t1
    injection t1 with t1 t2
    injection t1 with t1
    injection t2 with t2 _
    refine ⟨t1, ?_⟩
    cases e1 : leastH h' h <;> cases e2 : leastH h h' <;> rw [e1, e2] at t2 <;> first | rfl | (cases t2; rfl) | cases t2
  rw [e1.1, e1.2] at e
  exact e
theorem least_all : ((N40.filter (has a h) ++ N40.filter (has a' h')).map (fun x => has (if a' < a then a' else a) (leastH h h') x)).all id = true := by
  rw [List.all_eq_true]
  intro b hb
  obtain ⟨x, hx, rfl⟩ := List.mem_map.mp hb
  rcases List.mem_append.mp hx with hx | hx
  · exact least_has1 (mine_mem.mp hx).2
  · exact least_has2 (mine_mem.mp hx).2
theorem within_least1 : withinB a h (if a' < a then a' else a) (leastH h h') = true := by
  by_cases ha : a' < a
  · cases h with
    | none => cases h' <;> simp [withinB, leastH, ha] <;> omega
    | some b => cases h' with
      | none => simp [withinB, leastH, ha]; omega
      | some b' =>
        by_cases hb : b < b'
        · simp [withinB, leastH, ha, hb]; omega
        · simp [withinB, leastH, ha, hb]; omega
  · cases h with
    | none => cases h' <;> simp [withinB, leastH, ha]
    | some b => cases h' with
      | none => simp [withinB, leastH, ha]
      | some b' =>
        by_cases hb : b < b'
        · simp [withinB, leastH, ha, hb]; omega
        · simp [withinB, leastH, ha, hb]
theorem within_least2 : withinB a' h' (if a' < a then a' else a) (leastH h h') = true := by
  by_cases ha : a' < a
  · cases h with
    | none => cases h' <;> simp [withinB, leastH, ha]
    | some b => cases h' with
      | none => simp [withinB, leastH, ha]
      | some b' =>
        by_cases hb : b < b'
        · simp [withinB, leastH, ha, hb]
        · simp [withinB, leastH, ha, hb]; omega
  · cases h with
    | none => cases h' <;> simp [withinB, leastH, ha] <;> omega
    | some b => cases h' with
      | none => simp [withinB, leastH, ha]; omega
      | some b' =>
        by_cases hb : b < b'
        · simp [withinB, leastH, ha, hb]; omega
        · simp [withinB, leastH, ha, hb]; omega
theorem within_fact (s : smSp a h) (s' : smSp a' h') : withinB a h a' h' = (((N40.filter (has a h)).map (fun x => decide (x ∈ N40.filter (has a' h')))).all id && (h.isSome || h'.isNone)) := by
  have hA : ((N40.filter (has a h)).map (fun x => decide (x ∈ N40.filter (has a' h')))).all id = true ↔ ∀ x, (0 ≤ x ∧ x < 40) → has a h x = true → has a' h' x = true := by
    rw [List.all_eq_true]
    constructor
    · intro q x h1 h2
      have := q _ (List.mem_map.mpr ⟨x, mine_mem.mpr ⟨h1, h2⟩, rfl⟩)
      simp only [id, decide_eq_true_eq] at this
      exact (mine_mem.mp this).2
    · intro q b hb
      obtain ⟨x, hx, rfl⟩ := List.mem_map.mp hb
      have := mine_mem.mp hx
      simp only [id, decide_eq_true_eq]
      exact mine_mem.mpr ⟨this.1, q x this.1 this.2⟩
  rw [Bool.eq_iff_iff, Bool.and_eq_true, hA]
  obtain ⟨s0, s1, s2⟩ := s
  obtain ⟨t0, t1, t2⟩ := s'
  cases h with
  | none => cases h' with
    | none =>
      simp [withinB, has]
      constructor
      · intro q x _ _ _; omega
      · intro q; exact q a (by omega) (by omega) (by omega)
    | some b' => simp [withinB]
  | some b =>
    have hb := s2 b rfl
    cases h' with
    | none =>
      simp [withinB, has]
      constructor
      · intro q x _ _ _; omega
      · intro q; exact q a (by omega) (by omega) (by omega) (by omega)
    | some b' =>
      have hb' := t2 b' rfl
      simp [withinB, has]
      constructor
      · intro q x _ _ _; omega
      · intro q
        have q1 := q a (by omega) (by omega) (by omega) (by omega)
        have q2 := q b (by omega) (by omega) (by omega) (by omega)
        omega
theorem tog_some (o : okSp a h) (o' : okSp a' h') (e : togO a h a' h' = some (p, q)) : okSp p q ∧ withinB p q a h = true := by
  have h0 := o.1
  have h0' := o'.1
  by_cases ha : a' > a
  · cases h with
    | none => cases h' with
      | none =>
        simp [togO, togH, ha] at e
        obtain ⟨rfl, rfl⟩ := e
        exact ⟨⟨by omega, fun b z => by cases z⟩, by simp [withinB]; omega⟩
      | some b' =>
        by_cases hb : b' < a'
        · simp [togO, togH, ha, hb] at e
        · simp [togO, togH, ha, hb] at e
          obtain ⟨rfl, rfl⟩ := e
          exact ⟨⟨by omega, fun b z => by cases z; omega⟩, by simp [withinB]; omega⟩
    | some b => cases h' with
      | none =>
        by_cases hb : b < a'
        · simp [togO, togH, ha, hb] at e
        · simp [togO, togH, ha, hb] at e
          obtain ⟨rfl, rfl⟩ := e
          exact ⟨⟨by omega, fun b z => by cases z; omega⟩, by simp [withinB]; omega⟩
      | some b' =>
        by_cases hbb : b' < b
        · by_cases hb : b' < a'
          · simp [togO, togH, ha, hb, hbb] at e
          · simp [togO, togH, ha, hb, hbb] at e
            obtain ⟨rfl, rfl⟩ := e
            exact ⟨⟨by omega, fun b z => by cases z; omega⟩, by simp [withinB]; omega⟩
        · by_cases hb : b < a'
          · simp [togO, togH, ha, hb, hbb] at e
          · simp [togO, togH, ha, hb, hbb] at e
            obtain ⟨rfl, rfl⟩ := e
            exact ⟨⟨by omega, fun b z => by cases z; omega⟩, by simp [withinB]; omega⟩
  · cases h with
    | none => cases h' with
      | none =>
        simp [togO, togH, ha] at e
        obtain ⟨rfl, rfl⟩ := e
        exact ⟨⟨by omega, fun b z => by cases z⟩, by simp [withinB]⟩
      | some b' =>
        by_cases hb : b' < a
        · simp [togO, togH, ha, hb] at e
        · simp [togO, togH, ha, hb] at e
          obtain ⟨rfl, rfl⟩ := e
          exact ⟨⟨by omega, fun b z => by cases z; omega⟩, by simp [withinB]⟩
    | some b => cases h' with
      | none =>
        by_cases hb : b < a
        · simp [togO, togH, ha, hb] at e
        · simp [togO, togH, ha, hb] at e
          obtain ⟨rfl, rfl⟩ := e
          exact ⟨⟨by omega, fun b z => by cases z; omega⟩, by simp [withinB]⟩
      | some b' =>
        by_cases hbb : b' < b
        · by_cases hb : b' < a
          · simp [togO, togH, ha, hb, hbb] at e
          · simp [togO, togH, ha, hb, hbb] at e
            obtain ⟨rfl, rfl⟩ := e
            exact ⟨⟨by omega, fun b z => by cases z; omega⟩, by simp [withinB]; omega⟩
        · by_cases hb : b < a
          · simp [togO, togH, ha, hb, hbb] at e
          · simp [togO, togH, ha, hb, hbb] at e
            obtain ⟨rfl, rfl⟩ := e
            exact ⟨⟨by omega, fun b z => by cases z; omega⟩, by simp [withinB]⟩
theorem tog_comm : togO a' h' a h = togO a h a' h' := by
  have e1 : (if a > a' then a else a') = (if a' > a then a' else a) := by
    by_cases h1 : a > a'
    · rw [if_pos h1, if_neg (by omega)]
    · by_cases h2 : a' > a
      · rw [if_neg h1, if_pos h2]
      · rw [if_neg h1, if_neg h2]; omega
  have e2 : togH h' h = togH h h' := by
    cases h with
    | none => cases h' <;> rfl
    | some b => cases h' with
      | none => rfl
      | some b' =>
        simp only [togH]
        congr 1
        by_cases h1 : b < b'
        · rw [if_pos h1, if_neg (by omega)]
        · by_cases h2 : b' < b
          · rw [if_neg h1, if_pos h2]
          · rw [if_neg h1, if_neg h2]; omega
  unfold togO
  rw [e1, e2]
theorem least_mem (s : smSp a h) (s' : smSp a' h') : (if a' < a then a' else a) ∈ N40.filter (has a h) ++ N40.filter (has a' h') := by
  rw [List.mem_append]
  split
  · exact .inr (a_mem s')
  · exact .inl (a_mem s)
theorem tog_ALL (o : okSp a h) : togO a h 0 none = some (a, h) := by
  have h0 := o.1
  cases h with
  | none => simp [togO, togH]; omega
  | some b =>
    have := o.2 b rfl
    have e : (if (0 : Int) > a then 0 else a) = a := if_neg (by omega)
    simp only [togO, togH]
    rw [e, if_neg (by omega)]
theorem least_self : sp (if a < a then a else a) (leastH h h) = sp a h := by
  have e1 : (if a < a then a else a) = a := by split <;> rfl
  rw [e1]
  cases h with
  | none => rfl
  | some b => simp [leastH]
theorem within_ALL (o : okSp a h) : withinB a h 0 none = true := by
  have h0 := o.1
  simp [withinB]; exact h0
end
end KF

set_option Elab.async false
set_option linter.all false
set_option maxRecDepth 100000
set_option maxHeartbeats 4000000
namespace KF
open PySem L2 K04
def stAt : Sts → Nat → KF.St
  | .nil, _ => .pass
  | .cons s _, 0 => s
  | .cons _ r, n + 1 => stAt r n
def forBody : KF.St → Sts
  | .for_ _ _ b => b
  | _ => .nil
def bTurn : Sts := forBody (stAt b16 2)
@[simp] theorem le4 : (4 ≤ sizeLine) = True := by rw [sizeLine_eq]; simp
theorem law_has_sp {n : Nat} {x a : Int} {h : Option Int} {S : Store} : C (n+1) 15 [sp a h, .int x] S = .ok (.bl (has a h x)) S := law_has_ok (some (a, h))
section
variable {g : Cfg} {env : Env} {S : Store} {a b : E}
theorem Va.and {x y : Bool} (h : Va g a env S (.bl x)) (k : Va g b env S (.bl y)) : Va g (.and a b) env S (.bl (x && y)) := by
  show (((ev g a env S).bind asB).bind fun x S1 => if x = true then ev g b env S1 else R.ok (D.bl false) S1) = _
  rw [show ev g a env S = _ from h, bind_ok, asB_bl, bind_ok]
  cases x
  · rfl
  · rw [if_pos rfl, show ev g b env S = _ from k]; rfl
theorem Va.or {x y : Bool} (h : Va g a env S (.bl x)) (k : Va g b env S (.bl y)) : Va g (.or a b) env S (.bl (x || y)) := by
  show (((ev g a env S).bind asB).bind fun x S1 => if x = true then R.ok (D.bl true) S1 else ev g b env S1) = _
  rw [show ev g a env S = _ from h, bind_ok, asB_bl, bind_ok]
  cases x
  · rw [if_neg (by simp), show ev g b env S = _ from k]; rfl
  · rfl
theorem Te.nin_no {i : Int} {l : List Int} (h : Va g a env S (.int i)) (k : Va g b env S (.lst (nums l))) (e : i ∈ l) : Te g (.cmp .nin a b) env S false := by
  show (((ev g a env S).bind fun x S1 => (ev g b env S1).bind fun y S2 => lift (dcmp S2 .nin x y) S2)).bind asB = _
  rw [show ev g a env S = _ from h, bind_ok, show ev g b env S = _ from k, bind_ok, dcmp_nin_ints, decide_eq_true e]
  rfl
end
theorem ev_ALL (n : Nat) (env : Env) (S : Store) : ev (cf n) (.g 0) env S = .ok (sp 0 none) S := rfl
theorem glob0 : tx.w.glob 0 = some (sp 0 none) := rfl
theorem okALL : okSp 0 none := ⟨Int.le_refl _, fun b e => by cases e⟩
theorem turn_ok {n : Nat} {l : List Int} {k : Int} (hl : l.length ≤ 63) (e0 e3 e4 e5 e6 e7 e8 e9 e10 e11 e12 e13 e14 e15 e16 e17 e18 : Option D) :
    ∃ (k' : Int) (f4 f5 f6 f10 f11 f12 f13 f14 f15 f16 f17 : Option D), execs (cf (n+4)) bTurn [e0, some (.loc 0), some (.lst (nums N40)), e3, e4, e5, e6, e7, e8, e9, e10, e11, e12, e13, e14, e15, e16, e17, e18] (dr l k) =
      .next [e0, some (.loc 0), some (.lst (nums N40)), e3, f4, f5, f6, e7, e8, e9, f10, f11, f12, f13, f14, f15, f16, f17, e18] (dr l k') := by
  obtain ⟨a, h, k1, s1, hs1⟩ := span_ok (n := n + 1) (l := l) (k := k) hl
  obtain ⟨a', h', k2, s2, hs2⟩ := span_ok (n := n + 1) (l := l) (k := k1) hl
  obtain ⟨c, c0, c9, hc⟩ := take_ok (n := n + 2) (l := l) (k := k2) (m := 9) hl (by decide)
  obtain ⟨m, m0, m4, hm⟩ := take_ok (n := n + 2) (l := l) (k := k2 + 1) (m := 4) hl (by decide)
  have o1 := s1.ok
  have o2 := s2.ok
  have va_nums : ∀ (env : Env) (S : Store), env[2]? = some (some (.lst (nums N40))) → Va (cf (n+4)) (.v 2) env S (.lst (nums N40)) := fun env S e => by show lift ((env[2]?).join) S = _; rw [e]; rfl
  refine ⟨k2 + 1 + 1, some (.lst (nums (N40.filter (has a h)))), some (.lst (nums (N40.filter (has a' h')))), some (sp (if c < a then c else a) (capH h c)), some (sp a h), some (sp a' h'), some (.int c), some (.int m), some (oD (belowO a h c)), some (oD (fromO a h c)), some (oD (togO a h a' h')), some (sp (if a' < a then a' else a) (leastH h h')), ?_⟩
  -- one, other, cut, more
  refine (execs_cons _ _ _ _ _).trans (then_of (env := [e0, some (.loc 0), some (.lst (nums N40)), e3, e4, e5, e6, e7, e8, e9, some (sp a h), some (sp a' h'), some (.int c), some (.int m), e14, e15, e16, e17, e18]) (S := dr l (k2 + 1 + 1)) ?_ ?_)
  · simp [exec, ev, evs, hs1, hs2, hc, hm]
  generalize dr l (k2 + 1 + 1) = S
  -- mine
  refine (execs_cons _ _ _ _ _).trans (then_of (env := [e0, some (.loc 0), some (.lst (nums N40)), e3, some (.lst (nums (N40.filter (has a h)))), e5, e6, e7, e8, e9, some (sp a h), some (sp a' h'), some (.int c), some (.int m), e14, e15, e16, e17, e18]) (S := S) ?_ ?_)
  · have q : Va (cf (n+4)) (.lc true (.v 18) (.n 18) (.val (.v 2)) (.one (.call 15 (.cons (.v 10) (.cons (.v 18) .nil))))) [e0, some (.loc 0), some (.lst (nums N40)), e3, e4, e5, e6, e7, e8, e9, some (sp a h), some (sp a' h'), some (.int c), some (.int m), e14, e15, e16, e17, e18] S (.lst (nums (N40.filter (has a h)))) :=
      va_filter (va_nums _ _ rfl) (by simp) (by rw [N40_len]; decide) fun x hx => by simp [Te, ev, evs, law_has_sp]
    unfold Va at q
    simp only [exec, q, st_ok, asg_n]
    simp
  -- theirs
  refine (execs_cons _ _ _ _ _).trans (then_of (env := [e0, some (.loc 0), some (.lst (nums N40)), e3, some (.lst (nums (N40.filter (has a h)))), some (.lst (nums (N40.filter (has a' h')))), e6, e7, e8, e9, some (sp a h), some (sp a' h'), some (.int c), some (.int m), e14, e15, e16, e17, e18]) (S := S) ?_ ?_)
  · have q : Va (cf (n+4)) (.lc true (.v 18) (.n 18) (.val (.v 2)) (.one (.call 15 (.cons (.v 11) (.cons (.v 18) .nil))))) [e0, some (.loc 0), some (.lst (nums N40)), e3, some (.lst (nums (N40.filter (has a h)))), e5, e6, e7, e8, e9, some (sp a h), some (sp a' h'), some (.int c), some (.int m), e14, e15, e16, e17, e18] S (.lst (nums (N40.filter (has a' h')))) :=
      va_filter (va_nums _ _ rfl) (by simp) (by rw [N40_len]; decide) fun x hx => by simp [Te, ev, evs, law_has_sp]
    unfold Va at q
    simp only [exec, q, st_ok, asg_n]
    simp
  -- is_in
  refine (execs_cons _ _ _ _ _).trans (then_of (ifs_no (Te.ne_no (va_filter (p := has a h) (va_nums _ _ rfl) (by simp) (by rw [N40_len]; decide) fun x hx => ?_) (y := .lst (nums (N40.filter (has a h)))) (by rfl) (deq_nums _ _ rfl))) ?_)
  · simp [Te, ev, evs, is_in_ok o1 (N40_mem.mp hx).1]
  -- low, high
  refine (execs_cons _ _ _ _ _).trans (then_of (env := [e0, some (.loc 0), some (.lst (nums N40)), e3, some (.lst (nums (N40.filter (has a h)))), some (.lst (nums (N40.filter (has a' h')))), e6, e7, e8, e9, some (sp a h), some (sp a' h'), some (.int c), some (.int m), some (oD (belowO a h c)), some (oD (fromO a h c)), e16, e17, e18]) (S := S) ?_ ?_)
  · simp [exec, ev, evs, below_ok o1 c0, from_ok o1 c0]
  have va4 : ∀ (env : Env) (S : Store), env[4]? = some (some (.lst (nums (N40.filter (has a h))))) → Va (cf (n+4)) (.v 4) env S (.lst (nums (N40.filter (has a h)))) := fun env S e => by show lift ((env[4]?).join) S = _; rw [e]; rfl
  have va5 : ∀ (env : Env) (S : Store), env[5]? = some (some (.lst (nums (N40.filter (has a' h'))))) → Va (cf (n+4)) (.v 5) env S (.lst (nums (N40.filter (has a' h')))) := fun env S e => by show lift ((env[5]?).join) S = _; rw [e]; rfl
  have len1 := mine_len (has a h)
  have len2 := mine_len (has a' h')
  -- low's numbers
  refine (execs_cons _ _ _ _ _).trans (then_of (ifs_no (Te.ne_no (va_filter (p := hasO (belowO a h c)) (va_nums _ _ rfl) (by simp) (by rw [N40_len]; decide) fun x hx => ?_) (va_filter (p := fun x => decide (x < c)) (va4 _ _ rfl) (by simp) (by omega) fun x hx => ?_) (deq_nums _ _ (fil_fil fun x _ _ => low_fact)))) ?_)
  · simp [Te, ev, evs, law_has_ok]
  · simp [Te, ev, evs]
  refine (execs_cons _ _ _ _ _).trans (then_of (ifs_no (Te.ne_no (va_filter (p := hasO (fromO a h c)) (va_nums _ _ rfl) (by simp) (by rw [N40_len]; decide) fun x hx => ?_) (va_filter (p := fun x => decide (c ≤ x)) (va4 _ _ rfl) (by simp) (by omega) fun x hx => ?_) (deq_nums _ _ (fil_fil fun x _ _ => high_fact)))) ?_)
  · simp [Te, ev, evs, law_has_ok]
  · simp [Te, ev, evs]
  -- told
  refine (execs_cons _ _ _ _ _).trans (then_of (ifs_no (Te.or_no (Te.ne_no (x := .bl (belowO a h c).isNone) ?_ (va_all (va_bools (p := fun x => decide (c ≤ x)) (va4 _ _ rfl) (by simp) (by omega) fun x hx => ?_)) ?_) (Te.ne_no (x := toldD a h c) (y := toldD a h c) ?_ ?_ deq_told))) ?_)
  · simp [Va, ev]
  · simp [Va, ev]
  · rw [deq_bl, all_fact s1, beq_self_eq_true]
  · simp [Va, ev, evs, told_ok o1 c0]
  · rw [told_fact o1]
    cases h1 : (fromO a h c).isNone <;> cases h2 : (belowO a h c).isNone <;> simp [Va, ev, h1, h2]
  -- added
  refine (execs_cons _ _ _ _ _).trans (then_of (ifs_no (Te.ne_no (va_filter (p := has (a + m) (h.map (· + m))) (va_nums _ _ rfl) (by simp) (by rw [N40_len]; decide) fun x hx => ?_) (va_filter (p := fun x => decide (x - m ∈ N40.filter (has a h))) (va_nums _ _ rfl) (by simp) (by rw [N40_len]; decide) fun x hx => ?_) (deq_nums _ _ (add_fact o1 m0)))) ?_)
  · simp [Te, ev, evs, added_ok o1 m0, law_has_sp]
  · simp only [Te, ev]
    simp
  -- top
  refine (execs_cons _ _ _ _ _).trans (then_of (env := [e0, some (.loc 0), some (.lst (nums N40)), e3, some (.lst (nums (N40.filter (has a h)))), some (.lst (nums (N40.filter (has a' h')))), some (sp (if c < a then c else a) (capH h c)), e7, e8, e9, some (sp a h), some (sp a' h'), some (.int c), some (.int m), some (oD (belowO a h c)), some (oD (fromO a h c)), e16, e17, e18]) (S := S) ?_ ?_)
  · simp [exec, ev, evs, capped_ok o1 c0]
  have o3 := cap_okSp o1 c0
  refine (execs_cons _ _ _ _ _).trans (then_of (ifs_no (Te.or_no (Te.ne_no (x := sp (if c < a then c else a) (capH h c)) (y := sp (if c < a then c else a) (capH h c)) ?_ ?_ (deq_sp _ _)) (Te.ne_no (x := sp (if c < a then c else a) (capH h c)) (y := sp (if c < a then c else a) (capH h c)) ?_ ?_ (deq_sp _ _)))) ?_)
  · simp [Va, ev, evs]
  · cases h with
    | none => simp [Va, ev, evs, capH]; rfl
    | some b =>
      by_cases hb : b < c
      · simp [Va, ev, evs, capH, hb]; rfl
      · simp [Va, ev, evs, capH, hb]; rfl
  · have q := capped_ok (n := n + 1) (S := S) o3 c0
    rw [cap_idem] at q
    simp [Va, ev, evs, q]
  · simp [Va, ev]
  refine (execs_cons _ _ _ _ _).trans (then_of (ifs_no (Te.or_no (Te.not_no ?_) ?_)) ?_)
  · have q := va_all (g := cf (n+4)) (va_bools (i := 18) (S := S) (env := [e0, some (.loc 0), some (.lst (nums N40)), e3, some (.lst (nums (N40.filter (has a h)))), some (.lst (nums (N40.filter (has a' h')))), some (sp (if c < a then c else a) (capH h c)), e7, e8, e9, some (sp a h), some (sp a' h'), some (.int c), some (.int m), some (oD (belowO a h c)), some (oD (fromO a h c)), e16, e17, e18])
      (elt := .cmp .ge (.bi .min (.cons (.v 18) (.cons (.v 12) .nil))) (.ix (.v 6) (.ki 0))) (p := fun x => decide ((if c < a then c else a) ≤ (if c < x then c else x))) (va4 _ _ rfl) (by simp) (by omega) fun x hx => by simp [Va, ev, evs])
    rw [cap_all] at q
    exact q.te
  · have q := va_any (g := cf (n+4)) (va_bools (i := 18) (S := S) (env := [e0, some (.loc 0), some (.lst (nums N40)), e3, some (.lst (nums (N40.filter (has a h)))), some (.lst (nums (N40.filter (has a' h')))), some (sp (if c < a then c else a) (capH h c)), e7, e8, e9, some (sp a h), some (sp a' h'), some (.int c), some (.int m), some (oD (belowO a h c)), some (oD (fromO a h c)), e16, e17, e18])
      (elt := .and (.cmp .lt (.v 18) (.v 12)) (.not (.call 15 (.cons (.v 6) (.cons (.v 18) .nil))))) (p := fun x => decide (x < c) && !has (if c < a then c else a) (capH h c) x) (va4 _ _ rfl) (by simp) (by omega) fun x hx => by
        by_cases hxc : x < c
        · simp [Va, ev, evs, law_has_sp, hxc]
        · simp [Va, ev, evs, law_has_sp, hxc])
    rw [cap_any] at q
    exact q.te
  -- both, least
  have o4 := least_okSp o1 o2
  refine (execs_cons _ _ _ _ _).trans (then_of (env := [e0, some (.loc 0), some (.lst (nums N40)), e3, some (.lst (nums (N40.filter (has a h)))), some (.lst (nums (N40.filter (has a' h')))), some (sp (if c < a then c else a) (capH h c)), e7, e8, e9, some (sp a h), some (sp a' h'), some (.int c), some (.int m), some (oD (belowO a h c)), some (oD (fromO a h c)), some (oD (togO a h a' h')), some (sp (if a' < a then a' else a) (leastH h h')), e18]) (S := S) ?_ ?_)
  · simp [exec, ev, evs, tog_ok o1 o2, least_ok o1 o2]
  refine (execs_cons _ _ _ _ _).trans (then_of (ifs_no (Te.ne_no (va_filter (p := hasO (togO a h a' h')) (va_nums _ _ rfl) (by simp) (by rw [N40_len]; decide) fun x hx => ?_) (va_filter (p := fun x => decide (x ∈ N40.filter (has a' h'))) (va4 _ _ rfl) (by simp) (by omega) fun x hx => ?_) (deq_nums _ _ tog_fact))) ?_)
  · simp [Te, ev, evs, law_has_ok]
  · simp only [Te, ev]
    simp
  refine (execs_cons _ _ _ _ _).trans (then_of (ifs_no (Te.or_no (Te.not_no ?_) (Te.or_no (Te.not_no ?_) (Te.not_no ?_)))) ?_)
  · have q := va_all (g := cf (n+4)) (va_bools (i := 18) (S := S) (env := [e0, some (.loc 0), some (.lst (nums N40)), e3, some (.lst (nums (N40.filter (has a h)))), some (.lst (nums (N40.filter (has a' h')))), some (sp (if c < a then c else a) (capH h c)), e7, e8, e9, some (sp a h), some (sp a' h'), some (.int c), some (.int m), some (oD (belowO a h c)), some (oD (fromO a h c)), some (oD (togO a h a' h')), some (sp (if a' < a then a' else a) (leastH h h')), e18])
      (elt := .call 15 (.cons (.v 17) (.cons (.v 18) .nil))) (p := fun x => has (if a' < a then a' else a) (leastH h h') x) (va_cat (va4 _ _ rfl) (va5 _ _ rfl) (by omega)) (by simp) (by rw [List.length_append]; omega) fun x hx => by simp [Va, ev, evs, law_has_sp])
    rw [least_all] at q
    exact q.te
  · simp [Te, ev, evs, within_ok o1 o4, within_least1]
  · simp [Te, ev, evs, within_ok o2 o4, within_least2]
  -- is_within
  refine (execs_cons _ _ _ _ _).trans (then_of (ifs_no (Te.ne_no (x := .bl (withinB a h a' h')) (y := .bl (withinB a h a' h')) ?_ ?_ (by rw [deq_bl, beq_self_eq_true]))) ?_)
  · simp [Va, ev, evs, within_ok o1 o2]
  · have q := va_all (g := cf (n+4)) (va_bools (i := 18) (S := S) (env := [e0, some (.loc 0), some (.lst (nums N40)), e3, some (.lst (nums (N40.filter (has a h)))), some (.lst (nums (N40.filter (has a' h')))), some (sp (if c < a then c else a) (capH h c)), e7, e8, e9, some (sp a h), some (sp a' h'), some (.int c), some (.int m), some (oD (belowO a h c)), some (oD (fromO a h c)), some (oD (togO a h a' h')), some (sp (if a' < a then a' else a) (leastH h h')), e18])
      (elt := .cmp .inn (.v 18) (.v 5)) (p := fun x => decide (x ∈ N40.filter (has a' h'))) (va4 _ _ rfl) (by simp) (by omega) fun x hx => by
        simp only [Va, ev]
        simp)
    rw [within_fact s1 s2]
    refine Va.and q ?_
    refine Va.or ?_ ?_
    · cases h <;> simp [Va, ev]
    · cases h' <;> simp [Va, ev]
  -- both again
  refine (execs_cons _ _ _ _ _).trans (then_of (ifs_no (Te.or_no ?_ (Te.or_no (Te.ne_no (x := oD (togO a h a' h')) (y := oD (togO a h a' h')) ?_ ?_ (deq_oD _)) (Te.ne_no (x := sp (if a' < a then a' else a) (leastH h h')) (y := sp (if a' < a then a' else a) (leastH h h')) ?_ ?_ (deq_sp _ _))))) ?_)
  · cases e : togO a h a' h' with
    | none => exact Te.and_no (by simp [Te, ev])
    | some pq =>
      obtain ⟨p, q⟩ := pq
      obtain ⟨o5, w5⟩ := tog_some o1 o2 e
      exact Te.and_yes (by simp [Te, ev]) (Te.not_no (by simp [Te, ev, evs, within_ok o5 o1, w5]))
  · have q := tog_ok (n := n + 1) (S := S) o2 o1
    rw [tog_comm] at q
    simp [Va, ev, evs, q]
  · simp [Va, ev]
  · have q := least_ok (n := n + 1) (S := S) o2 o1
    rw [least_comm] at q
    simp [Va, ev, evs, q]
  · simp [Va, ev]
  -- the last
  refine (execs_cons _ _ _ _ _).trans (then_of (ifs_no (Te.or_no (Te.nin_no (i := if a' < a then a' else a) ?_ (va_cat (va4 _ _ rfl) (va5 _ _ rfl) (by omega)) (least_mem s1 s2)) (Te.or_no (Te.ne_no (x := sp a h) (y := sp a h) ?_ ?_ (deq_sp _ _)) (Te.or_no (Te.ne_no (x := sp a h) (y := sp a h) ?_ ?_ (deq_sp _ _)) (Te.not_no ?_))))) ?_)
  · simp [Va, ev]
  · have q := tog_ok (n := n + 1) (S := S) o1 okALL
    rw [tog_ALL o1] at q
    simp [Va, ev, evs, glob0, q]
  · simp [Va, ev]
  · have q := least_ok (n := n + 1) (S := S) o1 o1
    rw [least_self] at q
    simp [Va, ev, evs, q]
  · simp [Va, ev]
  · have q := within_ok (n := n + 1) (S := S) o1 okALL
    rw [within_ALL o1] at q
    simp [Te, ev, evs, glob0, q]
  rfl
end KF

set_option Elab.async false
set_option linter.all false
set_option maxRecDepth 100000
set_option maxHeartbeats 4000000
namespace KF
open PySem L2 K04
/-- the loop of the law -/
theorem turns_ok {n : Nat} {l : List Int} (hl : l.length ≤ 63) : ∀ (ts : List Int) (k : Int) (e0 e3 e4 e5 e6 e7 e8 e9 e10 e11 e12 e13 e14 e15 e16 e17 e18 : Option D),
    ∃ (k' : Int) (f3 f4 f5 f6 f10 f11 f12 f13 f14 f15 f16 f17 : Option D), forL (fun x env S => match asg (.n 3) x env with
      | some env' => execs (cf (n+4)) bTurn env' S
      | none => .bad) (nums ts) [e0, some (.loc 0), some (.lst (nums N40)), e3, e4, e5, e6, e7, e8, e9, e10, e11, e12, e13, e14, e15, e16, e17, e18] (dr l k) =
      .next [e0, some (.loc 0), some (.lst (nums N40)), f3, f4, f5, f6, e7, e8, e9, f10, f11, f12, f13, f14, f15, f16, f17, e18] (dr l k')
  | [], k, e0, e3, e4, e5, e6, e7, e8, e9, e10, e11, e12, e13, e14, e15, e16, e17, e18 => ⟨k, e3, e4, e5, e6, e10, e11, e12, e13, e14, e15, e16, e17, rfl⟩
  | t :: ts, k, e0, e3, e4, e5, e6, e7, e8, e9, e10, e11, e12, e13, e14, e15, e16, e17, e18 => by
    obtain ⟨k1, f4, f5, f6, f10, f11, f12, f13, f14, f15, f16, f17, h1⟩ := turn_ok (n := n) (k := k) hl e0 (some (.int t)) e4 e5 e6 e7 e8 e9 e10 e11 e12 e13 e14 e15 e16 e17 e18
    obtain ⟨k2, g3, g4, g5, g6, g10, g11, g12, g13, g14, g15, g16, g17, h2⟩ := turns_ok (n := n) hl ts k1 e0 (some (.int t)) f4 f5 f6 e7 e8 e9 f10 f11 f12 f13 f14 f15 f16 f17 e18
    refine ⟨k2, g3, g4, g5, g6, g10, g11, g12, g13, g14, g15, g16, g17, ?_⟩
    rw [← h2]
    unfold nums
    rw [List.map_cons, forL_cons]
    have e : (match asg (.n 3) (.int t) [e0, some (.loc 0), some (.lst (nums N40)), e3, e4, e5, e6, e7, e8, e9, e10, e11, e12, e13, e14, e15, e16, e17, e18] with
      | some env' => execs (cf (n+4)) bTurn env' (dr l k)
      | none => .bad) = .next [e0, some (.loc 0), some (.lst (nums N40)), some (.int t), f4, f5, f6, e7, e8, e9, f10, f11, f12, f13, f14, f15, f16, f17, e18] (dr l k1) := by
      rw [← h1]; rfl
    unfold nums at e
    rw [e]; rfl
theorem rngD_N40 : rngD 40 = nums N40 := by unfold rngD nums N40; rw [List.map_map]; rfl
theorem b16_eq : b16 = .cons (stAt b16 0) (.cons (stAt b16 1) (.cons (.for_ (.n 3) (.rng (.ki 8)) bTurn) (.cons (stAt b16 3) (.cons (stAt b16 4) .nil)))) := by kernel_rfl
section
variable (n : Nat) (s f3 f4 f5 f6 f10 f11 f12 f13 f14 f15 f16 f17 : Option D) (S : Store)
theorem deeds_ok : ∃ f7 f8 f9, exec (cf 9) (stAt b16 3) [s, some (.loc 0), some (.lst (nums N40)), f3, f4, f5, f6, none, none, none, f10, f11, f12, f13, f14, f15, f16, f17, none] S = .next [s, some (.loc 0), some (.lst (nums N40)), f3, f4, f5, f6, f7, f8, f9, f10, f11, f12, f13, f14, f15, f16, f17, none] S :=
  ⟨none, some (.int 5), none, by kernel_rfl⟩
theorem end_ok (env : Env) : exec (cf 9) (stAt b16 4) env S = .ret (.bl true) S := by kernel_rfl
end
theorem law_ok (ns : List Int) (hl : ns.length ≤ 63) : ∃ S, C 10 16 [.lst (nums ns)] [] = .ok (.bl true) S := by
  obtain ⟨k', f3, f4, f5, f6, f10, f11, f12, f13, f14, f15, f16, f17, h⟩ := turns_ok (n := 5) hl ((List.range 8).map fun (i : Nat) => (0 + (i : Int))) 0 (some (.lst (nums ns))) none none none none none none none none none none none none none none none none
  obtain ⟨f7, f8, f9, hd⟩ := deeds_ok (some (.lst (nums ns))) f3 f4 f5 f6 f10 f11 f12 f13 f14 f15 f16 f17 (dr ns k')
  refine ⟨dr ns k', ?_⟩
  have e0 : exec (cf 9) (stAt b16 0) [some (.lst (nums ns)), none, none, none, none, none, none, none, none, none, none, none, none, none, none, none, none, none, none] [] = .next [some (.lst (nums ns)), some (.loc 0), none, none, none, none, none, none, none, none, none, none, none, none, none, none, none, none, none] (dr ns 0) := by kernel_rfl
  have e1 : exec (cf 9) (stAt b16 1) [some (.lst (nums ns)), some (.loc 0), none, none, none, none, none, none, none, none, none, none, none, none, none, none, none, none, none] (dr ns 0) = .next [some (.lst (nums ns)), some (.loc 0), some (.lst (rngD 40)), none, none, none, none, none, none, none, none, none, none, none, none, none, none, none, none] (dr ns 0) := by kernel_rfl
  rw [rngD_N40] at e1
  have e2 : exec (cf 9) (.for_ (.n 3) (.rng (.ki 8)) bTurn) [some (.lst (nums ns)), some (.loc 0), some (.lst (nums N40)), none, none, none, none, none, none, none, none, none, none, none, none, none, none, none, none] (dr ns 0) =
      .next [some (.lst (nums ns)), some (.loc 0), some (.lst (nums N40)), f3, f4, f5, f6, none, none, none, f10, f11, f12, f13, f14, f15, f16, f17, none] (dr ns k') := by
    have hr : rngIt (.int 8) (dr ns 0) = .ok (nums ((List.range 8).map fun (i : Nat) => (0 + (i : Int)))) (dr ns 0) := rngIt_ok (n := 8) (S := dr ns 0) (by decide) (by decide)
    refine Eq.trans ?_ h
    simp only [exec, evI, ev, bind_ok, hr, st_ok]
    all_goals rfl
  have e : C 10 16 [.lst (nums ns)] [] = endR (execs (cf 9) b16 [some (.lst (nums ns)), none, none, none, none, none, none, none, none, none, none, none, none, none, none, none, none, none, none] []) := by kernel_rfl
  rw [e, b16_eq, execs_cons, e0, then_next, execs_cons, e1, then_next, execs_cons, e2, then_next, execs_cons, hd, then_next, execs_cons, end_ok, then_ret, endR_ret]
end KF

set_option Elab.async false
set_option linter.all false
set_option maxRecDepth 100000
set_option maxHeartbeats 0
namespace K04
open PySem PySem.Spec PyProof.Rows L2 LamX KF
abbrev RR : PySem.W.OpenRow := PySem.W.OpenLaw.row PySem.Challenge.rw_knownfirst_k04_whole_spans
abbrev hk : PySem.W.Hook := He.hookX 5 (faAll tx) (fnAll tx) [] (tf.map fun x => (x, none)) (exAll tx tf)
def ob (s : PySem.W.SharedT) : He.AlX := He.obsX 5 (faAll tx) (fnAll tx) [] (tf.map fun x => (x, none)) (exAll tx tf) (HandSHeadRun.getT s)
theorem ob_eq (s : PySem.W.SharedT) : ob s = hk.obs s.abs := He.obsX_eq (HandSHeadRun.getT_eq s)
def loose : List Str := ["FirstError", "BadName", "is_row", "is_number", "ALL", "check_span", "is_in", "below", "from_on", "told", "added", "capped", "is_within", "together", "least_span", "_law_number", "_law_take", "_law_span", "_law_has"]
theorem run (w : World) : HandSHeadRun.RunEq RR (PySem.W.view RR.prog [23]) hk ob 3000 loose w := by
  intro os
  kernel_rfl
theorem says : LawSays tx 16 10 := fun ns hl _ => law_ok ns hl
end K04
open PySem PySem.W PySem.Calls PyProof.Rows
theorem PySem.Challenge.cw_knownfirst_k04_whole_spans_holds : PySem.Challenge.rw_knownfirst_k04_whole_spans.Holds := by
  w_on; o_law
  refine HandSHeadRun.head_any (r := OpenLaw.row PySem.Challenge.rw_knownfirst_k04_whole_spans) (q := view (OpenLaw.row PySem.Challenge.rw_knownfirst_k04_whole_spans).prog [23]) (H := K04.hk) (ob := K04.ob) (M := 3000) (loose := K04.loose) (d := HandSHeadRun.topDef (OpenLaw.row PySem.Challenge.rw_knownfirst_k04_whole_spans).prog 23) (kwd := []) K04.ob_eq
    (by kernel_rfl) (fun s => by kernel_rfl) K04.run (by kernel_rfl) (by kernel_rfl) (by kernel_rfl) (by rfl) (by first | assumption | decide +kernel) (by decide +kernel) ⟨rfl, rfl, rfl, rfl, rfl, by decide +kernel⟩ ?hw ?hc
  case hw => w_witness2
  case hc =>
    refine LamX.walk_ofTsE (l := PySem.Challenge.rw_knownfirst_k04_whole_spans) (n := 63) (k := 21) (x := "script") (CX := fun w => L2.CX (PySem.Challenge.rw_knownfirst_k04_whole_spans).prog w) rfl (by decide) (by kernel_rfl) ⟨rfl, by decide, by decide⟩ ?F (fun _ _ _ _ _ h => by
      obtain ⟨_, _, _, _, _, _, _, _, _, _, _, _, z⟩ := h
      exact z.elim)
    intro w mg fa h Y G hmg0
    have hmg : mg ("law" : PySem.Str) = some (.ref fa) := by
      have e : (HandSHeadRun.topDef (OpenLaw.row PySem.Challenge.rw_knownfirst_k04_whole_spans).prog 23).name = ("law" : PySem.Str) := by kernel_rfl
      rw [← e]
      exact hmg0
    exact KF.law_at (t := K04.tx) (tf := K04.tf) (f := 16) (k := 10) (d := (K04.d16, K04.top 23)) rfl rfl rfl rfl K04.all K04.ini (by decide +kernel) K04.says Y G hmg

