import PyProof.Rows.All
import Wide.All
import OpenK.AllK
import Wide.FinOn
import HandS.ForMost
import HandS.ForExc
import HandS.IsInst
import HandS.ExcInit
import HandS.ExcField
import HandS.Lambda
import HandS.Conv
import HandS.TupAny
import HandS.Style
import HandS.Text
import HandS.DictEq
import HandS.Dict
import HandS.More
import HandS.OwnEq
import HandS.RaiseMore
import HandS.SortInts
import PyProof.CollectStr
import HandS.SlotsOwn
import HandS.Star
import HandS.Iter
import HandS.DictComp
import HandS.Small
import HandS.Call
import HandS.Defaults
import HandS.Head0
import HandS.Head1
import HandS.Head2
import HandS.HeadEnd
import HandS.HeadHook1
import HandS.HeadHook2
import HandS.HeadHook3
import HandS.HeadHook4
import HandS.EndTab
import HandS.HeadWalk
import PySem.Challenge.RW_knownfirst_k22_like_things
set_option Elab.async false
set_option linter.all false
set_option maxRecDepth 100000
set_option maxHeartbeats 4000000
/-! V1: pure values, stores, how they stand in the hand layer's heap (lists, dicts, instances) -/
namespace KF
open PySem PySem.Spec PyProof.Rows L2

/-- a value: tuples and lists that never change again as they are; loc: an object that may change -/
inductive D where
  | non | bl (b : Bool) | int (i : Int) | str (x : Str) | tup (xs : List D) | lst (xs : List D) | loc (n : Nat)
  | dic (t : Bool) (ks vs : List D) | ins (c : Nat) (fs : List D)
/-- an object that may change: a list, a dict (t: its keys are tuples), an instance (a field may lack as yet) -/
inductive Ob where
  | lst (xs : List D) | dic (t : Bool) (ks vs : List D) | ins (c : Nat) (fs : List (Option D)) | lck (t : Bool) (ks vs : List D) | lkl (xs : List D)
abbrev Store := List Ob
/-- where the text's things stand: errors' classes and their fields, tables of code objects, classes and their fields -/
structure Lk where
  K : PySem.W.Frag
  ea : Nat → Addr
  ef : Nat → List Str
  T : List (Addr × Str)
  ca : Nat → Addr
  cf : Nat → List Str
def mapO {α β : Type} (f : α → Option β) : List α → Option (List β)
  | [] => some []
  | x :: xs => match f x, mapO f xs with
    | some y, some ys => some (y :: ys)
    | _, _ => none
def fkey : D → Option Key
  | .int i => some (.inl i)
  | .str x => some (.inr x)
  | _ => none
def tkey : D → Option (List Key)
  | .tup ds => mapO fkey ds
  | _ => none
inductive R (α : Type) where
  | ok (a : α) (S : Store) | exc (c : Nat) (fs : List D) (S : Store) | bad
def R.bind {α β : Type} (r : R α) (f : α → Store → R β) : R β := match r with
  | .ok a S => f a S
  | .exc c fs S => .exc c fs S
  | .bad => .bad
abbrev Env := List (Option D)
/-- where the changing objects stand; what is under way -/
structure Mp where
  locs : List Addr
  pr : List Addr
  T : List (Addr × Str)
/-- no table, nothing that is told by itself -/
def Pl (o : HO) : Prop := (∀ ps, o ≠ .tbl ps) ∧ ∀ p, o ≠ .ext p
def nofrz : HO → Bool
  | .frz _ _ => false
  | _ => true
theorem Pl.lst {vs : List V} : Pl (.lst vs) := ⟨fun _ z => (nomatch z), fun _ z => (nomatch z)⟩

section
variable (L : Lk)
def KTup (K : PySem.W.Frag) (a : Addr) (xs : List V) : Prop := ∃ (o : Obj) (its : Array Value) (n : Nat), K.lookup a = some o ∧ o.cls = .type "tuple" ∧ o.data = .seq its n ∧ its.size ≤ sizeLine ∧ Vals xs its.toList
def LstA (H : Hp) (m : Mp) (a : Addr) (xs : List V) : Prop := a ∉ m.locs ∧ a ∉ m.pr ∧ Rd H a (.lst xs)
def TupA (K : PySem.W.Frag) (H : Hp) (m : Mp) (a : Addr) (xs : List V) : Prop := (a ∉ m.locs ∧ a ∉ m.pr ∧ Rd H a (.tup xs)) ∨ KTup K a xs
/-- a dict's content -/
def DicU (u : HO) (t : Bool) (ks : List D) (us : List V) : Prop := match t with
  | false => ∃ kvs : List (Key × V), u = .dK kvs ∧ mapO fkey ks = some (kvs.map (·.1)) ∧ us = kvs.map (·.2)
  | true => ∃ kvs : List (List Key × V), u = .dT kvs ∧ mapO tkey ks = some (kvs.map (·.1)) ∧ us = kvs.map (·.2)
/-- the dict at a, to be read -/
def DicR (H : Hp) (t : Bool) (a : Addr) (ks : List D) (us : List V) : Prop := ∃ u, Rd H a u ∧ DicU u t ks us
/-- the dict at a, locked for good -/
def DicH (H : Hp) (t : Bool) (a : Addr) (ks : List D) (us : List V) : Prop := ∃ o u, H a = some (.frz o u) ∧ DicU u t ks us
/-- the instance at a: each field's value, if any; nothing else -/
def InsH (L : Lk) (H : Hp) (c : Nat) (a : Addr) (us : List (Option V)) : Prop := ∃ dx as, H a = some (.ins (L.ca c) dx as) ∧ us.length = (L.cf c).length ∧ (∀ (i : Nat) (f : Str), (L.cf c)[i]? = some f → as.lookup f = (us[i]?).join) ∧ (∀ f, f ∉ L.cf c → as.lookup f = none) ∧ (as.map (·.1)).Nodup
theorem LstA.sq {K : PySem.W.Frag} {H : Hp} {m : Mp} {a : Addr} {xs : List V} (h : LstA H m a xs) : SqL K H a xs := .inl h.2.2
theorem TupA.sq {K : PySem.W.Frag} {H : Hp} {m : Mp} {a : Addr} {xs : List V} (h : TupA K H m a xs) : SqT K H a xs := by
  rcases h with ⟨_, _, h⟩ | h
  · exact .inl h
  · exact .inr h
mutual
def RelD (H : Hp) (m : Mp) : D → V → Prop
  | .non, v => v = .non
  | .bl b, v => v = .bl b
  | .int i, v => v = .int i
  | .str x, v => v = .str x
  | .tup xs, v => ∃ a vs, v = .ref a ∧ TupA L.K H m a vs ∧ RelDs H m xs vs
  | .lst xs, v => ∃ a vs, v = .ref a ∧ LstA H m a vs ∧ RelDs H m xs vs
  | .loc n, v => ∃ a, v = .ref a ∧ m.locs[n]? = some a
  | .dic t ks vs, v => ∃ a us, v = .ref a ∧ a ∉ m.locs ∧ a ∉ m.pr ∧ DicH H t a ks us ∧ RelDs H m vs us
  | .ins c fs, v => ∃ a us, v = .ref a ∧ a ∉ m.locs ∧ a ∉ m.pr ∧ InsH L H c a (us.map some) ∧ RelDs H m fs us
def RelDs (H : Hp) (m : Mp) : List D → List V → Prop
  | [], vs => vs = []
  | x :: xs, vs => ∃ v r, vs = v :: r ∧ RelD H m x v ∧ RelDs H m xs r
end
/-- fields, each if any -/
def RelF (H : Hp) (m : Mp) : List (Option D) → List (Option V) → Prop
  | [], us => us = []
  | none :: r, us => ∃ s, us = none :: s ∧ RelF H m r s
  | some d :: r, us => ∃ v s, us = some v :: s ∧ RelD L H m d v ∧ RelF H m r s
def RelO (H : Hp) (m : Mp) (a : Addr) : Ob → Prop
  | .lst xs => ∃ vs, H a = some (.lst vs) ∧ RelDs L H m xs vs
  | .dic t ks vs => ∃ u us, H a = some u ∧ DicU u t ks us ∧ RelDs L H m vs us
  | .lck t ks vs => ∃ o u us, H a = some (.frz o u) ∧ DicU u t ks us ∧ RelDs L H m vs us
  | .lkl xs => ∃ o vs, H a = some (.frz o (.lst vs)) ∧ RelDs L H m xs vs
  | .ins c fs => ∃ us, InsH L H c a us ∧ RelF L H m fs us
structure RelS (H : Hp) (m : Mp) (S : Store) : Prop where
  len : m.locs.length = S.length
  nd : m.locs.Nodup
  dis : ∀ a ∈ m.locs, a ∉ m.pr
  prs : ∀ a ∈ m.pr, ∃ o, H a = some o ∧ Pl o
  tabs : LamX.Tabs m.T H
  at_ : ∀ (n : Nat) (o : Ob), S[n]? = some o → ∃ a, m.locs[n]? = some a ∧ RelO L H m a o
/-- what stood outside the changing objects stands; the map grew -/
structure Mono (H : Hp) (m : Mp) (H' : Hp) (m' : Mp) : Prop where
  keep : ∀ a o, H a = some o → a ∉ m.locs → a ∉ m.pr → (∀ ps, o ≠ .tbl ps) → H' a = some o
  pre : m.locs <+: m'.locs
  newl : ∀ a ∈ m'.locs, a ∈ m.locs ∨ a ∈ m.pr ∨ H a = none
  newp : ∀ a ∈ m'.pr, a ∈ m.pr ∨ H a = none
  T : m'.T = m.T
structure Ext (H : Hp) (m : Mp) (H' : Hp) (m' : Mp) : Prop where
  keep : ∀ a o, H a = some o → a ∉ m.locs → (∀ ps, o ≠ .tbl ps) → H' a = some o
  tbl : ∀ a ps, H a = some (.tbl ps) → ∃ qs, H' a = some (.tbl qs)
  pre : m.locs <+: m'.locs
  newl : ∀ a ∈ m'.locs, a ∈ m.locs ∨ H a = none
  pr : m'.pr = m.pr
  T : m'.T = m.T
  frz : ∀ a o u, H a = some (.frz o u) → H' a = some (.frz o u)
end
/-- it isn't locked -/
def NF (H : Hp) (a : Addr) : Prop := ∀ o u, H a ≠ some (.frz o u)
theorem nf_of {H : Hp} {a : Addr} {o : HO} (h : H a = some o) (hn : nofrz o = true) : NF H a := fun o' u z => by
  rw [h] at z
  cases z
  cases hn
theorem frz_upd {H : Hp} {p : Addr} {o : HO} (hf : NF H p) : ∀ a o' u, H a = some (.frz o' u) → upd H p o a = some (.frz o' u) := fun a o' u h => by
  rw [upd_ne (fun z => hf o' u (by rw [← z]; exact h))]; exact h
theorem nf_none {H : Hp} {p : Addr} (h : H p = none) : NF H p := fun o u z => by rw [h] at z; cases z
theorem Ext.mono {H H' : Hp} {m m' : Mp} (e : Ext H m H' m') : Mono H m H' m' :=
  ⟨fun a o h1 h2 _ h4 => e.keep a o h1 h2 h4, e.pre, fun a h => (e.newl a h).imp id .inr, fun a h => .inl (by rw [e.pr] at h; exact h), e.T⟩
theorem Ext.refl (H : Hp) (m : Mp) : Ext H m H m := ⟨fun _ _ h _ _ => h, fun _ ps h => ⟨ps, h⟩, List.prefix_refl _, fun _ h => .inl h, rfl, rfl, fun _ _ _ h => h⟩
theorem Ext.some {H H' : Hp} {m m' : Mp} (e : Ext H m H' m') {a : Addr} (hm : a ∉ m.locs) (h : H a ≠ none) : H' a ≠ none := by
  cases q : H a with
  | none => exact absurd q h
  | some o =>
    by_cases ht : ∃ ps, o = .tbl ps
    · obtain ⟨ps, rfl⟩ := ht
      obtain ⟨qs, z⟩ := e.tbl a ps q
      rw [z]; simp
    · rw [e.keep a o q hm (fun ps z => ht ⟨ps, z⟩)]; simp
theorem Ext.trans {H H1 H2 : Hp} {m m1 m2 : Mp} (a : Ext H m H1 m1) (b : Ext H1 m1 H2 m2) : Ext H m H2 m2 := by
  refine ⟨fun x o h1 h2 h3 => ?_, fun x ps h => ?_, a.pre.trans b.pre, fun x h => ?_, b.pr.trans a.pr, b.T.trans a.T, fun x o u h => b.frz x o u (a.frz x o u h)⟩
  · have k1 := a.keep x o h1 h2 h3
    refine b.keep x o k1 (fun z => ?_) h3
    rcases a.newl x z with z | z
    · exact h2 z
    · rw [h1] at z; cases z
  · obtain ⟨qs, z⟩ := a.tbl x ps h
    exact b.tbl x qs z
  · rcases b.newl x h with z | z
    · exact a.newl x z
    · by_cases hx : x ∈ m.locs
      · exact .inl hx
      · refine .inr ?_
        cases q : H x with
        | none => rfl
        | some o => exact absurd z (a.some hx (by rw [q]; simp))
section
variable {K : PySem.W.Frag} {L : Lk} {H H' : Hp} {m m' : Mp}
theorem LstA.mono {a : Addr} {xs : List V} (e : Mono H m H' m') (h : LstA H m a xs) : LstA H' m' a xs := by
  obtain ⟨h1, h2, h3⟩ := h
  refine ⟨fun z => ?_, fun z => ?_, ?_⟩
  · rcases e.newl a z with z | z | z
    · exact h1 z
    · exact h2 z
    · rcases h3 with h3 | ⟨o, h3⟩ <;> rw [h3] at z <;> cases z
  · rcases e.newp a z with z | z
    · exact h2 z
    · rcases h3 with h3 | ⟨o, h3⟩ <;> rw [h3] at z <;> cases z
  · rcases h3 with h3 | ⟨o, h3⟩
    · exact .inl (e.keep a _ h3 h1 h2 (fun ps z => nomatch z))
    · exact .inr ⟨o, e.keep a _ h3 h1 h2 (fun ps z => nomatch z)⟩
theorem TupA.mono {a : Addr} {xs : List V} (e : Mono H m H' m') (h : TupA K H m a xs) : TupA K H' m' a xs := by
  rcases h with ⟨h1, h2, h3⟩ | h
  · refine .inl ⟨fun z => ?_, fun z => ?_, ?_⟩
    · rcases e.newl a z with z | z | z
      · exact h1 z
      · exact h2 z
      · rcases h3 with h3 | ⟨o, h3⟩ <;> rw [h3] at z <;> cases z
    · rcases e.newp a z with z | z
      · exact h2 z
      · rcases h3 with h3 | ⟨o, h3⟩ <;> rw [h3] at z <;> cases z
    · rcases h3 with h3 | ⟨o, h3⟩
      · exact .inl (e.keep a _ h3 h1 h2 (fun ps z => nomatch z))
      · exact .inr ⟨o, e.keep a _ h3 h1 h2 (fun ps z => nomatch z)⟩
  · exact .inr h
theorem notin_mono (e : Mono H m H' m') {a : Addr} (h1 : a ∉ m.locs) (h2 : a ∉ m.pr) (h3 : H a ≠ none) : a ∉ m'.locs ∧ a ∉ m'.pr := by
  refine ⟨fun z => ?_, fun z => ?_⟩
  · rcases e.newl a z with z | z | z
    · exact h1 z
    · exact h2 z
    · exact h3 z
  · rcases e.newp a z with z | z
    · exact h2 z
    · exact h3 z
theorem DicU.pl {u : HO} {t : Bool} {ks : List D} {us : List V} (h : DicU u t ks us) : Pl u := by
  unfold DicU at h
  split at h
  · obtain ⟨kvs, rfl, _⟩ := h
    exact ⟨fun _ z => (nomatch z), fun _ z => (nomatch z)⟩
  · obtain ⟨kvs, rfl, _⟩ := h
    exact ⟨fun _ z => (nomatch z), fun _ z => (nomatch z)⟩
theorem Pl.frz {o : Obj} {u : HO} : Pl (.frz o u) := ⟨fun _ z => (nomatch z), fun _ z => (nomatch z)⟩
theorem DicH.at_ {t : Bool} {a : Addr} {ks : List D} {us : List V} (h : DicH H t a ks us) : ∃ o, H a = some o ∧ Pl o := by
  obtain ⟨o, u, h1, h2⟩ := h
  exact ⟨_, h1, .frz⟩
theorem DicH.rd {t : Bool} {a : Addr} {ks : List D} {us : List V} (h : DicH H t a ks us) : DicR H t a ks us := by
  obtain ⟨o, u, h1, h2⟩ := h
  exact ⟨u, .inr ⟨o, h1⟩, h2⟩
theorem InsH.at_ {c : Nat} {a : Addr} {us : List (Option V)} (h : InsH L H c a us) : ∃ o, H a = some o ∧ Pl o := by
  obtain ⟨dx, as, h1, _⟩ := h
  exact ⟨_, h1, fun _ z => (nomatch z), fun _ z => (nomatch z)⟩
theorem DicH.of_eq {t : Bool} {a : Addr} {ks : List D} {us : List V} (h : DicH H t a ks us) (e : H' a = H a) : DicH H' t a ks us := by
  unfold DicH at h ⊢
  rw [e]; exact h
theorem InsH.of_eq {c : Nat} {a : Addr} {us : List (Option V)} (h : InsH L H c a us) (e : H' a = H a) : InsH L H' c a us := by
  unfold InsH at h ⊢
  rw [e]; exact h
theorem keep_eq (e : Mono H m H' m') {a : Addr} (h1 : a ∉ m.locs) (h2 : a ∉ m.pr) (h3 : ∃ o, H a = some o ∧ Pl o) : H' a = H a := by
  obtain ⟨o, h, p⟩ := h3
  rw [h, e.keep a o h h1 h2 p.1]
theorem DicH.mono (e : Mono H m H' m') {t : Bool} {a : Addr} {ks : List D} {us : List V} (h1 : a ∉ m.locs) (h2 : a ∉ m.pr) (h : DicH H t a ks us) : a ∉ m'.locs ∧ a ∉ m'.pr ∧ DicH H' t a ks us := by
  obtain ⟨o, ho, _⟩ := h.at_
  obtain ⟨n1, n2⟩ := notin_mono e h1 h2 (by rw [ho]; simp)
  exact ⟨n1, n2, h.of_eq (keep_eq e h1 h2 h.at_)⟩
theorem InsH.mono (e : Mono H m H' m') {c : Nat} {a : Addr} {us : List (Option V)} (h1 : a ∉ m.locs) (h2 : a ∉ m.pr) (h : InsH L H c a us) : a ∉ m'.locs ∧ a ∉ m'.pr ∧ InsH L H' c a us := by
  obtain ⟨o, ho, _⟩ := h.at_
  obtain ⟨n1, n2⟩ := notin_mono e h1 h2 (by rw [ho]; simp)
  exact ⟨n1, n2, h.of_eq (keep_eq e h1 h2 h.at_)⟩
mutual
theorem RelD.mono (e : Mono H m H' m') : ∀ (d : D) (v : V), RelD L H m d v → RelD L H' m' d v
  | .non, _, h => h
  | .bl _, _, h => h
  | .int _, _, h => h
  | .str _, _, h => h
  | .tup xs, v, h => by
    obtain ⟨a, vs, h1, h2, h3⟩ := h
    exact ⟨a, vs, h1, h2.mono e, RelDs.mono e xs vs h3⟩
  | .lst xs, v, h => by
    obtain ⟨a, vs, h1, h2, h3⟩ := h
    exact ⟨a, vs, h1, h2.mono e, RelDs.mono e xs vs h3⟩
  | .loc n, v, h => by
    obtain ⟨a, h1, h2⟩ := h
    exact ⟨a, h1, by
      obtain ⟨r, hr⟩ := e.pre
      rw [← hr, List.getElem?_append_left (List.getElem?_eq_some_iff.mp h2).1]
      exact h2⟩
  | .dic t ks vs, v, h => by
    obtain ⟨a, us, h1, h2, h3, h4, h5⟩ := h
    obtain ⟨n1, n2, n3⟩ := h4.mono e h2 h3
    exact ⟨a, us, h1, n1, n2, n3, RelDs.mono e vs us h5⟩
  | .ins c fs, v, h => by
    obtain ⟨a, us, h1, h2, h3, h4, h5⟩ := h
    obtain ⟨n1, n2, n3⟩ := h4.mono e h2 h3
    exact ⟨a, us, h1, n1, n2, n3, RelDs.mono e fs us h5⟩
theorem RelDs.mono (e : Mono H m H' m') : ∀ (ds : List D) (vs : List V), RelDs L H m ds vs → RelDs L H' m' ds vs
  | [], _, h => h
  | x :: xs, vs, h => by
    obtain ⟨v, r, h1, h2, h3⟩ := h
    exact ⟨v, r, h1, RelD.mono e x v h2, RelDs.mono e xs r h3⟩
end
theorem RelF.mono (e : Mono H m H' m') : ∀ {fs : List (Option D)} {us : List (Option V)}, RelF L H m fs us → RelF L H' m' fs us
  | [], _, h => h
  | none :: r, us, h => by
    obtain ⟨s, h1, h2⟩ := h
    exact ⟨s, h1, RelF.mono e h2⟩
  | some d :: r, us, h => by
    obtain ⟨v, s, h1, h2, h3⟩ := h
    exact ⟨v, s, h1, h2.mono e, RelF.mono e h3⟩
theorem RelDs.length : ∀ {ds : List D} {vs : List V}, RelDs L H m ds vs → vs.length = ds.length
  | [], _, h => by rw [show _ = ([] : List V) from h]; rfl
  | x :: xs, vs, h => by
    obtain ⟨v, r, rfl, h2, h3⟩ := h
    simp [RelDs.length h3]
theorem RelDs.get : ∀ {ds : List D} {vs : List V} {i : Nat} {d : D}, RelDs L H m ds vs → ds[i]? = some d → ∃ v, vs[i]? = some v ∧ RelD L H m d v
  | [], _, i, d, _, e => by simp at e
  | x :: xs, vs, 0, d, h, e => by
    obtain ⟨v, r, rfl, h2, h3⟩ := h
    simp at e; subst e
    exact ⟨v, by simp, h2⟩
  | x :: xs, vs, i + 1, d, h, e => by
    obtain ⟨v, r, rfl, h2, h3⟩ := h
    obtain ⟨w, e1, e2⟩ := RelDs.get (i := i) (d := d) h3 (by simpa using e)
    exact ⟨w, by simpa using e1, e2⟩
theorem RelDs.app : ∀ {ds es : List D} {vs ws : List V}, RelDs L H m ds vs → RelDs L H m es ws → RelDs L H m (ds ++ es) (vs ++ ws)
  | [], _, vs, _, h, g => by rw [show vs = ([] : List V) from h]; exact g
  | x :: xs, es, vs, ws, h, g => by
    obtain ⟨v, r, rfl, h2, h3⟩ := h
    exact ⟨v, r ++ ws, rfl, h2, h3.app g⟩
theorem RelDs.one {d : D} {v : V} (h : RelD L H m d v) : RelDs L H m [d] [v] := ⟨v, [], rfl, h, rfl⟩
theorem RelDs.set : ∀ {ds : List D} {vs : List V} {d : D} {v : V} (i : Nat), RelDs L H m ds vs → RelD L H m d v → RelDs L H m (ds.set i d) (vs.set i v)
  | [], vs, _, _, _, h, _ => by rw [show vs = ([] : List V) from h]; rfl
  | x :: xs, vs, d, v, 0, h, g => by
    obtain ⟨w, r, rfl, h2, h3⟩ := h
    exact ⟨v, r, rfl, g, h3⟩
  | x :: xs, vs, d, v, i + 1, h, g => by
    obtain ⟨w, r, rfl, h2, h3⟩ := h
    exact ⟨w, r.set i v, rfl, h2, h3.set i g⟩
theorem RelDs.ints : ∀ (ns : List Int) , RelDs L H m (ns.map D.int) (ns.map V.int)
  | [] => rfl
  | n :: r => ⟨_, _, rfl, rfl, RelDs.ints r⟩
theorem RelO.monoU {a : Addr} {o : Ob} {H' : Hp} {m' : Mp} (e : Mono H m H' m') (k : H' a = H a) (h : RelO L H m a o) : RelO L H' m' a o := by
  cases o with
  | lst xs =>
    obtain ⟨vs, h1, h2⟩ := h
    exact ⟨vs, k.trans h1, RelDs.mono e _ _ h2⟩
  | dic t ks vs =>
    obtain ⟨u, us, h1, h2, h3⟩ := h
    exact ⟨u, us, k.trans h1, h2, RelDs.mono e _ _ h3⟩
  | lck t ks vs =>
    obtain ⟨o, u, us, h1, h2, h3⟩ := h
    exact ⟨o, u, us, k.trans h1, h2, RelDs.mono e _ _ h3⟩
  | lkl xs =>
    obtain ⟨o, vs, h1, h2⟩ := h
    exact ⟨o, vs, k.trans h1, RelDs.mono e _ _ h2⟩
  | ins c fs =>
    obtain ⟨us, h1, h2⟩ := h
    exact ⟨us, h1.of_eq k, h2.mono e⟩
/-- an object that changes stands: no table, nothing told by itself -/
theorem RelO.at_ {a : Addr} {o : Ob} (h : RelO L H m a o) : ∃ u, H a = Option.some u ∧ Pl u := by
  cases o with
  | lst xs =>
    obtain ⟨vs, h1, _⟩ := h
    exact ⟨_, h1, .lst⟩
  | dic t ks vs =>
    obtain ⟨u, us, h1, h2, _⟩ := h
    exact ⟨u, h1, h2.pl⟩
  | lck t ks vs =>
    obtain ⟨o, u, us, h1, _⟩ := h
    exact ⟨_, h1, .frz⟩
  | lkl xs =>
    obtain ⟨o, vs, h1, _⟩ := h
    exact ⟨_, h1, .frz⟩
  | ins c fs =>
    obtain ⟨us, h1, _⟩ := h
    exact h1.at_
/-- a new object beside -/
theorem Mono.new {p : Addr} {o : HO} (hp : H p = none) : Mono H m (upd H p o) m :=
  ⟨fun a u h _ _ _ => by rw [upd_ne (ne_of_none h hp)]; exact h, List.prefix_refl _, fun _ h => .inl h, fun _ h => .inl h, rfl⟩
theorem Ext.new {p : Addr} {o : HO} (hp : H p = none) : Ext H m (upd H p o) m :=
  ⟨fun a u h _ _ => by rw [upd_ne (ne_of_none h hp)]; exact h, fun a ps h => ⟨ps, by rw [upd_ne (ne_of_none h hp)]; exact h⟩, List.prefix_refl _, fun _ h => .inl h, rfl, rfl, frz_upd (nf_none hp)⟩
theorem RelS.some {S : Store} (s : RelS L H m S) {a : Addr} (h : a ∈ m.locs) : ∃ o, H a = some o := by
  obtain ⟨n, hn, e⟩ := List.mem_iff_getElem.mp h
  have hl : n < S.length := by rw [← s.len]; exact hn
  obtain ⟨b, e1, e2⟩ := s.at_ n S[n] (List.getElem?_eq_getElem hl)
  rw [List.getElem?_eq_getElem hn, e] at e1
  cases e1
  obtain ⟨u, h1, _⟩ := e2.at_
  exact ⟨u, h1⟩
theorem RelS.locAt {S : Store} (s : RelS L H m S) {a : Addr} (h : a ∈ m.locs) : ∃ o, H a = Option.some o ∧ Pl o := by
  obtain ⟨n, hn, e⟩ := List.mem_iff_getElem.mp h
  have hl : n < S.length := by rw [← s.len]; exact hn
  obtain ⟨b, e1, e2⟩ := s.at_ n S[n] (List.getElem?_eq_getElem hl)
  rw [List.getElem?_eq_getElem hn, e] at e1
  cases e1
  exact e2.at_
theorem RelS.fresh {S : Store} (s : RelS L H m S) {p : Addr} (hp : H p = none) : p ∉ m.locs := fun z => by
  obtain ⟨o, e⟩ := s.some z
  rw [hp] at e; cases e
theorem RelS.nopr {S : Store} (s : RelS L H m S) {p : Addr} (hp : H p = none) : p ∉ m.pr := fun z => by
  obtain ⟨o, e, _⟩ := s.prs p z
  rw [hp] at e; cases e
theorem tabs_new {T : List (Addr × Str)} {p : Addr} {o : HO} (h : LamX.Tabs T H) (hp : H p = none) : LamX.Tabs T (upd H p o) := h.ext fun b u e => by rw [upd_ne (ne_of_none e hp)]; exact e
theorem tabs_put {T : List (Addr × Str)} {p : Addr} {o u : HO} (h : LamX.Tabs T H) (hp : H p = Option.some u) (hu : Pl u) : LamX.Tabs T (upd H p o) := fun q hq => by
  obtain ⟨ps, h1, h2, h3⟩ := h q hq
  refine ⟨ps, by rw [upd_ne (fun z => hu.1 ps (Option.some.inj (hp.symm.trans (by rw [← z]; exact h1))))]; exact h1, h2, fun pos cv hc => ?_⟩
  obtain ⟨c, e1, e2⟩ := h3 pos cv hc
  exact ⟨c, e1, by rw [upd_ne (fun z => hu.2 _ (Option.some.inj (hp.symm.trans (by rw [← z]; exact e2))))]; exact e2⟩
theorem RelS.new {S : Store} (s : RelS L H m S) {p : Addr} {o : HO} (hp : H p = none) : RelS L (upd H p o) m S :=
  ⟨s.len, s.nd, s.dis, fun a ha => by
    rw [upd_ne (fun z => s.nopr hp (by rw [← z]; exact ha))]; exact s.prs a ha, tabs_new s.tabs hp, fun n u h => by
    obtain ⟨a, h1, h2⟩ := s.at_ n u h
    refine ⟨a, h1, h2.monoU (Mono.new hp) ?_⟩
    exact upd_ne fun z => s.fresh hp (by rw [← z]; exact List.mem_of_getElem? h1)⟩
/-- a new tuple, a new list that stays -/
theorem TupA.new {S : Store} (s : RelS L H m S) {p : Addr} {xs : List V} (hp : H p = none) : TupA K (upd H p (.tup xs)) m p xs := .inl ⟨s.fresh hp, s.nopr hp, .inl upd_same⟩
theorem LstA.new {S : Store} (s : RelS L H m S) {p : Addr} {xs : List V} (hp : H p = none) : LstA (upd H p (.lst xs)) m p xs := ⟨s.fresh hp, s.nopr hp, .inl upd_same⟩
/-- an object that changes -/
theorem Mono.put {a : Addr} {o : HO} (h : a ∈ m.locs) : Mono H m (upd H a o) m :=
  ⟨fun b u q h1 _ _ => by rw [upd_ne (fun z => h1 (by rw [z]; exact h))]; exact q, List.prefix_refl _, fun _ h => .inl h, fun _ h => .inl h, rfl⟩
theorem Ext.put {a : Addr} {o : HO} {S : Store} (s : RelS L H m S) (h : a ∈ m.locs) (ht : ∀ ps, H a ≠ Option.some (.tbl ps)) (hf : NF H a) : Ext H m (upd H a o) m :=
  ⟨fun b u q h1 _ => by rw [upd_ne (fun z => h1 (by rw [z]; exact h))]; exact q, fun b ps q => ⟨ps, by rw [upd_ne (fun z => ht ps (by rw [← z]; exact q))]; exact q⟩, List.prefix_refl _, fun _ h => .inl h, rfl, rfl, frz_upd hf⟩
theorem RelS.notTbl {S : Store} (s : RelS L H m S) {a : Addr} {n : Nat} (h : m.locs[n]? = Option.some a) : ∀ ps, H a ≠ Option.some (.tbl ps) := by
  intro ps z
  obtain ⟨o, h1, h2⟩ := s.locAt (List.mem_of_getElem? h)
  rw [z] at h1
  exact h2.1 ps (Option.some.inj h1).symm
theorem RelS.putO {S : Store} (s : RelS L H m S) {a : Addr} {n : Nat} {u : HO} {ob : Ob} (h : m.locs[n]? = Option.some a) (r : RelO L (upd H a u) m a ob) : RelS L (upd H a u) m (S.set n ob) := by
  have ha : a ∈ m.locs := List.mem_of_getElem? h
  refine ⟨by rw [s.len, List.length_set], s.nd, s.dis, fun b hb => ?_, ?_, fun k o e => ?_⟩
  · rw [upd_ne (fun z => s.dis a ha (by rw [← z]; exact hb))]
    exact s.prs b hb
  · obtain ⟨o, h1, h2⟩ := s.locAt ha
    exact tabs_put s.tabs h1 h2
  · by_cases hk : n = k
    · subst hk
      have hl : n < S.length := by rw [← s.len]; exact (List.getElem?_eq_some_iff.mp h).1
      rw [List.getElem?_set_self hl] at e
      cases e
      exact ⟨a, h, r⟩
    · rw [List.getElem?_set_ne hk] at e
      obtain ⟨b, e1, e2⟩ := s.at_ k o e
      refine ⟨b, e1, e2.monoU (Mono.put ha) (upd_ne fun z => hk ?_)⟩
      subst z
      have h1 := (List.getElem?_eq_some_iff.mp h)
      have h2 := (List.getElem?_eq_some_iff.mp e1)
      obtain ⟨l1, q1⟩ := h1
      obtain ⟨l2, q2⟩ := h2
      exact (List.getElem_inj s.nd).mp (q1.trans q2.symm)
theorem RelS.putL {S : Store} (s : RelS L H m S) {a : Addr} {n : Nat} {xs : List D} {vs : List V} (h : m.locs[n]? = Option.some a) (r : RelDs L H m xs vs) : RelS L (upd H a (.lst vs)) m (S.set n (.lst xs)) :=
  s.putO h ⟨vs, upd_same, RelDs.mono (Mono.put (List.mem_of_getElem? h)) _ _ r⟩
def Mp.push (m : Mp) (p : Addr) : Mp := ⟨m.locs ++ [p], m.pr, m.T⟩
theorem Mono.push {p : Addr} {o : HO} (hp : H p = none) : Mono H m (upd H p o) (m.push p) :=
  ⟨fun a u h _ _ _ => by rw [upd_ne (ne_of_none h hp)]; exact h, List.prefix_append _ _, fun a h => by
    rcases List.mem_append.mp h with h | h
    · exact .inl h
    · exact .inr (.inr (by rw [List.mem_singleton.mp h]; exact hp)), fun _ h => .inl h, rfl⟩
theorem Ext.push {p : Addr} {o : HO} (hp : H p = none) : Ext H m (upd H p o) (m.push p) :=
  ⟨fun a u h _ _ => by rw [upd_ne (ne_of_none h hp)]; exact h, fun a ps h => ⟨ps, by rw [upd_ne (ne_of_none h hp)]; exact h⟩, List.prefix_append _ _, fun a h => by
    rcases List.mem_append.mp h with h | h
    · exact .inl h
    · exact .inr (by rw [List.mem_singleton.mp h]; exact hp), rfl, rfl, frz_upd (nf_none hp)⟩
theorem RelS.pushO {S : Store} (s : RelS L H m S) {p : Addr} {u : HO} {ob : Ob} (hp : H p = none) (r : RelO L (upd H p u) (m.push p) p ob) : RelS L (upd H p u) (m.push p) (S ++ [ob]) := by
  refine ⟨by simp [Mp.push, s.len], ?_, fun a ha => ?_, fun b hb => ?_, tabs_new s.tabs hp, fun k o e => ?_⟩
  · show (m.locs ++ [p]).Nodup
    refine List.nodup_append.mpr ⟨s.nd, by simp, fun a ha b hb z => ?_⟩
    rw [List.mem_singleton] at hb
    exact s.fresh hp (by rw [← hb, ← z]; exact ha)
  · rcases List.mem_append.mp ha with ha | ha
    · exact s.dis a ha
    · rw [List.mem_singleton.mp ha]; exact s.nopr hp
  · rw [upd_ne (fun z => s.nopr hp (by rw [← z]; exact hb))]; exact s.prs b hb
  · by_cases hk : k < S.length
    · rw [List.getElem?_append_left hk] at e
      obtain ⟨a, h1, h2⟩ := s.at_ k o e
      refine ⟨a, ?_, h2.monoU (Mono.push hp) (upd_ne fun z => s.fresh hp (by rw [← z]; exact List.mem_of_getElem? h1))⟩
      show (m.locs ++ [p])[k]? = _
      rw [List.getElem?_append_left (by rw [s.len]; exact hk)]
      exact h1
    · have hk2 : k = S.length := by
        have := (List.getElem?_eq_some_iff.mp e).1
        simp at this; omega
      subst hk2
      rw [List.getElem?_append_right (Nat.le_refl _)] at e
      simp at e
      subst e
      refine ⟨p, ?_, r⟩
      show (m.locs ++ [p])[S.length]? = _
      rw [List.getElem?_append_right (by rw [s.len]; exact Nat.le_refl _)]
      simp [s.len]
theorem RelS.push {S : Store} (s : RelS L H m S) {p : Addr} {xs : List D} {vs : List V} (hp : H p = none) (r : RelDs L H m xs vs) : RelS L (upd H p (.lst vs)) (m.push p) (S ++ [.lst xs]) :=
  s.pushO hp ⟨vs, upd_same, RelDs.mono (Mono.push hp) _ _ r⟩
/-- something new under way at p -/
def Mp.hold (m : Mp) (p : Addr) : Mp := ⟨m.locs, p :: m.pr, m.T⟩
theorem Mono.hold {p : Addr} {o : HO} (hp : H p = none) : Mono H m (upd H p o) (m.hold p) :=
  ⟨fun a u h _ _ _ => by rw [upd_ne (ne_of_none h hp)]; exact h, List.prefix_refl _, fun _ h => .inl h, fun a h => by
    rcases List.mem_cons.mp h with h | h
    · exact .inr (by rw [h]; exact hp)
    · exact .inl h, rfl⟩
theorem RelS.hold {S : Store} (s : RelS L H m S) {p : Addr} {o : HO} (hp : H p = none) (ho : Pl o) (hf : nofrz o = true) : RelS L (upd H p o) (m.hold p) S := by
  have s' := s.new (o := o) hp
  refine ⟨s'.len, s'.nd, fun a ha => ?_, fun a ha => ?_, s'.tabs, fun k u e => ?_⟩
  · intro z
    rcases List.mem_cons.mp z with z | z
    · exact s.fresh hp (by rw [← z]; exact ha)
    · exact s.dis a ha z
  · rcases List.mem_cons.mp ha with z | z
    · rw [z, upd_same]; exact ⟨o, rfl, ho⟩
    · exact s'.prs a z
  · obtain ⟨a, h1, h2⟩ := s.at_ k u e
    exact ⟨a, h1, h2.monoU (Mono.hold hp) (upd_ne fun z => s.fresh hp (by rw [← z]; exact List.mem_of_getElem? h1))⟩
/-- what is under way changes: nothing else sees it -/
theorem Mono.turn {p : Addr} {o : HO} (hp : p ∈ m.pr) (hf : NF H p) : Mono H m (upd H p o) m :=
  ⟨fun a u h _ h2 _ => by rw [upd_ne (fun z => h2 (by rw [z]; exact hp))]; exact h, List.prefix_refl _, fun _ h => .inl h, fun _ h => .inl h, rfl⟩
theorem RelS.turn {S : Store} (s : RelS L H m S) {p : Addr} {o : HO} (hp : p ∈ m.pr) (ho : Pl o) (hn : NF H p) : RelS L (upd H p o) m S := by
  obtain ⟨o', hn', hpl⟩ := s.prs p hp
  refine ⟨s.len, s.nd, s.dis, fun a ha => ?_, tabs_put s.tabs hn' hpl, fun k u e => ?_⟩
  · by_cases z : a = p
    · rw [z, upd_same]; exact ⟨o, rfl, ho⟩
    · rw [upd_ne z]; exact s.prs a ha
  · obtain ⟨a, h1, h2⟩ := s.at_ k u e
    exact ⟨a, h1, h2.monoU (Mono.turn hp hn) (upd_ne fun z => s.dis a (List.mem_of_getElem? h1) (by rw [z]; exact hp))⟩
/-- it is let go: it stays as it is from now on -/
theorem Mono.drop {p : Addr} : Mono H (m.hold p) H m := ⟨fun a u h _ _ _ => h, List.prefix_refl _, fun _ h => .inl h, fun _ h => .inl (List.mem_cons_of_mem _ h), rfl⟩
theorem RelS.drop {S : Store} {p : Addr} (s : RelS L H (m.hold p) S) : RelS L H m S :=
  ⟨s.len, s.nd, fun a ha z => s.dis a ha (List.mem_cons_of_mem _ z), fun a ha => s.prs a (List.mem_cons_of_mem _ ha), s.tabs, fun k u e => by
    obtain ⟨a, h1, h2⟩ := s.at_ k u e
    exact ⟨a, h1, h2.monoU Mono.drop rfl⟩⟩
/-- it changes from now on -/
theorem Mono.adopt {p : Addr} : Mono H (m.hold p) H (m.push p) := ⟨fun a u h _ _ _ => h, List.prefix_append _ _, fun a h => by
    rcases List.mem_append.mp h with h | h
    · exact .inl h
    · exact .inr (.inl (by rw [List.mem_singleton.mp h]; exact List.mem_cons_self)), fun _ h => .inl (List.mem_cons_of_mem _ h), rfl⟩
theorem RelS.adoptO {S : Store} {p : Addr} {ob : Ob} (s : RelS L H (m.hold p) S) (hq : p ∉ m.pr) (r : RelO L H (m.push p) p ob) : RelS L H (m.push p) (S ++ [ob]) := by
  have hl : p ∉ m.locs := fun z => s.dis p z List.mem_cons_self
  refine ⟨by have := s.len; simp [Mp.push, Mp.hold] at this ⊢; omega, ?_, fun a ha => ?_, fun b hb => s.prs b (List.mem_cons_of_mem _ hb), s.tabs, fun k o e => ?_⟩
  · show (m.locs ++ [p]).Nodup
    refine List.nodup_append.mpr ⟨s.nd, by simp, fun a ha b hb z => ?_⟩
    rw [List.mem_singleton] at hb
    exact hl (by rw [← hb, ← z]; exact ha)
  · rcases List.mem_append.mp ha with ha | ha
    · exact fun z => s.dis a ha (List.mem_cons_of_mem _ z)
    · rw [List.mem_singleton.mp ha]; exact hq
  · have sl : m.locs.length = S.length := s.len
    by_cases hk : k < S.length
    · rw [List.getElem?_append_left hk] at e
      obtain ⟨a, h1, h2⟩ := s.at_ k o e
      refine ⟨a, ?_, h2.monoU Mono.adopt rfl⟩
      show (m.locs ++ [p])[k]? = _
      rw [List.getElem?_append_left (by rw [sl]; exact hk)]
      exact h1
    · have hk2 : k = S.length := by
        have := (List.getElem?_eq_some_iff.mp e).1
        simp at this; omega
      subst hk2
      rw [List.getElem?_append_right (Nat.le_refl _)] at e
      simp at e
      subst e
      refine ⟨p, ?_, r⟩
      show (m.locs ++ [p])[S.length]? = _
      rw [List.getElem?_append_right (by rw [sl]; exact Nat.le_refl _)]
      simp [sl]
theorem RelS.adopt {S : Store} {p : Addr} {xs : List D} {vs : List V} (s : RelS L H (m.hold p) S) (hp : H p = Option.some (.lst vs)) (hq : p ∉ m.pr) (r : RelDs L H (m.hold p) xs vs) : RelS L H (m.push p) (S ++ [.lst xs]) :=
  s.adoptO hq ⟨vs, hp, RelDs.mono Mono.adopt _ _ r⟩
theorem Ext.pr' {ps qs : List Addr} {ls : List Addr} {T : List (Addr × Str)} (e : Ext H m H' m') (h : m = ⟨ls, ps, T⟩) : Ext H ⟨ls, qs, T⟩ H' ⟨m'.locs, qs, T⟩ := by
  subst h
  exact ⟨e.keep, e.tbl, e.pre, e.newl, rfl, rfl, e.frz⟩
end
end KF

set_option Elab.async false
set_option linter.all false
set_option maxRecDepth 100000
set_option maxHeartbeats 4000000
/-! V1b: what a call leaves: what is told of objects made meanwhile is let go, the result stays as it is -/
namespace KF
open PySem PySem.Spec PyProof.Rows L2
def allO {α : Type} : List (Option α) → Option (List α)
  | [] => some []
  | some x :: r => match allO r with
    | some xs => some (x :: xs)
    | none => none
  | none :: _ => none
mutual
/-- no object at n or behind -/
def low (n : Nat) : D → Bool
  | .loc k => Nat.blt k n
  | .tup xs => lows n xs
  | .lst xs => lows n xs
  | .dic _ _ vs => lows n vs
  | .ins _ fs => lows n fs
  | _ => true
def lows (n : Nat) : List D → Bool
  | [] => true
  | x :: xs => low n x && lows n xs
end
def lowF (n : Nat) : List (Option D) → Bool
  | [] => true
  | none :: r => lowF n r
  | some d :: r => low n d && lowF n r
def lowO (n : Nat) : Ob → Bool
  | .lst xs => lows n xs
  | .dic _ _ vs => lows n vs
  | .lck _ _ vs => lows n vs
  | .lkl xs => lows n xs
  | .ins _ fs => lowF n fs
/-- a value, its new objects as they are now -/
def frz (S : Store) (n : Nat) : Nat → D → Option D
  | 0, _ => none
  | k + 1, d => match d with
    | .loc i => if Nat.blt i n = true then some (.loc i) else match S[i]? with
      | some (.lst xs) => match mapO (frz S n k) xs with
        | some ys => some (.lst ys)
        | none => none
      | some (.dic _ _ _) => none
      | some (.lkl xs) => match mapO (frz S n k) xs with
        | some ys => some (.lst ys)
        | none => none
      | some (.lck t ks vs) => match mapO (frz S n k) vs with
        | some ys => some (.dic t ks ys)
        | none => none
      | some (.ins c fs) => match allO fs with
        | some ds => match mapO (frz S n k) ds with
          | some ys => some (.ins c ys)
          | none => none
        | none => none
      | none => none
    | .tup xs => match mapO (frz S n k) xs with
      | some ys => some (.tup ys)
      | none => none
    | .lst xs => match mapO (frz S n k) xs with
      | some ys => some (.lst ys)
      | none => none
    | .dic t ks vs => match mapO (frz S n k) vs with
      | some ys => some (.dic t ks ys)
      | none => none
    | .ins c fs => match mapO (frz S n k) fs with
      | some ys => some (.ins c ys)
      | none => none
    | d => some d
def Mp.cut (m : Mp) (n : Nat) : Mp := ⟨m.locs.take n, m.pr, m.T⟩
section
variable {L : Lk} {H H' : Hp} {m m' : Mp} {S : Store} {n : Nat}
theorem cut_not {a : Addr} (h : a ∉ m.locs) : a ∉ (m.cut n).locs := fun z => h (List.mem_of_mem_take z)
theorem cut_at {i : Nat} (h : i < n) : (m.cut n).locs[i]? = m.locs[i]? := by
  show (m.locs.take n)[i]? = _
  rw [List.getElem?_take, if_pos h]
theorem cut_off {i : Nat} {a : Addr} (nd : m.locs.Nodup) (h : m.locs[i]? = some a) (hi : n ≤ i) : a ∉ (m.cut n).locs := fun z => by
  obtain ⟨j, hj⟩ := List.mem_iff_getElem?.mp z
  have hjn : j < n := by
    have := (List.getElem?_eq_some_iff.mp hj).1
    have e : (m.cut n).locs.length ≤ n := by show (m.locs.take n).length ≤ n; rw [List.length_take]; omega
    omega
  rw [cut_at hjn] at hj
  obtain ⟨l1, q1⟩ := List.getElem?_eq_some_iff.mp hj
  obtain ⟨l2, q2⟩ := List.getElem?_eq_some_iff.mp h
  have := (List.getElem_inj nd).mp (q1.trans q2.symm)
  omega
mutual
theorem low_ok : ∀ (d : D) (v : V), low n d = true → RelD L H m d v → RelD L H (m.cut n) d v
  | .non, _, _, r => r
  | .bl _, _, _, r => r
  | .int _, _, _, r => r
  | .str _, _, _, r => r
  | .tup xs, v, h, r => by
    obtain ⟨a, vs, h1, h2, h3⟩ := r
    refine ⟨a, vs, h1, ?_, lows_ok xs vs h h3⟩
    rcases h2 with ⟨b1, b2, b3⟩ | h2
    · exact .inl ⟨cut_not b1, b2, b3⟩
    · exact .inr h2
  | .lst xs, v, h, r => by
    obtain ⟨a, vs, h1, ⟨b1, b2, b3⟩, h3⟩ := r
    exact ⟨a, vs, h1, ⟨cut_not b1, b2, b3⟩, lows_ok xs vs h h3⟩
  | .loc k, v, h, r => by
    obtain ⟨a, h1, h2⟩ := r
    exact ⟨a, h1, by rw [cut_at (Nat.le_of_ble_eq_true h)]; exact h2⟩
  | .dic t ks vs, v, h, r => by
    obtain ⟨a, us, h1, h2, h3, h4, h5⟩ := r
    exact ⟨a, us, h1, cut_not h2, h3, h4, lows_ok vs us h h5⟩
  | .ins c fs, v, h, r => by
    obtain ⟨a, us, h1, h2, h3, h4, h5⟩ := r
    exact ⟨a, us, h1, cut_not h2, h3, h4, lows_ok fs us h h5⟩
theorem lows_ok : ∀ (ds : List D) (vs : List V), lows n ds = true → RelDs L H m ds vs → RelDs L H (m.cut n) ds vs
  | [], _, _, r => r
  | x :: xs, vs, h, r => by
    obtain ⟨v, s, h1, h2, h3⟩ := r
    have h : (low n x && lows n xs) = true := h
    rw [Bool.and_eq_true] at h
    exact ⟨v, s, h1, low_ok x v h.1 h2, lows_ok xs s h.2 h3⟩
end
theorem lowF_ok : ∀ {fs : List (Option D)} {us : List (Option V)}, lowF n fs = true → RelF L H m fs us → RelF L H (m.cut n) fs us
  | [], _, _, r => r
  | none :: r, us, h, q => by
    obtain ⟨s, h1, h2⟩ := q
    exact ⟨s, h1, lowF_ok h h2⟩
  | some d :: r, us, h, q => by
    obtain ⟨v, s, h1, h2, h3⟩ := q
    have h : (low n d && lowF n r) = true := h
    rw [Bool.and_eq_true] at h
    exact ⟨v, s, h1, low_ok d v h.1 h2, lowF_ok h.2 h3⟩
theorem lowO_ok {a : Addr} : ∀ {o : Ob}, lowO n o = true → RelO L H m a o → RelO L H (m.cut n) a o
  | .lst xs, h, r => by
    obtain ⟨vs, h1, h2⟩ := r
    exact ⟨vs, h1, lows_ok xs vs h h2⟩
  | .dic t ks vs, h, r => by
    obtain ⟨u, us, h1, h2, h3⟩ := r
    exact ⟨u, us, h1, h2, lows_ok vs us h h3⟩
  | .lck t ks vs, h, r => by
    obtain ⟨o, u, us, h1, h2, h3⟩ := r
    exact ⟨o, u, us, h1, h2, lows_ok vs us h h3⟩
  | .lkl xs, h, r => by
    obtain ⟨o, vs, h1, h2⟩ := r
    exact ⟨o, vs, h1, lows_ok xs vs h h2⟩
  | .ins c fs, h, r => by
    obtain ⟨us, h1, h2⟩ := r
    exact ⟨us, h1, lowF_ok h h2⟩
theorem cut_S (s : RelS L H m S) (h : (S.take n).all (lowO n) = true) : RelS L H (m.cut n) (S.take n) := by
  refine ⟨?_, s.nd.sublist (List.take_sublist _ _), fun a ha => s.dis a (List.mem_of_mem_take ha), s.prs, s.tabs, fun k o e => ?_⟩
  · show (m.locs.take n).length = _
    rw [List.length_take, List.length_take, s.len]
  · rw [List.getElem?_take] at e
    split at e
    · rename_i hk
      obtain ⟨a, h1, h2⟩ := s.at_ k o e
      refine ⟨a, by rw [cut_at hk]; exact h1, lowO_ok ?_ h2⟩
      refine List.all_eq_true.mp h o (List.mem_of_getElem? (i := k) ?_)
      rw [List.getElem?_take, if_pos hk]; exact e
    · cases e
theorem cut_ext (e : Ext H m H' m') (h : n = m.locs.length) : Ext H m H' (m'.cut n) := by
  refine ⟨e.keep, e.tbl, ?_, fun a ha => e.newl a (List.mem_of_mem_take ha), e.pr, e.T, e.frz⟩
  obtain ⟨r, hr⟩ := e.pre
  show m.locs <+: m'.locs.take n
  rw [← hr, h, List.take_left]
  exact List.prefix_refl _
theorem allO_ok : ∀ {fs : List (Option D)} {ds : List D} {us : List (Option V)}, allO fs = some ds → RelF L H m fs us → ∃ vs, us = vs.map some ∧ RelDs L H m ds vs
  | [], ds, us, h, r => by
    cases h
    exact ⟨[], by rw [show us = [] from r]; rfl, rfl⟩
  | none :: _, _, _, h, _ => by cases h
  | some d :: r, ds, us, h, q => by
    unfold allO at h
    obtain ⟨v, s, rfl, h2, h3⟩ := q
    split at h
    · rename_i xs e
      cases h
      obtain ⟨vs, rfl, h4⟩ := allO_ok e h3
      exact ⟨v :: vs, rfl, v, vs, rfl, h2, h4⟩
    · cases h
theorem frzs_ok {k : Nat} (ih : ∀ (d d' : D) (v : V), frz S n k d = some d' → RelD L H m d v → RelD L H (m.cut n) d' v) : ∀ (ds es : List D) (vs : List V), mapO (frz S n k) ds = some es → RelDs L H m ds vs → RelDs L H (m.cut n) es vs
  | [], es, vs, h, r => by
    cases h
    exact r
  | d :: ds, es, vs, h, r => by
    unfold mapO at h
    obtain ⟨v, s, h1, h2, h3⟩ := r
    split at h
    · rename_i y ys e1 e2
      cases h
      exact ⟨v, s, h1, ih d y v e1 h2, frzs_ok ih ds ys s e2 h3⟩
    · cases h
theorem frz_ok (s : RelS L H m S) : ∀ (k : Nat) (d d' : D) (v : V), frz S n k d = some d' → RelD L H m d v → RelD L H (m.cut n) d' v
  | 0, d, d', v, h, r => by cases h
  | k + 1, d, d', v, h, r => by
    unfold frz at h
    have ih := frz_ok s k
    cases d with
    | non => cases h; exact r
    | bl b => cases h; exact r
    | int i => cases h; exact r
    | str x => cases h; exact r
    | tup xs =>
      dsimp only at h
      split at h
      · rename_i ys e
        cases h
        obtain ⟨a, vs, h1, h2, h3⟩ := r
        refine ⟨a, vs, h1, ?_, frzs_ok ih _ _ _ e h3⟩
        rcases h2 with ⟨b1, b2, b3⟩ | h2
        · exact .inl ⟨cut_not b1, b2, b3⟩
        · exact .inr h2
      · cases h
    | lst xs =>
      dsimp only at h
      split at h
      · rename_i ys e
        cases h
        obtain ⟨a, vs, h1, ⟨b1, b2, b3⟩, h3⟩ := r
        exact ⟨a, vs, h1, ⟨cut_not b1, b2, b3⟩, frzs_ok ih _ _ _ e h3⟩
      · cases h
    | dic t ks vs =>
      dsimp only at h
      split at h
      · rename_i ys e
        cases h
        obtain ⟨a, us, h1, h2, h3, h4, h5⟩ := r
        exact ⟨a, us, h1, cut_not h2, h3, h4, frzs_ok ih _ _ _ e h5⟩
      · cases h
    | ins c fs =>
      dsimp only at h
      split at h
      · rename_i ys e
        cases h
        obtain ⟨a, us, h1, h2, h3, h4, h5⟩ := r
        exact ⟨a, us, h1, cut_not h2, h3, h4, frzs_ok ih _ _ _ e h5⟩
      · cases h
    | loc i =>
      dsimp only at h
      obtain ⟨a, h1, h2⟩ := r
      by_cases hi : Nat.blt i n = true
      · rw [if_pos hi] at h
        cases h
        exact ⟨a, h1, by rw [cut_at (Nat.le_of_ble_eq_true hi)]; exact h2⟩
      · rw [if_neg hi] at h
        have hni : n ≤ i := by
          rcases Nat.lt_or_ge i n with z | z
          · exact absurd (Nat.ble_eq_true_of_le z) hi
          · exact z
        have off := cut_off s.nd h2 hni
        have opr := s.dis a (List.mem_of_getElem? h2)
        split at h
        · rename_i xs e
          obtain ⟨b, c1, vs, c2, c3⟩ := s.at_ i _ e
          rw [h2] at c1; cases c1
          split at h
          · rename_i ys e2
            cases h
            exact ⟨a, vs, h1, ⟨off, opr, .inl c2⟩, frzs_ok ih _ _ _ e2 c3⟩
          · cases h
        · cases h
        · rename_i xs e
          obtain ⟨b, c1, o, vs, c2, c3⟩ := s.at_ i _ e
          rw [h2] at c1; cases c1
          split at h
          · rename_i ys e2
            cases h
            exact ⟨a, vs, h1, ⟨off, opr, .inr ⟨o, c2⟩⟩, frzs_ok ih _ _ _ e2 c3⟩
          · cases h
        · rename_i t ks vs e
          obtain ⟨b, c1, o, u, us, c2, c3, c4⟩ := s.at_ i _ e
          rw [h2] at c1; cases c1
          split at h
          · rename_i ys e2
            cases h
            exact ⟨a, us, h1, off, opr, ⟨o, u, c2, c3⟩, frzs_ok ih _ _ _ e2 c4⟩
          · cases h
        · rename_i c fs e
          obtain ⟨b, c1, us, c2, c3⟩ := s.at_ i _ e
          rw [h2] at c1; cases c1
          split at h
          · rename_i ds e1
            obtain ⟨vs, rfl, c4⟩ := allO_ok e1 c3
            split at h
            · rename_i ys e2
              cases h
              exact ⟨a, vs, h1, off, opr, c2, frzs_ok ih _ _ _ e2 c4⟩
            · cases h
          · cases h
        · cases h
end
/-- the dicts at i and behind, locked -/
def lockA : Nat → Store → Store
  | _, [] => []
  | 0, o :: r => (match o with
    | .dic t ks vs => .lck t ks vs
    | o => o) :: lockA 0 r
  | n + 1, o :: r => o :: lockA n r
/-- behind a call entered with n objects -/
def gcR (n : Nat) : R D → R D
  | .ok d S => if Nat.ble S.length n = true then .ok d S else match frz (lockA n S) n 64 d, (S.take n).all (lowO n) with
    | some d', true => .ok d' (S.take n)
    | _, _ => .bad
  | .exc c fs S => if Nat.ble S.length n = true then .exc c fs S else match mapO (frz S n 64) fs, (S.take n).all (lowO n) with
    | some fs', true => .exc c fs' (S.take n)
    | _, _ => .bad
  | .bad => .bad
theorem lockA_take : ∀ (n : Nat) (S : Store), (lockA n S).take n = S.take n
  | 0, S => by simp
  | n + 1, [] => rfl
  | n + 1, o :: r => by
    rw [lockA, List.take_succ_cons, List.take_succ_cons, lockA_take n r]
/-- behind a call in a store of its own -/
def frR {α : Type} (S : Store) : R α → R α
  | .ok d _ => .ok d S
  | .exc c fs _ => .exc c fs S
  | .bad => .bad
/-- what changes is put aside -/
def Mp.shut (m : Mp) : Mp := ⟨[], m.pr ++ m.locs, m.T⟩
section
variable {L : Lk} {H H' : Hp} {m m' : Mp} {S : Store}
theorem shut_not {a : Addr} (h1 : a ∉ m.locs) (h2 : a ∉ m.pr) : a ∉ m.shut.locs ∧ a ∉ m.shut.pr := ⟨fun z => (nomatch z), fun z => (List.mem_append.mp z).elim h2 h1⟩
theorem open_not {a : Addr} (h2 : a ∉ m.shut.pr) : a ∉ m.locs ∧ a ∉ m.pr := ⟨fun z => h2 (List.mem_append.mpr (.inr z)), fun z => h2 (List.mem_append.mpr (.inl z))⟩
mutual
theorem shut_D : ∀ (d : D) (v : V), low 0 d = true → RelD L H m d v → RelD L H m.shut d v
  | .non, _, _, r => r
  | .bl _, _, _, r => r
  | .int _, _, _, r => r
  | .str _, _, _, r => r
  | .tup xs, v, h, r => by
    obtain ⟨a, vs, h1, h2, h3⟩ := r
    refine ⟨a, vs, h1, ?_, shut_Ds xs vs h h3⟩
    rcases h2 with ⟨b1, b2, b3⟩ | h2
    · exact .inl ⟨(shut_not b1 b2).1, (shut_not b1 b2).2, b3⟩
    · exact .inr h2
  | .lst xs, v, h, r => by
    obtain ⟨a, vs, h1, ⟨b1, b2, b3⟩, h3⟩ := r
    exact ⟨a, vs, h1, ⟨(shut_not b1 b2).1, (shut_not b1 b2).2, b3⟩, shut_Ds xs vs h h3⟩
  | .loc k, v, h, r => by cases h
  | .dic t ks vs, v, h, r => by
    obtain ⟨a, us, h1, h2, h3, h4, h5⟩ := r
    exact ⟨a, us, h1, (shut_not h2 h3).1, (shut_not h2 h3).2, h4, shut_Ds vs us h h5⟩
  | .ins c fs, v, h, r => by
    obtain ⟨a, us, h1, h2, h3, h4, h5⟩ := r
    exact ⟨a, us, h1, (shut_not h2 h3).1, (shut_not h2 h3).2, h4, shut_Ds fs us h h5⟩
theorem shut_Ds : ∀ (ds : List D) (vs : List V), lows 0 ds = true → RelDs L H m ds vs → RelDs L H m.shut ds vs
  | [], _, _, r => r
  | x :: xs, vs, h, r => by
    obtain ⟨v, s, h1, h2, h3⟩ := r
    have h : (low 0 x && lows 0 xs) = true := h
    rw [Bool.and_eq_true] at h
    exact ⟨v, s, h1, shut_D x v h.1 h2, shut_Ds xs s h.2 h3⟩
end
mutual
theorem open_D : ∀ (d : D) (v : V), RelD L H m.shut d v → RelD L H m d v
  | .non, _, r => r
  | .bl _, _, r => r
  | .int _, _, r => r
  | .str _, _, r => r
  | .tup xs, v, r => by
    obtain ⟨a, vs, h1, h2, h3⟩ := r
    refine ⟨a, vs, h1, ?_, open_Ds xs vs h3⟩
    rcases h2 with ⟨b1, b2, b3⟩ | h2
    · exact .inl ⟨(open_not b2).1, (open_not b2).2, b3⟩
    · exact .inr h2
  | .lst xs, v, r => by
    obtain ⟨a, vs, h1, ⟨b1, b2, b3⟩, h3⟩ := r
    exact ⟨a, vs, h1, ⟨(open_not b2).1, (open_not b2).2, b3⟩, open_Ds xs vs h3⟩
  | .loc k, v, r => by
    obtain ⟨a, h1, h2⟩ := r
    cases h2
  | .dic t ks vs, v, r => by
    obtain ⟨a, us, h1, h2, h3, h4, h5⟩ := r
    exact ⟨a, us, h1, (open_not h3).1, (open_not h3).2, h4, open_Ds vs us h5⟩
  | .ins c fs, v, r => by
    obtain ⟨a, us, h1, h2, h3, h4, h5⟩ := r
    exact ⟨a, us, h1, (open_not h3).1, (open_not h3).2, h4, open_Ds fs us h5⟩
theorem open_Ds : ∀ (ds : List D) (vs : List V), RelDs L H m.shut ds vs → RelDs L H m ds vs
  | [], _, r => r
  | x :: xs, vs, r => by
    obtain ⟨v, s, h1, h2, h3⟩ := r
    exact ⟨v, s, h1, open_D x v h2, open_Ds xs s h3⟩
end
theorem shut_S (s : RelS L H m S) : RelS L H m.shut [] :=
  ⟨rfl, List.nodup_nil, fun _ z => (nomatch z), fun a ha => by
    rcases List.mem_append.mp ha with z | z
    · exact s.prs a z
    · exact s.locAt z, s.tabs, fun n o e => by cases e⟩
theorem shut_mp (e : Ext H m.shut H' m') (h : RelS L H' m' []) : m' = m.shut := by
  obtain ⟨l, p, T⟩ := m'
  have h1 : p = m.shut.pr := e.pr
  have h2 : T = m.shut.T := e.T
  have h3 : l.length = 0 := h.len
  have h3 : l = [] := List.length_eq_zero_iff.mp h3
  subst h1 h2 h3
  rfl
theorem open_ext (e : Ext H m.shut H' m.shut) : Ext H m H' m :=
  ⟨fun a o h1 _ h3 => e.keep a o h1 (fun z => (nomatch z)) h3, e.tbl, List.prefix_refl _, fun _ h => .inl h, rfl, rfl, e.frz⟩
theorem open_S (s : RelS L H m S) (e : Ext H m.shut H' m.shut) (h : RelS L H' m.shut []) : RelS L H' m S :=
  ⟨s.len, s.nd, s.dis, fun a ha => by
    obtain ⟨o, h1, h2⟩ := s.prs a ha
    exact ⟨o, e.keep a o h1 (fun z => (nomatch z)) h2.1, h2⟩, h.tabs, fun n o q => by
    obtain ⟨a, h1, h2⟩ := s.at_ n o q
    obtain ⟨u, h3, h4⟩ := s.locAt (List.mem_of_getElem? h1)
    exact ⟨a, h1, h2.monoU (open_ext e).mono (by rw [h3]; exact e.keep a u h3 (fun z => (nomatch z)) h4.1)⟩⟩
end
end KF

set_option Elab.async false
set_option linter.all false
set_option maxRecDepth 100000
set_option maxHeartbeats 4000000
/-! V1c: sorting, its outcome by values -/
namespace KF
open PySem PySem.Spec PyProof.Rows L2
section
variable {α : Type} (lt : α → α → Bool)
def insB (x : α) : List α → List α
  | [] => [x]
  | y :: r => if lt x y = true then x :: y :: r else y :: insB x r
def sortB : List α → List α
  | [] => []
  | x :: r => insB lt x (sortB r)
structure Tot : Prop where
  irr : ∀ x, lt x x = false
  tri : ∀ x y, lt x y = false → lt y x = false → x = y
  tr : ∀ x y z, lt x y = true → lt y z = true → lt x z = true
variable {lt}
theorem insB_perm (x : α) : ∀ l : List α, (insB lt x l).Perm (x :: l)
  | [] => List.Perm.refl _
  | y :: r => by
    unfold insB
    split
    · exact List.Perm.refl _
    · exact ((insB_perm x r).cons y).trans (List.Perm.swap x y r)
theorem sortB_perm : ∀ l : List α, (sortB lt l).Perm l
  | [] => List.Perm.refl _
  | x :: r => (insB_perm x _).trans ((sortB_perm r).cons x)
theorem Tot.asym (T : Tot lt) {x y : α} (h : lt x y = true) : lt y x = false := by
  cases q : lt y x with
  | false => rfl
  | true =>
    have := T.tr _ _ _ h q
    rw [T.irr] at this; cases this
/-- y not below x, z not below y: z not below x -/
theorem Tot.le (T : Tot lt) {x y z : α} (h1 : lt y x = false) (h2 : lt z y = false) : lt z x = false := by
  cases q : lt z x with
  | false => rfl
  | true =>
    cases q2 : lt x y with
    | true =>
      have := T.tr _ _ _ q q2
      rw [h2] at this; cases this
    | false =>
      have e := T.tri _ _ h1 q2
      rw [e] at h2
      rw [h2] at q; cases q
theorem insB_sorted (T : Tot lt) (x : α) : ∀ {l : List α}, l.Pairwise (fun x y => lt y x = false) → (insB lt x l).Pairwise (fun x y => lt y x = false)
  | [], _ => List.pairwise_singleton _ _
  | y :: r, h => by
    unfold insB
    have h' := List.pairwise_cons.mp h
    split
    · rename_i hxy
      refine List.pairwise_cons.mpr ⟨fun z hz => ?_, h⟩
      rcases List.mem_cons.mp hz with e | hz
      · rw [e]; exact T.asym hxy
      · exact T.le (T.asym hxy) (h'.1 z hz)
    · rename_i hxy
      rw [Bool.not_eq_true] at hxy
      refine List.pairwise_cons.mpr ⟨fun z hz => ?_, insB_sorted T x h'.2⟩
      rcases List.mem_cons.mp ((insB_perm x r).mem_iff.mp hz) with e | hz
      · rw [e]; exact hxy
      · exact h'.1 z hz
theorem sortB_sorted (T : Tot lt) : ∀ l : List α, (sortB lt l).Pairwise (fun x y => lt y x = false)
  | [] => List.Pairwise.nil
  | x :: r => insB_sorted T x (sortB_sorted T r)
theorem sorted_eq (T : Tot lt) : ∀ {l m : List α}, l.Perm m → l.Pairwise (fun x y => lt y x = false) → m.Pairwise (fun x y => lt y x = false) → l = m
  | [], m, p, _, _ => (List.nil_perm.mp p).symm
  | x :: l, [], p, _, _ => absurd (List.perm_nil.mp p) (List.cons_ne_nil _ _)
  | x :: l, y :: m, p, h1, h2 => by
    have h1' := List.pairwise_cons.mp h1
    have h2' := List.pairwise_cons.mp h2
    have e : x = y := by
      have a : lt y x = false := by
        rcases List.mem_cons.mp (p.mem_iff.mpr List.mem_cons_self) with e | hy
        · rw [e]; exact T.irr x
        · exact h1'.1 y hy
      have b : lt x y = false := by
        rcases List.mem_cons.mp (p.mem_iff.mp List.mem_cons_self) with e | hx
        · rw [e]; exact T.irr y
        · exact h2'.1 x hx
      exact T.tri _ _ b a
    subst e
    rw [sorted_eq T (List.Perm.cons_inv p) h1'.2 h2'.2]
/-- any sorted order of l is this one -/
theorem sortB_eq (T : Tot lt) {l m : List α} (p : m.Perm l) (h : m.Pairwise (fun x y => lt y x = false)) : m = sortB lt l := sorted_eq T (p.trans (sortB_perm l).symm) h (sortB_sorted T l)
end
def ltI (x y : Int) : Bool := decide (x < y)
theorem totI : Tot ltI := ⟨fun x => by simp [ltI], fun x y h1 h2 => by simp [ltI] at h1 h2; omega, fun x y z h1 h2 => by simp [ltI] at h1 h2 ⊢; omega⟩
theorem pwI {l : List Int} (h : l.Pairwise (· ≤ ·)) : l.Pairwise (fun x y => ltI y x = false) := h.imp fun {a b} h => by simp [ltI]; exact h
def ltS (x y : Str) : Bool := ltCps x.cps.toList y.cps.toList
theorem cps_irr : ∀ l : List Nat, ltCps l l = false
  | [] => rfl
  | a :: r => by simp [ltCps, cps_irr r]
theorem cps_tri : ∀ l m : List Nat, ltCps l m = false → ltCps m l = false → l = m
  | [], [], _, _ => rfl
  | [], _ :: _, h, _ => by simp [ltCps] at h
  | _ :: _, [], _, h => by simp [ltCps] at h
  | a :: r, b :: t, h1, h2 => by
    simp [ltCps] at h1 h2
    have e : a = b := by omega
    subst e
    rw [cps_tri r t (h1.2 rfl) (h2.2 rfl)]
theorem cps_tr : ∀ l m n : List Nat, ltCps l m = true → ltCps m n = true → ltCps l n = true
  | [], [], _, h, _ => by simp [ltCps] at h
  | [], _ :: _, [], _, h => by simp [ltCps] at h
  | [], _ :: _, _ :: _, _, _ => rfl
  | _ :: _, [], _, h, _ => by simp [ltCps] at h
  | _ :: _, _ :: _, [], _, h => by simp [ltCps] at h
  | a :: r, b :: t, c :: u, h1, h2 => by
    simp [ltCps] at h1 h2 ⊢
    rcases h1 with h1 | ⟨rfl, h1⟩
    · rcases h2 with h2 | ⟨rfl, h2⟩
      · exact .inl (by omega)
      · exact .inl h1
    · rcases h2 with h2 | ⟨rfl, h2⟩
      · exact .inl h2
      · exact .inr ⟨rfl, cps_tr r t u h1 h2⟩
theorem str_ext {x y : Str} (h : x.cps.toList = y.cps.toList) : x = y := by
  obtain ⟨⟨a⟩⟩ := x
  obtain ⟨⟨b⟩⟩ := y
  have h : a = b := h
  rw [h]
theorem totS : Tot ltS := ⟨fun x => cps_irr _, fun x y h1 h2 => str_ext (cps_tri _ _ h1 h2), fun x y z h1 h2 => cps_tr _ _ _ h1 h2⟩
theorem risS : ∀ (l : List Str) (p : Str), PyProof.Rows.risingS p l = true → (p :: l).Pairwise (fun x y => ltS y x = false)
  | [], p, _ => List.pairwise_singleton _ _
  | x :: r, p, h => by
    have h : (!ltCps x.cps.toList p.cps.toList && PyProof.Rows.risingS x r) = true := h
    rw [Bool.and_eq_true, Bool.not_eq_true'] at h
    have ih := risS r x h.2
    refine List.pairwise_cons.mpr ⟨fun z hz => ?_, ih⟩
    rcases List.mem_cons.mp hz with e | hz
    · rw [e]; exact h.1
    · exact totS.le (show ltS x p = false from h.1) ((List.pairwise_cons.mp ih).1 z hz)
theorem pwS {l : List Str} (h : PyProof.Rows.sortedS l = true) : l.Pairwise (fun x y => ltS y x = false) := by
  cases l with
  | nil => exact List.Pairwise.nil
  | cons x r => exact risS r x h
end KF

set_option Elab.async false
set_option linter.all false
set_option maxRecDepth 100000
set_option maxHeartbeats 4000000
/-! V2: the resolved syntax; operations by values -/
namespace KF
open PySem PySem.Spec PyProof.Rows L2
inductive O2 where | add | sub | mul | fdiv | mod | pow
inductive C2 where | eq | ne | lt | le | gt | ge | inn | nin
inductive Bi where | len | min | max | int | list | tuple | all | any | sorted | sum | str | dict | bool | lstM | srtM
inductive Ty where | list | tuple | int | bool | str | dict | cls (c : Nat)
/-- methods of builtin types; app, ext, pop0: they change what they are of -/
inductive Bm where | index | count | get | join | app | pop | setd
mutual
inductive Tg where | n (i : Nat) | t (ts : Tgs)
inductive Tgs where | nil | cons (t : Tg) (r : Tgs)
end
mutual
inductive E where
  | v (i : Nat) | kn | kb (b : Bool) | ki (i : Int) | ks (x : Str) | g (k : Nat)
  | op (o : O2) (a b : E) | neg (a : E) | cmp (o : C2) (a b : E) | chn (o p : C2) (a b c : E) | isn (ng : Bool) (a : E)
  | and (a b : E) | or (a b : E) | not (a : E) | ite (t a b : E)
  | call (f : Nat) (as : Es) | bi (b : Bi) (as : Es) | isi (a : E) (ts : List Ty)
  | tup (as : Es) | lst (fz : Bool) (as : Es) | ix (a i : E) | slc (a lo hi : E) | rev (a : E) | fx (i : Nat) (f : Str)
  | lc (fz : Bool) (e : E) (tg : Tg) (it : It) (cs : Cs) | lrng (a : E)
  | dd (fz : Bool) (kvs : Es) | dc (fz : Bool) (k e : E) (tg : Tg) (it : It) (cs : Cs)
  | at_ (a : E) (f : Str) | mk (c : Nat) (as : Es) | mt (a : E) (m : Str) (as : Es) | bm (m : Bm) (a : E) (as : Es) | srk (a : E) (f : Nat)
inductive Es where | nil | cons (e : E) (r : Es) | star (e : E) (r : Es)
inductive It where | val (e : E) | rng (a : E) | rng2 (a b : E) | enum (a : E) | zip (a b : E) | items (a : E) | vals (a : E)
inductive Cs where | no | one (e : E)
end
/-! ### operations by values -/
def mulOk (i j : Int) : Bool := (decide (-(2 ^ 64) < i) && decide (i < 2 ^ 64)) || (decide (-(2 ^ 64) < j) && decide (j < 2 ^ 64))
def lstOf (S : Store) : D → Option (List D)
  | .lst xs => some xs
  | .loc n => match S[n]? with
    | some (.lst xs) => some xs
    | some (.lkl xs) => some xs
    | _ => none
  | _ => none
/-- a list's or a tuple's items -/
def items (S : Store) : D → Option (List D)
  | .tup xs => some xs
  | d => lstOf S d
def dicOf (S : Store) : D → Option (Bool × List D × List D)
  | .dic t ks vs => some (t, ks, vs)
  | .loc n => match S[n]? with
    | some (.dic t ks vs) => some (t, ks, vs)
    | some (.lck t ks vs) => some (t, ks, vs)
    | _ => none
  | _ => none
/-- an instance's class -/
def clsOf (S : Store) : D → Option Nat
  | .ins c _ => some c
  | .loc n => match S[n]? with
    | some (.ins c _) => some c
    | _ => none
  | _ => none
/-- an instance's fields -/
def fldsOf (S : Store) : D → Option (Nat × List (Option D))
  | .ins c fs => some (c, fs.map some)
  | .loc n => match S[n]? with
    | some (.ins c fs) => some (c, fs)
    | _ => none
  | _ => none
def dop : O2 → D → D → Option D
  | .add, .int i, .int j => some (.int (i + j))
  | .add, .str i, .str j => if i.length + j.length ≤ sizeLine then some (.str (i ++ j)) else none
  | .sub, .int i, .int j => some (.int (i - j))
  | .mul, .int i, .int j => if mulOk i j = true then some (.int (i * j)) else none
  | .fdiv, .int i, .int j => if 0 < j ∧ j < 1073741824 then some (.int (i / j)) else none
  | .mod, .int i, .int j => if 0 < j then some (.int (i % j)) else none
  | .pow, .int i, .int j => if 0 ≤ j ∧ j ≤ 1000000 ∧ i.natAbs < 2 ^ 64 then some (.int (i ^ j.toNat)) else none
  | _, _, _ => none
/-- + on lists, tuples -/
def dcat (S : Store) (x y : D) : Option D := match x, y with
  | .tup xs, .tup ys => if xs.length + ys.length ≤ sizeLine then some (.tup (xs ++ ys)) else none
  | x, y => match lstOf S x, lstOf S y with
    | some xs, some ys => if xs.length + ys.length ≤ sizeLine then some (.lst (xs ++ ys)) else none
    | _, _ => none
def dop2 (S : Store) (o : O2) (x y : D) : Option D := match dop o x y with
  | some d => some d
  | none => match o with
    | .add => dcat S x y
    | _ => none
/-- op= on what never changes -/
def dopI : O2 → D → D → Option D
  | .add, .int i, .int j => some (.int (i + j))
  | .add, .str i, .str j => if i.length + j.length ≤ sizeLine then some (.str (i ++ j)) else none
  | .sub, .int i, .int j => some (.int (i - j))
  | _, _, _ => none
mutual
def D.py : D → Option PyData
  | .non => some .none
  | .bl b => some (.bool b)
  | .int i => some (.int i)
  | .str x => some (.str x)
  | .tup xs => (D.pys xs).map .tuple
  | .lst xs => (D.pys xs).map .list
  | .loc _ => none
  | .dic _ _ _ => none
  | .ins _ _ => none
def D.pys : List D → Option (List PyData)
  | [] => some []
  | x :: xs => match D.py x, D.pys xs with
    | some d, some ds => some (d :: ds)
    | _, _ => none
end
/-- a value as it is now, to be read; an instance that may change stays -/
def pur (S : Store) : Nat → D → Option D
  | 0, _ => none
  | k + 1, d => match d with
    | .loc i => match S[i]? with
      | some (.lst xs) => match mapO (pur S k) xs with
        | some ys => some (.lst ys)
        | none => none
      | some (.dic t ks vs) => match mapO (pur S k) vs with
        | some ys => some (.dic t ks ys)
        | none => none
      | some (.lck t ks vs) => match mapO (pur S k) vs with
        | some ys => some (.dic t ks ys)
        | none => none
      | some (.ins _ _) => some (.loc i)
      | some (.lkl xs) => match mapO (pur S k) xs with
        | some ys => some (.lst ys)
        | none => none
      | none => none
    | .tup xs => match mapO (pur S k) xs with
      | some ys => some (.tup ys)
      | none => none
    | .lst xs => match mapO (pur S k) xs with
      | some ys => some (.lst ys)
      | none => none
    | .dic t ks vs => match mapO (pur S k) vs with
      | some ys => some (.dic t ks ys)
      | none => none
    | d => some d
def deqP (x y : D) : Option Bool := match x.py, y.py with
  | some d, some e => if SeqAt.shaped d = true ∧ SeqAt.shaped e = true then some (PyData.eqv d e) else none
  | _, _ => none
def zipO (f : D → D → Option Bool) : List D → List D → Option Bool
  | [], [] => some true
  | x :: xs, y :: ys => match f x y, zipO f xs ys with
    | some a, some b => some (a && b)
    | _, _ => none
  | _, _ => none
def keyEq (x y : D) : Bool := match fkey x, fkey y with
  | some a, some b => decide (a = b)
  | _, _ => match tkey x, tkey y with
    | some a, some b => decide (a = b)
    | _, _ => false
def lookD (k : D) : List D → List D → Option D
  | q :: ks, v :: vs => if keyEq k q = true then some v else lookD k ks vs
  | _, _ => none
/-- each of these stands in the other dict, alike -/
def hitsD (f : D → D → Option Bool) (ks' vs' : List D) : List D → List D → Option Bool
  | k :: ks, v :: vs => match lookD k ks' vs', hitsD f ks' vs' ks vs with
    | some w, some b => match f v w with
      | some a => some (a && b)
      | none => none
    | none, some _ => some false
    | _, none => none
  | [], [] => some true
  | _, _ => none
def nodupK : List D → Bool
  | [] => true
  | k :: r => (fkey k).isSome && (!(r.any fun q => keyEq k q) && nodupK r)
/-- ==, dicts among them -/
def eqX : Nat → D → D → Option Bool
  | 0, _, _ => none
  | k + 1, x, y => match deqP x y with
    | some b => some b
    | none => match x, y with
      | .loc n, .loc m => if n = m then some true else none
      | .tup xs, .tup ys => if xs.length = ys.length then zipO (eqX k) xs ys else none
      | .dic false ks vs, .dic false ks' vs' => if ks.length = vs.length ∧ ks'.length = vs'.length ∧ nodupK ks = true ∧ nodupK ks' = true then (if ks.length = ks'.length then hitsD (eqX k) ks' vs' ks vs else some false) else none
      | _, _ => none
def isLoc : D → Bool
  | .loc _ => true
  | _ => false
def deq (S : Store) (x y : D) : Option Bool := match pur S 64 x, pur S 64 y with
  | some x', some y' => if isLoc x' = true then none else eqX 60 x' y'
  | _, _ => none
def nb (ng b : Bool) : Bool := if ng = true then !b else b
def dEq (S : Store) (ng : Bool) (x y : D) : Option D := match deq S x y with
  | some b => some (.bl (nb ng b))
  | none => none
def D.flat : D → Bool
  | .non | .bl _ | .int _ | .str _ => true
  | _ => false
def D.toV : D → V
  | .non => .non
  | .bl b => .bl b
  | .int i => .int i
  | .str x => .str x
  | _ => .non
/-- x in xs -/
def din (S : Store) (x : D) (xs : List D) : Option Bool := if x.flat = true ∧ xs.all D.flat = true then some (xs.any fun y => eqV y.toV x.toV) else (match pur S 64 x, mapO (pur S 64) xs with
  | some x', some ys => match x'.py, D.pys ys with
    | some d, some ds => if SeqAt.shaped d = true ∧ SeqAt.shaped (.list ds) = true ∧ SeqAt.shaped (.tuple ds) = true then some (ds.any fun z => PyData.eqv z d) else none
    | _, _ => none
  | _, _ => none)
def dIn (S : Store) (ng : Bool) (x y : D) : Option D := match items S y with
  | some ys => match din S x ys with
    | some b => some (.bl (nb ng b))
    | none => none
  | none => match dicOf S y with
    | some (false, ks, vs) => if (fkey x).isSome = true then some (.bl (nb ng (lookD x ks vs).isSome)) else none
    | some (true, _, _) => none
    | none => match x, y with
      | .str a, .str b => match a.cps.toList with
        | [c] => some (.bl (nb ng (b.cps.toList.contains c)))
        | _ => none
      | _, _ => none
def dRel (p : Int → Int → Bool) : D → D → Option D
  | .int i, .int j => some (.bl (p i j))
  | _, _ => none
def dcmp (S : Store) : C2 → D → D → Option D
  | .eq, x, y => dEq S false x y
  | .ne, x, y => dEq S true x y
  | .lt, x, y => dRel (fun i j => decide (i < j)) x y
  | .le, x, y => dRel (fun i j => decide (i ≤ j)) x y
  | .gt, x, y => dRel (fun i j => decide (j < i)) x y
  | .ge, x, y => dRel (fun i j => decide (j ≤ i)) x y
  | .inn, x, y => dIn S false x y
  | .nin, x, y => dIn S true x y
def dix (S : Store) (x y : D) : Option D := match items S x, y with
  | some xs, .int i => atI xs i
  | some xs, _ => none
  | none, y => match dicOf S x with
    | some (false, ks, vs) => if (fkey y).isSome = true then lookD y ks vs else none
    | some (true, _, _) => none
    | none => match x, y with
      | .str z, .int i => if z.length ≤ sizeLine then (match atI z.cps.toList i with
        | some c => some (.str ⟨#[c]⟩)
        | none => none) else none
      | _, _ => none
end KF

set_option Elab.async false
set_option linter.all false
set_option maxRecDepth 100000
set_option maxHeartbeats 4000000
/-! V2b: builtins and methods by values -/
namespace KF
open PySem PySem.Spec PyProof.Rows L2
def D.isInt : D → Option Int
  | .int i => some i
  | _ => none
def D.isBl : D → Option Bool
  | .bl b => some b
  | _ => none
def D.isStr : D → Option Str
  | .str x => some x
  | _ => none
def leastI : List Int → Int → Int
  | [], m => m
  | x :: xs, m => leastI xs (if x < m then x else m)
def mostI : List Int → Int → Int
  | [], m => m
  | x :: xs, m => mostI xs (if m < x then x else m)
def dLen (S : Store) : List D → Option D
  | [x] => match items S x with
    | some xs => some (.int xs.length)
    | none => match dicOf S x with
      | some (false, ks, _) => some (.int ks.length)
      | some (true, _, _) => none
      | none => match x with
        | .str z => if z.length ≤ sizeLine then some (.int z.length) else none
        | _ => none
  | _ => none
def dMin (S : Store) : List D → Option D
  | [x] => match lstOf S x with
    | some xs => match mapO D.isInt xs with
      | some (n :: ns) => some (.int (leastI ns n))
      | _ => none
    | none => none
  | [.int i, .int j] => some (.int (if j < i then j else i))
  | _ => none
def dMax (S : Store) : List D → Option D
  | [x] => match lstOf S x with
    | some xs => match mapO D.isInt xs with
      | some (n :: ns) => some (.int (mostI ns n))
      | _ => none
    | none => none
  | [.int i, .int j] => some (.int (if j > i then j else i))
  | _ => none
def dInt : List D → Option D
  | [.int i] => some (.int i)
  | [.bl b] => some (.int (if b = true then 1 else 0))
  | _ => none
/-- list(x): of a list, a tuple, a dict's keys (ints, texts), a text -/
def dList (S : Store) : List D → Option (List D)
  | [x] => match items S x with
    | some xs => some xs
    | none => match dicOf S x with
      | some (false, ks, _) => some ks
      | _ => none
  | _ => none
def dTuple (S : Store) : List D → Option D
  | [x] => match x with
    | .tup xs => some (.tup xs)
    | x => match lstOf S x with
      | some xs => some (.tup xs)
      | none => none
  | _ => none
def dAll (S : Store) (f : List Bool → Bool) : List D → Option D
  | [x] => match lstOf S x with
    | some xs => match mapO D.isBl xs with
      | some bs => some (.bl (f bs))
      | none => none
    | none => none
  | _ => none
def sgns (z : Str) : List D := z.cps.toList.map fun c => D.str ⟨#[c]⟩
/-- sorted: of ints, of texts -/
def sortL (xs : List D) : Option (List D) := match mapO D.isInt xs with
  | some ns => some ((sortB ltI ns).map D.int)
  | none => match mapO D.isStr xs with
    | some zs => if zs.length < 64 then some ((sortB ltS zs).map D.str) else none
    | none => none
def dSort (S : Store) : List D → Option (List D)
  | [x] => match lstOf S x with
    | some xs => sortL xs
    | none => match dicOf S x with
      | some (false, ks, _) => if ks.length < 64 then sortL ks else none
      | some (true, _, _) => none
      | none => match x with
        | .str z => if z.cps.size < 64 then some ((sortB ltS (z.cps.toList.map fun c => (⟨#[c]⟩ : Str))).map D.str) else none
        | _ => none
  | _ => none
def dSum (S : Store) : List D → Option D
  | [x] => match lstOf S x with
    | some xs => match mapO D.isInt xs with
      | some ns => some (.int ns.sum)
      | none => none
    | none => none
  | _ => none
def repD (k v : D) : List D → List D → List D
  | q :: ks, w :: vs => (if keyEq k q = true then v else w) :: repD k v ks vs
  | _, _ => []
/-- a dict's pair, put -/
def putD (k v : D) (ks vs : List D) : List D × List D := if (ks.any fun q => keyEq k q) = true then (ks, repD k v ks vs) else (ks ++ [k], vs ++ [v])
/-- pairs put in, one behind another -/
def mergeD : List D → List D × List D → Option (List D × List D)
  | [], acc => some acc
  | .tup [k, v] :: r, acc => if (fkey k).isSome = true then mergeD r (putD k v acc.1 acc.2) else none
  | _, _ => none
def mergeP : List D → List D × List D → Option (List D × List D)
  | [], acc => some acc
  | k :: v :: r, acc => if (fkey k).isSome = true then mergeP r (putD k v acc.1 acc.2) else none
  | _, _ => none
/-- dict(x): a copy -/
def dDict (S : Store) : List D → Option (List D × List D)
  | [x] => match dicOf S x with
    | some (false, ks, vs) => some (ks, vs)
    | _ => none
  | _ => none
def dStr : List D → Option D
  | [.int i] => if i.natAbs.log2 < 1920 then some (.str (toString i)) else none
  | [.str x] => some (.str x)
  | _ => none
/-- the new list, if there is one, comes out on the left -/
def dbi (S : Store) : Bi → List D → Option D
  | .len, ds => dLen S ds
  | .min, ds => dMin S ds
  | .max, ds => dMax S ds
  | .int, ds => dInt ds
  | .tuple, ds => dTuple S ds
  | .all, ds => dAll S (fun bs => bs.all id) ds
  | .any, ds => dAll S (fun bs => bs.any id) ds
  | .sum, ds => dSum S ds
  | .str, ds => dStr ds
  | .list, ds => match dList S ds with
    | some xs => some (.lst xs)
    | none => none
  | .sorted, ds => match dSort S ds with
    | some xs => some (.lst xs)
    | none => none
  | .bool, _ => none
  | .dict, _ => none
  | .lstM, _ => none
  | .srtM, _ => none
def firstAt (x : D) : List D → Nat → Option Nat
  | [], _ => none
  | y :: r, n => match deqP y x with
    | some true => some n
    | some false => firstAt x r (n + 1)
    | none => none
def dIndex (S : Store) (x : D) : List D → Option D
  | [y] => match items S x with
    | some xs => match firstAt y xs 0 with
      | some n => some (.int n)
      | none => none
    | none => match x, y with
      | .str a, .str b => match Builtin.Str.occurrences a b 0 a.length 1 with
        | i :: _ => some (.int i)
        | [] => none
      | _, _ => none
  | _ => none
def dCount (S : Store) (x : D) : List D → Option D
  | [y] => match lstOf S x with
    | some xs => match mapO D.isStr xs, y with
      | some zs, .str z => some (.int (zs.count z))
      | _, _ => none
    | none => none
  | _ => none
def dGet (S : Store) (x : D) : List D → Option D
  | [k] => match dicOf S x with
    | some (false, ks, vs) => if (fkey k).isSome = true then some ((lookD k ks vs).getD .non) else none
    | _ => none
  | [k, d] => match dicOf S x with
    | some (false, ks, vs) => if (fkey k).isSome = true then some ((lookD k ks vs).getD d) else none
    | _ => none
  | _ => none
def dJoin (S : Store) (x : D) : List D → Option D
  | [y] => match x with
    | .str z => (match items S y with
      | some xs => match mapO D.isStr xs with
        | some zs => if (zs.map (·.length)).sum + zs.length * z.length ≤ 1000000 then some (.str (Txt.join z zs)) else none
        | none => none
      | none => none)
    | _ => none
  | _ => none
/-- methods that change nothing -/
def dbm (S : Store) : Bm → D → List D → Option D
  | .index, x, ds => dIndex S x ds
  | .count, x, ds => dCount S x ds
  | .get, x, ds => dGet S x ds
  | .join, x, ds => dJoin S x ds
  | _, _, _ => none
/-- a slice of a text, a tuple, a list -/
def optI : D → Option (Option Int)
  | .non => some none
  | .int i => some (some i)
  | _ => none
inductive Kd where | non | bl | int | str | tup | lst | dict | cls (c : Nat)
def D.kd (S : Store) : D → Option Kd
  | .non => some .non
  | .bl _ => some .bl
  | .int _ => some .int
  | .str _ => some .str
  | .tup _ => some .tup
  | d => match lstOf S d with
    | some _ => some .lst
    | none => match dicOf S d with
      | some (false, _, _) => some .dict
      | some (true, _, _) => none
      | none => match clsOf S d with
        | some c => some (.cls c)
        | none => none
def Ty.hasK : Ty → Kd → Bool
  | .list, .lst => true
  | .tuple, .tup => true
  | .int, .int => true
  | .int, .bl => true
  | .bool, .bl => true
  | .str, .str => true
  | .dict, .dict => true
  | .cls c, .cls k => c == k
  | _, _ => false
end KF

set_option Elab.async false
set_option linter.all false
set_option maxRecDepth 100000
set_option maxHeartbeats 4000000
/-! V2c: the evaluation of expressions -/
namespace KF
open PySem PySem.Spec PyProof.Rows L2
mutual
def asg : Tg → D → Env → Option Env
  | .n i, d, env => if i < env.length then some (env.set i (some d)) else none
  | .t ts, .tup ds, env => asgs ts ds env
  | .t _, _, _ => none
def asgs : Tgs → List D → Env → Option Env
  | .nil, [], env => some env
  | .cons t r, d :: ds, env => match asg t d env with
    | some env' => asgs r ds env'
    | none => none
  | _, _, _ => none
end
mutual
def Tg.sl : Tg → List Nat
  | .n i => [i]
  | .t ts => ts.sl
def Tgs.sl : Tgs → List Nat
  | .nil => []
  | .cons t r => t.sl ++ r.sl
end
def wipeE (env : Env) : List Nat → Env
  | [] => env
  | v :: vs => (wipeE env vs).set v none
structure Cfg where
  call : Nat → List D → Store → R D
  glob : Nat → Option D
  ef : Nat → List Str
  cur : Option (Nat × List D)
  sub : Nat → Nat → Bool
  cf : Nat → List Str
  mth : Nat → Str → Option Nat
  fuel : Nat
  fzc : Nat → Bool
def D.isNon : D → Bool
  | .non => true
  | _ => false
def isnB (ng : Bool) (x : D) : Bool := if ng = true then !x.isNon else x.isNon
def lift (o : Option D) (S : Store) : R D := match o with
  | some d => .ok d S
  | none => .bad
def asB (d : D) (S : Store) : R Bool := match d with
  | .bl b => .ok b S
  | _ => .bad
/-- the truth of a value -/
def asT (c : Cfg) (d : D) (S : Store) : R Bool := match d with
  | .bl b => .ok b S
  | .non => .ok false S
  | .int i => .ok (i != 0) S
  | .str x => if x.length ≤ sizeLine then .ok (x.length != 0) S else .bad
  | d => match items S d with
    | some xs => .ok (!xs.isEmpty) S
    | none => match dicOf S d with
      | some (false, ks, _) => .ok (!ks.isEmpty) S
      | some (true, _, _) => .bad
      | none => match clsOf S d with
        | some k => match c.mth k "__bool__" with
          | some f => (c.call f [d] S).bind asB
          | none => .bad
        | none => .bad
/-- a value, or its truth -/
def tst (c : Cfg) (tm : Bool) (r : R D) : R D := if tm = true then (r.bind (asT c)).bind fun b S => .ok (.bl b) S else r
def lcL (f : D → Store → R (Option D)) : List D → Store → R (List D)
  | [], S => .ok [] S
  | x :: xs, S => (f x S).bind fun o S1 => (lcL f xs S1).bind fun r S2 => .ok (match o with
    | some y => y :: r
    | none => r) S2
/-- a dict comprehension's turns -/
def dcL (f : D → Store → R (Option (D × D))) : List D → List D × List D → Store → R (List D × List D)
  | [], acc, S => .ok acc S
  | x :: xs, acc, S => (f x S).bind fun o S1 => match o with
    | some (k, v) => if (fkey k).isSome = true ∧ acc.1.length < sizeLine then dcL f xs (putD k v acc.1 acc.2) S1 else .bad
    | none => dcL f xs acc S1
def noexc {α : Type} : R α → R α
  | .exc _ _ _ => .bad
  | r => r
def finL (fz : Bool) (ys : List D) (S : Store) : R D := if ys.length ≤ sizeLine then (if fz = true then .ok (.lst ys) S else .ok (.loc S.length) (S ++ [.lst ys])) else .bad
def finD (fz : Bool) (ks vs : List D) (S : Store) : R D := if fz = true then .ok (.dic false ks vs) S else .ok (.loc S.length) (S ++ [.dic false ks vs])
def rngD (a n : Int) : List D := (List.range (n - a).toNat).map fun (i : Nat) => D.int (a + (i : Int))
def rngIt (a b : D) (S : Store) : R (List D) := match a, b with
  | .int a, .int n => if -(2 ^ 62) ≤ a ∧ a < 2 ^ 62 ∧ -(2 ^ 62) ≤ n ∧ n < 2 ^ 62 then .ok (rngD a n) S else .bad
  | _, _ => .bad
def pairs : List D → List D → List D
  | x :: xs, y :: ys => .tup [x, y] :: pairs xs ys
  | _, _ => []
def enumD : List D → Nat → List D
  | [], _ => []
  | x :: xs, n => .tup [.int n, x] :: enumD xs (n + 1)
/-- a dict that is locked -/
def lckOf (S : Store) : D → Option (List D × List D)
  | .dic false ks vs => some (ks, vs)
  | .loc n => match S[n]? with
    | some (.lck false ks vs) => some (ks, vs)
    | _ => none
  | _ => none
def seqIt (d : D) (S : Store) : R (List D) := match items S d with
  | some xs => (match d with
    | .loc n => (match S[n]? with
      | some (.lkl _) => .ok xs S
      | _ => .bad)
    | _ => .ok xs S)
  | none => match lckOf S d with
    | some (ks, _) => .ok ks S
    | none => match d with
      | .str z => .ok (sgns z) S
      | _ => .bad
def curX (c : Cfg) (f : Str) : Option D := match c.cur with
  | some (k, fs) => ((c.ef k).zip fs).reverse.lookup f
  | none => none
def placeOf (f : Str) : List Str → Nat → Option Nat
  | [], _ => none
  | g :: r, n => if f = g then some n else placeOf f r (n + 1)
def fieldOf (c : Cfg) (S : Store) (d : D) (f : Str) : Option D := match fldsOf S d with
  | some (k, fs) => match placeOf f (c.cf k) 0 with
    | some i => (fs[i]?).join
    | none => none
  | none => none
def cutL {α : Type} (xs : List α) (lo hi : Option Int) : List α := (xs.drop (HT.sIx xs.length 0 lo)).take (HT.sIx xs.length xs.length hi - HT.sIx xs.length 0 lo)
def dslc (S : Store) (x : D) (l h : Option Int) : Option D := match x with
  | .tup xs => some (.tup (cutL xs l h))
  | .str z => if z.length ≤ sizeLine then some (.str ⟨(cutL z.cps.toList l h).toArray⟩) else none
  | x => match lstOf S x with
    | some xs => some (.lst (cutL xs l h))
    | none => none
def E.isKn : E → Bool
  | .kn => true
  | _ => false
/-- a part of a slice -/
def prt (b : Bool) (y : D) : Option (Option Int) := if b = true then some none else match y with
  | .int i => some (some i)
  | _ => none
def drev (S : Store) (x : D) : Option D := match lstOf S x with
  | some xs => some (.lst xs.reverse)
  | none => none
def bmApp (S : Store) (x : D) : List D → R D
  | [y] => match x with
    | .loc n => (match S[n]? with
      | some (.lst xs) => if xs.length < sizeLine then .ok .non (S.set n (.lst (xs ++ [y]))) else .bad
      | _ => .bad)
    | _ => .bad
  | _ => .bad
def bmPop (S : Store) (x : D) : List D → R D
  | [] => match x with
    | .loc n => (match S[n]? with
      | some (.lst xs) => match xs.reverse with
        | y :: r => .ok y (S.set n (.lst r.reverse))
        | [] => .bad
      | _ => .bad)
    | _ => .bad
  | _ => .bad
/-- methods that change what they are of -/
def bmut (S : Store) : Bm → D → List D → R D
  | .app, x, ds => bmApp S x ds
  | .pop, x, ds => bmPop S x ds
  | .setd, _, _ => .bad
  | m, x, ds => lift (dbm S m x ds) S
/-- what a method may be of -/
def bmK (S : Store) (m : Bm) (x : D) : Bool := match m with
  | .index => (match x with | .tup _ => true | .str _ => true | x => (lstOf S x).isSome)
  | .count | .app | .pop => (lstOf S x).isSome
  | .get | .setd => (match dicOf S x with | some (false, _, _) => true | _ => false)
  | .join => (match x with | .str _ => true | _ => false)
/-- a dict that is walked is locked meanwhile -/
def lockS (S : Store) (n : Nat) : Option Store := match S[n]? with
  | some (.dic t ks vs) => some (S.set n (.lck t ks vs))
  | some (.lst xs) => some (S.set n (.lkl xs))
  | _ => none
def unlS (S : Store) (n : Nat) : Option Store := match S[n]? with
  | some (.lck t ks vs) => some (S.set n (.dic t ks vs))
  | some (.lkl xs) => some (S.set n (.lst xs))
  | _ => none
def pth (c : Cfg) : E → Env → Store → Option D
  | .v i, env, _ => (env[i]?).join
  | .at_ a f, env, S => match pth c a env S with
    | some d => fieldOf c S d f
    | none => none
  | _, _, _ => none
def pthI (c : Cfg) : It → Env → Store → Option D
  | .val e, env, S => pth c e env S
  | .items e, env, S => pth c e env S
  | .vals e, env, S => pth c e env S
  | _, _, _ => none
/-- the loose dict that is walked, if one is -/
def lkI (c : Cfg) (it : It) (env : KF.Env) (S : Store) : Option Nat := match pthI c it env S with
  | some (.loc n) => match S[n]? with
    | some (.dic false _ _) => some n
    | some (.lst _) => some n
    | _ => none
  | _ => none
def unlD (n : Nat) : R D → R D
  | .ok d S => (match unlS S n with | some S' => .ok d S' | none => .bad)
  | _ => .bad
def walkE (c : Cfg) (it : It) (env : KF.Env) (S : Store) (f : Store → R D) : R D := match lkI c it env S with
  | some n => (match lockS S n with
    | some S0 => unlD n (f S0)
    | none => .bad)
  | none => f S
def lcF (tg : Tg) (env : KF.Env) (fc : KF.Env → Store → R Bool) (fe : KF.Env → Store → R D) (x : D) (S : Store) : R (Option D) := match asg tg x (wipeE env tg.sl) with
  | some env' => (fc env' S).bind fun b S1 => if b = true then (fe env' S1).bind fun y S2 => .ok (some y) S2 else .ok none S1
  | none => .bad
def dcF (tg : Tg) (env : KF.Env) (fc : KF.Env → Store → R Bool) (fk fe : KF.Env → Store → R D) (x : D) (S : Store) : R (Option (D × D)) := match asg tg x (wipeE env tg.sl) with
  | some env' => (fc env' S).bind fun b S1 => if b = true then (fk env' S1).bind fun y S2 => (fe env' S2).bind fun z S3 => .ok (some (y, z)) S3 else .ok none S1
  | none => .bad
def kdOk (c : Cfg) : Kd → Bool
  | .cls k => (c.mth k "__init__").isSome
  | _ => true
/-- == and != by a class's own way, else by content -/
def eqV (c : Cfg) (ng : Bool) (x y : D) (S : Store) : R D := match clsOf S x with
  | some k => match c.mth k "__eq__" with
    | some f => (match y.kd S with
      | some kd => if kdOk c kd = true then ((c.call f [x, y] S).bind asB).bind fun b S1 => .ok (.bl (nb ng b)) S1 else .bad
      | none => .bad)
    | none => .bad
  | none => lift (dEq S ng x y) S
def cmpV (c : Cfg) (o : C2) (x y : D) (S : Store) : R D := match o with
  | .eq => eqV c false x y S
  | .ne => eqV c true x y S
  | o => lift (dcmp S o x y) S
def starD (S : Store) (d : D) : R (List D) := match items S d with
  | some xs => .ok xs S
  | none => .bad
def newI (c : Cfg) (k : Nat) : Ob := .ins k ((c.cf k).map fun _ => none)
/-- an instance is made -/
def newO (c : Cfg) (k f : Nat) (ds : List D) (S1 : Store) : R D := (c.call f (.loc S1.length :: ds) (S1 ++ [newI c k])).bind fun d S2 => match d with
  | .non => .ok (.loc S1.length) S2
  | _ => .bad
/-- one of a class whose instances stay as they are: frozen -/
def mkR (c : Cfg) (k : Nat) (ds : List D) (S1 : Store) : R D := match c.mth k "__init__" with
  | some f => if c.fzc k = true then (if lows 0 ds = true then frR S1 (gcR 0 (newO c k f ds [])) else gcR S1.length (newO c k f ds S1)) else newO c k f ds S1
  | none => .bad
mutual
def ev (c : Cfg) : E → Bool → KF.Env → Store → R D
  | .v i, tm, env, S => tst c tm (lift ((env[i]?).join) S)
  | .kn, tm, _, S => tst c tm (.ok .non S)
  | .kb b, tm, _, S => tst c tm (.ok (.bl b) S)
  | .ki i, tm, _, S => tst c tm (.ok (.int i) S)
  | .ks x, tm, _, S => tst c tm (.ok (.str x) S)
  | .g k, tm, _, S => tst c tm (lift (c.glob k) S)
  | .op o a b, tm, env, S => tst c tm ((ev c a false env S).bind fun x S1 => (ev c b false env S1).bind fun y S2 => lift (dop2 S2 o x y) S2)
  | .neg a, tm, env, S => tst c tm ((ev c a false env S).bind fun x S1 => lift (x.isInt.map fun i => .int (-i)) S1)
  | .cmp o a b, _, env, S => (ev c a false env S).bind fun x S1 => (ev c b false env S1).bind fun y S2 => cmpV c o x y S2
  | .chn o p a b d, _, env, S => (ev c a false env S).bind fun x S1 => (ev c b false env S1).bind fun y S2 => ((cmpV c o x y S2).bind asB).bind fun t S3 => if t = true then (ev c d false env S3).bind fun z S4 => cmpV c p y z S4 else .ok (.bl false) S3
  | .isn ng a, _, env, S => (ev c a false env S).bind fun x S1 => .ok (.bl (isnB ng x)) S1
  | .and a b, tm, env, S => ((ev c a tm env S).bind asB).bind fun x S1 => if x = true then ev c b tm env S1 else .ok (.bl false) S1
  | .or a b, tm, env, S => ((ev c a tm env S).bind asB).bind fun x S1 => if x = true then .ok (.bl true) S1 else ev c b tm env S1
  | .not a, tm, env, S => if tm = true then ((ev c a true env S).bind asB).bind fun x S1 => .ok (.bl (!x)) S1 else ((ev c a false env S).bind (asT c)).bind fun x S1 => .ok (.bl (!x)) S1
  | .ite t a b, tm, env, S => ((ev c t true env S).bind asB).bind fun x S1 => if x = true then ev c a tm env S1 else ev c b tm env S1
  | .call f as, tm, env, S => tst c tm ((evs c as env S).bind fun ds S1 => c.call f ds S1)
  | .bi b as, tm, env, S => tst c tm ((evs c as env S).bind fun ds S1 => match b, ds with
    | .bool, [d] => (asT c d S1).bind fun t S2 => .ok (.bl t) S2
    | .bool, _ => .bad
    | .dict, ds => (match dDict S1 ds with
      | some (ks, vs) => finD false ks vs S1
      | none => .bad)
    | .lstM, ds => (match dbi S1 .list ds with
      | some (.lst xs) => .ok (.loc S1.length) (S1 ++ [.lst xs])
      | _ => .bad)
    | .srtM, ds => (match dbi S1 .sorted ds with
      | some (.lst xs) => .ok (.loc S1.length) (S1 ++ [.lst xs])
      | _ => .bad)
    | b, ds => lift (dbi S1 b ds) S1)
  | .isi a ts, tm, env, S => tst c tm ((ev c a false env S).bind fun x S1 => match x.kd S1 with
    | some k => if kdOk c k = true then .ok (.bl (ts.any fun t => t.hasK k)) S1 else .bad
    | none => .bad)
  | .tup as, tm, env, S => tst c tm ((evs c as env S).bind fun ds S1 => if ds.length ≤ sizeLine then .ok (.tup ds) S1 else .bad)
  | .lst fz as, tm, env, S => tst c tm ((evs c as env S).bind fun ds S1 => finL fz ds S1)
  | .ix a i, tm, env, S => tst c tm ((ev c a false env S).bind fun x S1 => (ev c i false env S1).bind fun y S2 => lift (dix S2 x y) S2)
  | .slc a l h, tm, env, S => tst c tm ((ev c a false env S).bind fun x S1 => (ev c l false env S1).bind fun y S2 => match prt l.isKn y with
    | some lo => (ev c h false env S2).bind fun z S3 => (match prt h.isKn z with
      | some hi => lift (dslc S3 x lo hi) S3
      | none => .bad)
    | none => .bad)
  | .rev a, tm, env, S => tst c tm ((ev c a false env S).bind fun x S1 => lift (drev S1 x) S1)
  | .fx _ f, tm, _, S => tst c tm (lift (curX c f) S)
  | .lc fz e tg it cs, tm, env, S => tst c tm (walkE c it env S fun S0 => (evI c it env S0).bind fun xs S1 => (noexc (lcL (lcF tg env (fun env' S' => evC c cs env' S') (fun env' S' => ev c e false env' S')) xs S1)).bind fun ys S5 => finL fz ys S5)
  | .lrng a, tm, env, S => tst c tm ((ev c a false env S).bind fun x S1 => match x with
    | .int n => if 0 ≤ n ∧ n ≤ 1000000 then .ok (.lst (rngD 0 n)) S1 else .bad
    | _ => .bad)
  | .dd fz kvs, tm, env, S => tst c tm ((noexc (evs c kvs env S)).bind fun ds S1 => match mergeP ds ([], []) with
    | some r => if ds.length ≤ 30 then finD fz r.1 r.2 S1 else .bad
    | none => .bad)
  | .dc fz k e tg it cs, tm, env, S => tst c tm (walkE c it env S fun S0 => (evI c it env S0).bind fun xs S1 => (noexc (dcL (dcF tg env (fun env' S' => evC c cs env' S') (fun env' S' => ev c k false env' S') (fun env' S' => ev c e false env' S')) xs ([], []) S1)).bind fun r S5 => finD fz r.1 r.2 S5)
  | .at_ a f, tm, env, S => tst c tm ((ev c a false env S).bind fun x S1 => lift (fieldOf c S1 x f) S1)
  | .mk k as, tm, env, S => tst c tm ((evs c as env S).bind fun ds S1 => mkR c k ds S1)
  | .mt a m as, tm, env, S => tst c tm ((ev c a false env S).bind fun x S1 => match (clsOf S1 x).bind fun k => c.mth k m with
    | some f => (evs c as env S1).bind fun ds S2 => c.call f (x :: ds) S2
    | none => .bad)
  | .bm m a as, tm, env, S => tst c tm ((ev c a false env S).bind fun x S1 => if bmK S1 m x = true then (evs c as env S1).bind fun ds S2 => bmut S2 m x ds else .bad)
  | .srk _ _, _, _, _ => .bad
def evs (c : Cfg) : Es → KF.Env → Store → R (List D)
  | .nil, _, S => .ok [] S
  | .cons e r, env, S => (ev c e false env S).bind fun x S1 => (evs c r env S1).bind fun xs S2 => .ok (x :: xs) S2
  | .star e r, env, S => (ev c e false env S).bind fun x S1 => (starD S1 x).bind fun ys S2 => (evs c r env S2).bind fun xs S3 => .ok (ys ++ xs) S3
def evI (c : Cfg) : It → KF.Env → Store → R (List D)
  | .val e, env, S => (ev c e false env S).bind seqIt
  | .rng a, env, S => (ev c a false env S).bind fun x S1 => rngIt (.int 0) x S1
  | .rng2 a b, env, S => (ev c a false env S).bind fun x S1 => (ev c b false env S1).bind fun y S2 => rngIt x y S2
  | .enum a, env, S => (ev c a false env S).bind fun x S1 => match items S1 x with
    | some xs => .ok (enumD xs 0) S1
    | none => .bad
  | .zip a b, env, S => (ev c a false env S).bind fun x S1 => (ev c b false env S1).bind fun y S2 => match items S2 x, items S2 y with
    | some xs, some ys => .ok (pairs xs ys) S2
    | _, _ => .bad
  | .items a, env, S => (ev c a false env S).bind fun x S1 => match lckOf S1 x with
    | some (ks, vs) => .ok (pairs ks vs) S1
    | none => .bad
  | .vals a, env, S => (ev c a false env S).bind fun x S1 => match lckOf S1 x with
    | some (_, vs) => .ok vs S1
    | none => .bad
def evC (c : Cfg) : Cs → KF.Env → Store → R Bool
  | .no, _, S => .ok true S
  | .one e, env, S => (ev c e true env S).bind asB
end
/-- a test -/
def evT (c : Cfg) (e : E) (env : KF.Env) (S : Store) : R Bool := (ev c e true env S).bind asB
end KF

set_option Elab.async false
set_option linter.all false
set_option maxRecDepth 100000
set_option maxHeartbeats 4000000
/-! V2d: the evaluation of statements -/
namespace KF
open PySem PySem.Spec PyProof.Rows L2
mutual
inductive St where
  | ex (e : E) | ret (e : E) | retN | asg (t : Tg) (e : E) | augN (i : Nat) (o : O2) (e : E) | augX (a i : E) (o : O2) (e : E) | augA (a : E) (f : Str) (o : O2) (e : E)
  | stX (a i e : E) | stA (a : E) (f : Str) (e : E)
  | ifs (t : E) (a b : Sts) | for_ (t : Tg) (it : It) (b : Sts) | whl (t : E) (b : Sts) | raise (c : Nat) (as : Es) | pass | brk | cont
  | deeds (rows : Dds) (di du fi : Nat) (x : Nat) (b h : Sts) | try_ (b : Sts) (fi x : Nat) (h : Sts)
inductive Sts where | nil | cons (s : St) (r : Sts)
inductive Dds where | nil | cons (e d : E) (r : Dds)
end
inductive RS where
  | next (env : Env) (S : Store) | ret (d : D) (S : Store) | brk (env : Env) (S : Store) | cont (env : Env) (S : Store)
  | exc (c : Nat) (fs : List D) (env : Env) (S : Store) | bad
def forL (f : D → Env → Store → RS) : List D → Env → Store → RS
  | [], env, S => .next env S
  | x :: xs, env, S => match f x env S with
    | .next env' S' => forL f xs env' S'
    | .cont env' S' => forL f xs env' S'
    | .brk env' S' => .next env' S'
    | r => r
def R.st {α : Type} (r : R α) (env : Env) (f : α → Store → RS) : RS := match r with
  | .ok a S => f a S
  | .exc c fs S => .exc c fs env S
  | .bad => .bad
def whlL (t : Env → Store → R Bool) (f : Env → Store → RS) : Nat → Env → Store → RS
  | 0, _, _ => .bad
  | k + 1, env, S => (t env S).st env fun b S1 => if b = true then match f env S1 with
      | .next env' S' => whlL t f k env' S'
      | .cont env' S' => whlL t f k env' S'
      | .brk env' S' => .next env' S'
      | r => r
    else .next env S1
def evD (c : Cfg) : Dds → Env → Store → R (List D)
  | .nil, _, S => .ok [] S
  | .cons _ d r, env, S => (ev c d false env S).bind fun x S1 => (evD c r env S1).bind fun xs S2 => .ok (x :: xs) S2
def unset (i : Nat) : RS → RS
  | .next env S => .next (env.set i none) S
  | .brk env S => .brk (env.set i none) S
  | .cont env S => .cont (env.set i none) S
  | .ret d S => .ret d S
  | _ => .bad
def deed1 (r : R D) (ok : Store → RS) (sub : Nat → Bool) (h : Nat → List D → Store → RS) : RS := match r with
  | .ok _ S => (match ok S with
    | .exc _ _ _ _ => .bad
    | r => r)
  | .exc k fs S => if sub k = true then h k fs S else .bad
  | .bad => .bad
/-- a list is extended by a list -/
def extS (n : Nat) (y : D) (env : Env) (S : Store) : RS := match S[n]?, lstOf S y with
  | some (.lst xs), some ys => if xs.length + ys.length ≤ sizeLine then .next env (S.set n (.lst (xs ++ ys))) else .bad
  | _, _ => .bad
/-- op= on a name -/
def augR (i : Nat) (o : O2) (x y : D) (env : Env) (S : Store) : RS := match dopI o x y with
  | some z => .next (env.set i (some z)) S
  | none => match o, x with
    | .add, .loc n => extS n y env S
    | _, _ => .bad
/-- a list's or a tuple's item -/
def dixL (S : Store) (x y : D) : Option D := match items S x, y with
  | some xs, .int i => atI xs i
  | _, _ => none
/-- x[k] = z; dk: a dict, too -/
def setS (dk : Bool) (x k z : D) (env : Env) (S : Store) : RS := match x with
  | .loc n => (match S[n]? with
    | some (.lst xs) => (match k with
      | .int j => (match ixN xs.length j with
        | some p => .next env (S.set n (.lst (xs.set p z)))
        | none => .bad)
      | _ => .bad)
    | some (.dic false ks vs) => if dk = true ∧ ks.length < sizeLine ∧ (fkey k).isSome = true then .next env (S.set n (.dic false (putD k z ks vs).1 (putD k z ks vs).2)) else .bad
    | _ => .bad)
  | _ => .bad
/-- x.f = z -/
def setF (c : Cfg) (x : D) (f : Str) (z : D) (env : Env) (S : Store) : RS := match x with
  | .loc n => (match S[n]? with
    | some (.ins k fs) => (match placeOf f (c.cf k) 0 with
      | some p => .next env (S.set n (.ins k (fs.set p (some z))))
      | none => .bad)
    | _ => .bad)
  | _ => .bad
def unlR (n : Nat) : RS → RS
  | .next env S => match unlS S n with | some S' => .next env S' | none => .bad
  | .ret d S => match unlS S n with | some S' => .ret d S' | none => .bad
  | .exc k fs env S => .exc k fs env S
  | _ => .bad
mutual
def exec (c : Cfg) : St → Env → Store → RS
  | .ex e, env, S => (ev c e false env S).st env fun _ S1 => .next env S1
  | .ret e, env, S => (ev c e false env S).st env fun d S1 => .ret d S1
  | .retN, _, S => .ret .non S
  | .asg t e, env, S => (ev c e false env S).st env fun d S1 => match asg t d env with
    | some env' => .next env' S1
    | none => .bad
  | .augN i o e, env, S => match (env[i]?).join with
    | some x => (ev c e false env S).st env fun y S1 => augR i o x y env S1
    | none => .bad
  | .augX a i o e, env, S => (ev c a false env S).st env fun x S1 => (ev c i false env S1).st env fun k S2 => match dixL S2 x k with
    | some old => (ev c e false env S2).st env fun y S3 => match dopI o old y with
      | some z => setS false x k z env S3
      | none => .bad
    | none => .bad
  | .augA a f o e, env, S => (ev c a false env S).st env fun x S1 => match fieldOf c S1 x f with
    | some old => (ev c e false env S1).st env fun y S2 => match dopI o old y with
      | some z => if clsOf S1 x = clsOf S2 x then setF c x f z env S2 else .bad
      | none => .bad
    | none => .bad
  | .stX a i e, env, S => (ev c e false env S).st env fun z S1 => (ev c a false env S1).st env fun x S2 => (ev c i false env S2).st env fun k S3 => setS true x k z env S3
  | .stA a f e, env, S => (ev c e false env S).st env fun z S1 => (ev c a false env S1).st env fun x S2 => setF c x f z env S2
  | .ifs t a b, env, S => (evT c t env S).st env fun x S1 => if x = true then execs c a env S1 else execs c b env S1
  | .for_ t it b, env, S => match lkI c it env S with
    | some n => (match lockS S n with
      | some S0 => unlR n ((evI c it env S0).st env fun xs S1 => forL (fun x env S => match asg t x env with
        | some env' => execs c b env' S
        | none => .bad) xs env S1)
      | none => .bad)
    | none => (evI c it env S).st env fun xs S1 => forL (fun x env S => match asg t x env with
      | some env' => execs c b env' S
      | none => .bad) xs env S1
  | .whl t b, env, S => whlL (fun env S => evT c t env S) (fun env S => execs c b env S) c.fuel env S
  | .raise k as, env, S => (evs c as env S).st env fun ds S1 => if ds.length = (c.ef k).length then .exc k ds env S1 else .bad
  | .pass, env, S => .next env S
  | .brk, env, S => .brk env S
  | .cont, env, S => .cont env S
  | .deeds rows di du fi x b h, env, S => (evD c rows env S).st env fun ds S1 => deedL c rows di du (fun env' S' => execs c b env' S') (fun k => c.sub k x) (fun k fs env' S' => unset fi (execs { c with cur := some (k, fs), mth := fun _ _ => none } h (env'.set fi none) S')) ds env S1
  | .try_ b fi x h, env, S => match execs c b env S with
    | .exc k fs env1 S1 => if c.sub k x = true then unset fi (execs { c with cur := some (k, fs), mth := fun _ _ => none } h (env1.set fi none) S1) else .exc k fs env1 S1
    | r => r
def execs (c : Cfg) : Sts → Env → Store → RS
  | .nil, env, S => .next env S
  | .cons s r, env, S => match exec c s env S with
    | .next env' S' => execs c r env' S'
    | r => r
def deedL (c : Cfg) : Dds → Nat → Nat → (Env → Store → RS) → (Nat → Bool) → (Nat → List D → Env → Store → RS) → List D → Env → Store → RS
  | .cons e _ r, di, du, b, sub, h, x :: xs, env, S => match deed1 (ev c e false ((env.set di none).set du (some x)) S) (b ((env.set di none).set du (some x))) sub (fun k fs => h k fs ((env.set di none).set du (some x))) with
    | .next env' S' => deedL c r di du b sub h xs env' S'
    | .cont env' S' => deedL c r di du b sub h xs env' S'
    | .brk env' S' => .next env' S'
    | .ret d S' => .ret d S'
    | _ => .bad
  | .nil, _, _, _, _, _, [], env, S => .next env S
  | _, _, _, _, _, _, _, _, _ => .bad
end
example (c : Cfg) (env : Env) (S : Store) : execs c (.cons (.ex .kn) (.cons (.ret (.ki 2)) .nil)) env S = .ret (.int 2) S := rfl
end KF

set_option Elab.async false
set_option linter.all false
set_option maxRecDepth 100000
set_option maxHeartbeats 4000000
/-! V3: readings by the evaluation; operators by values -/
namespace KF
open PySem PySem.Spec PyProof.Rows L2
def Cont (L : Lk) (W : WX) (σ : L2.St) {α β : Type} (Rl : Hp → Mp → α → β → Prop) (Q : β → Hp → Prop) (H : Hp) (m : Mp) : R α → Prop
  | .ok d S' => ∀ H' m' v, Ext H m H' m' → RelS L H' m' S' → Rl H' m' d v → Q v H'
  | .exc c fs S' => ∀ H' m' dx vs, Ext H m H' m' → RelS L H' m' S' → RelDs L H' m' fs vs → H' dx = some (.xd ((L.ef c).zip vs).reverse) → dx ∉ m'.locs → dx ∉ m'.pr → W (.ref (L.ea c)) (some dx) σ H'
  | .bad => False
section
variable {L : Lk} {W : WX} {σ : L2.St} {α β γ δ : Type} {Rl : Hp → Mp → α → β → Prop} {Rl2 : Hp → Mp → γ → δ → Prop} {Q Q' : β → Hp → Prop} {H H1 : Hp} {m m1 : Mp}
theorem Cont.ext (e : Ext H m H1 m1) : ∀ {r : R α}, Cont L W σ Rl Q H m r → Cont L W σ Rl Q H1 m1 r
  | .ok d S', h => fun H' m' v e' s r => h H' m' v (e.trans e') s r
  | .exc c fs S', h => fun H' m' dx vs e' s r h1 h2 h3 => h H' m' dx vs (e.trans e') s r h1 h2 h3
  | .bad, h => h
theorem Cont.imp (k : ∀ v H', Q v H' → Q' v H') : ∀ {r : R α}, Cont L W σ Rl Q H m r → Cont L W σ Rl Q' H m r
  | .ok d S', h => fun H' m' v e' s r => k _ _ (h H' m' v e' s r)
  | .exc c fs S', h => h
  | .bad, h => h
theorem Cont.bind {Q : δ → Hp → Prop} {f : α → Store → R γ} : ∀ {r : R α}, Cont L W σ Rl2 Q H m (r.bind f) →
    Cont L W σ Rl (fun v H1 => ∃ m1 d S1, Ext H m H1 m1 ∧ RelS L H1 m1 S1 ∧ Rl H1 m1 d v ∧ Cont L W σ Rl2 Q H1 m1 (f d S1)) H m r
  | .ok d S', h => fun H' m' v e' s r => ⟨m', d, S', e', s, r, Cont.ext e' h⟩
  | .exc c fs S', h => h
  | .bad, h => h
end
/-- the frame's values; Z: what else holds -/
abbrev ZP := L2.St → Hp → Mp → Prop
def RelE (L : Lk) (Z : ZP) (H : Hp) (m : Mp) (env : Env) (σ : L2.St) : Prop :=
  env.length = σ.length ∧ (∀ (i : Nat) (d : D), env[i]? = some (some d) → ∃ v, σ[i]? = some (some v) ∧ RelD L H m d v) ∧ Z σ H m ∧ m.T = L.T
def ZMono (Z : ZP) : Prop := ∀ σ H m H' m', Mono H m H' m' → Z σ H m → Z σ H' m'
theorem RelE.mono {L : Lk} {Z : ZP} {H H' : Hp} {m m' : Mp} {env : Env} {σ : L2.St} (z : ZMono Z) (e : Mono H m H' m') (h : RelE L Z H m env σ) : RelE L Z H' m' env σ :=
  ⟨h.1, fun i d q => let ⟨v, a, b⟩ := h.2.1 i d q; ⟨v, a, b.mono e⟩, z _ _ _ _ _ e h.2.2.1, e.T.trans h.2.2.2⟩
def tE (L : Lk) (W : WX) (Z : ZP) {α β : Type} (Rl : Hp → Mp → α → β → Prop) (f : Env → Store → R α) : L2.St → Hp → (β → Hp → Prop) → Prop := fun σ H Q =>
  ∃ env S m, RelE L Z H m env σ ∧ RelS L H m S ∧ Cont L W σ Rl Q H m (f env S)
abbrev tD (L : Lk) (W : WX) (Z : ZP) (f : Env → Store → R D) : TE := tE L W Z (RelD L) f
abbrev tB' (L : Lk) (W : WX) (Z : ZP) (f : Env → Store → R D) : TT := tE L W Z (fun _ _ d b => d = .bl b) f
abbrev tBb (L : Lk) (W : WX) (Z : ZP) (f : Env → Store → R Bool) : TT := tE L W Z (fun _ _ d b => d = b) f
abbrev tDs (L : Lk) (W : WX) (Z : ZP) (f : Env → Store → R (List D)) : TA := tE L W Z (RelDs L) f
section
variable {L : Lk} {W : WX} {Z : ZP} {α β γ δ : Type} {Rl : Hp → Mp → α → β → Prop} {Rl2 : Hp → Mp → γ → δ → Prop} {σ : L2.St} {H : Hp} {Q : δ → Hp → Prop}
/-- one part, then the rest: at the state behind the part -/
theorem tE.seq (z : ZMono Z) {f : Env → Store → R α} {g : Env → α → Store → R γ} (h : tE L W Z Rl2 (fun env S => (f env S).bind fun x S1 => g env x S1) σ H Q) :
    tE L W Z Rl f σ H fun v H1 => ∃ env S1 m1 d, RelE L Z H1 m1 env σ ∧ RelS L H1 m1 S1 ∧ Rl H1 m1 d v ∧ Cont L W σ Rl2 Q H1 m1 (g env d S1) := by
  obtain ⟨env, S, m, he, hs, hc⟩ := h
  exact ⟨env, S, m, he, hs, hc.bind.imp fun v H1 ⟨m1, d, S1, e, s, r, c⟩ => ⟨env, S1, m1, d, he.mono z e.mono, s, r, c⟩⟩
theorem tE.imp {Q Q' : β → Hp → Prop} {f : Env → Store → R α} (k : ∀ v H', Q v H' → Q' v H') (h : tE L W Z Rl f σ H Q) : tE L W Z Rl f σ H Q' := by
  obtain ⟨env, S, m, he, hs, hc⟩ := h
  exact ⟨env, S, m, he, hs, hc.imp k⟩
end
section
variable {X : Cx} {e : Expr}
theorem _root_.L2.PE.imp {t t' : TE} (h : PE X e t) (k : ∀ σ H Q, t' σ H Q → t σ H Q) : PE X e t' := ⟨fun pins s σ H Q I w => h.run pins s σ H Q I (k σ H Q w)⟩
theorem _root_.L2.PT.imp {t t' : TT} (h : PT X e t) (k : ∀ σ H Q, t' σ H Q → t σ H Q) : PT X e t' := ⟨fun pins s σ H Q I w => h.run pins s σ H Q I (k σ H Q w)⟩
theorem _root_.L2.PW.imp {t t' : TT} (h : PW X e t) (k : ∀ σ H Q, t' σ H Q → t σ H Q) : PW X e t' := ⟨fun wh pins s σ H Q I w => h.run wh pins s σ H Q I (k σ H Q w)⟩
theorem _root_.L2.PA.imp {es : List Expr} {t t' : TA} (h : PA X es t) (k : ∀ σ H Q, t' σ H Q → t σ H Q) : PA X es t' := ⟨fun pos pins s σ H Q I w => h.run pos pins s σ H Q I (k σ H Q w)⟩
theorem _root_.L2.PSs.imp {st : List Stmt} {t t' : TS} (h : PSs X st t) (k : ∀ D σ H, t' D σ H → t D σ H) : PSs X st t' := ⟨fun pins s σ H Q I w => h.run pins s σ H Q I (k _ σ H w)⟩
theorem _root_.L2.PS.imp {st : Stmt} {t t' : TS} (h : PS X st t) (k : ∀ D σ H, t' D σ H → t D σ H) : PS X st t' := ⟨fun pins s σ H Q I w => h.run pins s σ H Q I (k _ σ H w)⟩
theorem OpR.imp {f : Value → Value → Sem Value} {r r' : R2} (h : OpR X f r) (k : ∀ x y H Q, r' x y H Q → r x y H Q) : OpR X f r' := fun pins s σ H x y v u Q I rx ry w => h pins s σ H x y v u Q I rx ry (k _ _ _ _ w)
theorem CallR.imp {f : Value} {r r' : List V → Hp → VK → Prop} (h : CallR X f r) (k : ∀ xs H Q, r' xs H Q → r xs H Q) : CallR X f r' := fun pins s σ H xs us Q I rx w => h pins s σ H xs us Q I rx (k _ _ _ w)
theorem IxR.imp {r r' : R2} (h : IxR X r) (k : ∀ x y H Q, r' x y H Q → r x y H Q) : IxR X r' := fun a b pins s σ H x y v u Q I rx ry w hs => h a b pins s σ H x y v u Q I rx ry (k _ _ _ _ w) hs
/-- by cases on what the reading says -/
theorem OpR.any {f : Value → Value → Sem Value} {r' : R2} (h : ∀ x y H Q, r' x y H Q → ∃ r : R2, OpR X f r ∧ r x y H Q) : OpR X f r' := fun pins s σ H x y v u Q I rx ry w => by
  obtain ⟨r, h1, h2⟩ := h x y H Q w
  exact h1 pins s σ H x y v u Q I rx ry h2
theorem CallR.any {f : Value} {r' : List V → Hp → VK → Prop} (h : ∀ xs H Q, r' xs H Q → ∃ r : List V → Hp → VK → Prop, CallR X f r ∧ r xs H Q) : CallR X f r' := fun pins s σ H xs us Q I rx w => by
  obtain ⟨r, h1, h2⟩ := h xs H Q w
  exact h1 pins s σ H xs us Q I rx h2
theorem IxR.any {r' : R2} (h : ∀ x y H Q, r' x y H Q → ∃ r : R2, IxR X r ∧ r x y H Q) : IxR X r' := fun a b pins s σ H x y v u Q I rx ry w hs => by
  obtain ⟨r, h1, h2⟩ := h x y H Q w
  exact h1 a b pins s σ H x y v u Q I rx ry h2 hs
end

/-! ### operators -/
def rO (L : Lk) (g : Store → D → D → Option D) : R2 := fun x y H Q => ∃ d e z m S, RelS L H m S ∧ RelD L H m d x ∧ RelD L H m e y ∧ g S d e = some z ∧ ∀ H' m' v, Ext H m H' m' → RelS L H' m' S → RelD L H' m' z v → Q v H'
def O2.py : O2 → Operator
  | .add => .Add | .sub => .Sub | .mul => .Mult | .fdiv => .FloorDiv | .mod => .Mod | .pow => .Pow
theorem mulOk_ok {i j : Int} (h : mulOk i j = true) : CMul i j := by
  unfold mulOk at h
  simpa [CMul] using h
section
variable {L : Lk} {H : Hp} {m : Mp}
theorem lst_sq {S : Store} {d : D} {v : V} {xs : List D} (s : RelS L H m S) (r : RelD L H m d v) (h : lstOf S d = some xs) :
    ∃ a vs, v = .ref a ∧ RelDs L H m xs vs ∧ Rd H a (.lst vs) := by
  cases d with
  | lst ys =>
    cases h
    obtain ⟨a, vs, rfl, ha, hr⟩ := r
    exact ⟨a, vs, rfl, hr, ha.2.2⟩
  | loc n =>
    obtain ⟨a, rfl, ha⟩ := r
    unfold lstOf at h
    dsimp only at h
    split at h
    · rename_i ys q
      cases h
      obtain ⟨b, e1, vs, e2, e3⟩ := s.at_ n _ q
      rw [ha] at e1; cases e1
      exact ⟨a, vs, rfl, e3, .inl e2⟩
    · rename_i ys q
      cases h
      obtain ⟨b, e1, o, vs, e2, e3⟩ := s.at_ n _ q
      rw [ha] at e1; cases e1
      exact ⟨a, vs, rfl, e3, .inr ⟨o, e2⟩⟩
    · cases h
  | _ => cases h
theorem items_sq {S : Store} {d : D} {v : V} {xs : List D} (s : RelS L H m S) (r : RelD L H m d v) (h : items S d = some xs) :
    ∃ a vs, v = .ref a ∧ RelDs L H m xs vs ∧ (SqL L.K H a vs ∨ SqT L.K H a vs) := by
  cases d with
  | tup ys =>
    cases h
    obtain ⟨a, vs, rfl, ha, hr⟩ := r
    exact ⟨a, vs, rfl, hr, .inr ha.sq⟩
  | lst ys =>
    obtain ⟨a, vs, e, hr, hq⟩ := lst_sq s r (show lstOf S (.lst ys) = some xs from h)
    exact ⟨a, vs, e, hr, .inl (.inl hq)⟩
  | loc n =>
    obtain ⟨a, vs, e, hr, hq⟩ := lst_sq s r (show lstOf S (.loc n) = some xs from h)
    exact ⟨a, vs, e, hr, .inl (.inl hq)⟩
  | _ => cases h
end
section
variable {X : Cx} {L : Lk}
def rCatL (K : PySem.W.Frag) : R2 := fun x y H Q => ∃ l b xs zs, x = .ref l ∧ y = .ref b ∧ Rd H l (.lst xs) ∧ Rd H b (.lst zs) ∧ xs.length + zs.length ≤ sizeLine ∧ ∀ p, H p = none → Q (.ref p) (upd H p (.lst (xs ++ zs)))
theorem rdL {pins : List (Addr × Obj)} {s : Shared} {σ : L2.St} {H : Hp} {l : Addr} {xs : List V} (I : Inv X pins σ H s) (h : Rd H l (.lst xs)) : ∃ (its : List Value) (n : Nat), Vals xs its ∧ s.heap.get? l = some { cls := .type "list", data := .seq its.toArray n } := by
  obtain ⟨z, its, n, r, e⟩ := h.ok I.hok
  exact ⟨its, n, r, e⟩
theorem op_catL : OpR X (binaryOp .Add) (rCatL X.K) := by
  intro pins s σ H x y v u Q I rx ry h
  obtain ⟨l, b, xs, zs, rfl, rfl, hH, hB, hz, q⟩ := h
  cases rx
  cases ry
  obtain ⟨its, n, r, e⟩ := rdL I hH
  obtain ⟨its2, n2, r2, e2⟩ := rdL I hB
  have l1 := r.length
  have l2 := r2.length
  refine PySem.P.add_list e e2 ?_ (by rw [List.size_toArray, List.size_toArray]; omega)
  have ea : its.toArray ++ its2.toArray = (its ++ its2).toArray := by simp
  rw [ea]
  exact ⟨.ref _, _, I.lnew (t' := s.toks) (r.append r2) (by rw [List.length_append]; omega), rfl, q _ I.fresh⟩
theorem op_all (hK : X.K = L.K) (o : O2) : OpR X (binaryOp o.py) (rO L fun S => dop2 S o) := by
  refine OpR.any fun x y H Q h => ?_
  obtain ⟨d, e, z, m, S, hs, rx, ry, hz, k⟩ := h
  have fin : ∀ v, RelD L H m z v → Q v H := fun v r => k H m v (Ext.refl H m) hs r
  replace hz : dop2 S o d e = some z := hz
  unfold dop2 at hz
  cases hz' : dop o d e with
  | some z' =>
    rw [hz'] at hz
    cases hz
    cases o
    · -- add
      cases d <;> cases e <;> simp only [dop] at hz' <;> try (cases hz'; done)
      · cases hz'
        exact ⟨_, op_add, _, _, rx, ry, fin _ rfl⟩
      · split at hz'
        · rename_i hl
          cases hz'
          exact ⟨_, op_add_str, _, _, rx, ry, hl, fin _ rfl⟩
        · cases hz'
    · cases d <;> cases e <;> simp only [dop] at hz' <;> try (cases hz'; done)
      cases hz'
      exact ⟨_, op_sub, _, _, rx, ry, fin _ rfl⟩
    · cases d <;> cases e <;> simp only [dop] at hz' <;> try (cases hz'; done)
      split at hz'
      · rename_i hl
        cases hz'
        exact ⟨_, op_mul, _, _, rx, ry, mulOk_ok hl, fin _ rfl⟩
      · cases hz'
    · cases d <;> cases e <;> simp only [dop] at hz' <;> try (cases hz'; done)
      split at hz'
      · rename_i hl
        cases hz'
        exact ⟨_, op_fdiv, _, _, rx, ry, hl, fin _ rfl⟩
      · cases hz'
    · cases d <;> cases e <;> simp only [dop] at hz' <;> try (cases hz'; done)
      split at hz'
      · rename_i hl
        cases hz'
        exact ⟨_, op_mod, _, _, rx, ry, hl, fin _ rfl⟩
      · cases hz'
    · cases d <;> cases e <;> simp only [dop] at hz' <;> try (cases hz'; done)
      split at hz'
      · rename_i hl
        cases hz'
        exact ⟨_, op_pow, _, _, rx, ry, hl, fin _ rfl⟩
      · cases hz'
  | none =>
    rw [hz'] at hz
    cases o <;> try (cases hz; done)
    · replace hz : dcat S d e = some z := hz
      unfold dcat at hz
      split at hz
      · rename_i xs ys
        split at hz
        · rename_i hl
          cases hz
          obtain ⟨a, vs, rfl, ha, r1⟩ := id rx
          obtain ⟨b, ws, rfl, hb, r2⟩ := id ry
          refine ⟨_, op_catA, a, b, vs, ws, rfl, rfl, by rw [hK]; exact ha.sq, by rw [hK]; exact hb.sq, by rw [r1.length, r2.length]; exact hl, fun hxe => ?_, fun _ hye => ?_, fun _ _ p hp => ?_⟩
          · have e0 : xs = [] := by
              have := r1.length
              rw [hxe] at this
              exact List.length_eq_zero_iff.mp this.symm
            subst e0
            exact fin _ ry
          · have e0 : ys = [] := by
              have := r2.length
              rw [hye] at this
              exact List.length_eq_zero_iff.mp this.symm
            subst e0
            rw [List.append_nil] at fin
            exact fin _ rx
          · exact k _ m _ (Ext.new hp) (hs.new hp) ⟨p, _, rfl, TupA.new hs hp, (r1.app r2).mono (Mono.new hp)⟩
        · cases hz
      · split at hz
        · rename_i xs ys q1 q2
          split at hz
          · rename_i hl
            cases hz
            obtain ⟨a, vs, rfl, r1, ha⟩ := lst_sq hs rx q1
            obtain ⟨b, ws, rfl, r2, hb⟩ := lst_sq hs ry q2
            refine ⟨_, op_catL, a, b, vs, ws, rfl, rfl, ha, hb, by rw [r1.length, r2.length]; exact hl, fun p hp => ?_⟩
            exact k _ m _ (Ext.new hp) (hs.new hp) ⟨p, _, rfl, LstA.new hs hp, (r1.app r2).mono (Mono.new hp)⟩
          · cases hz
        · cases hz
end
end KF

set_option Elab.async false
set_option linter.all false
set_option maxRecDepth 100000
set_option maxHeartbeats 4000000
/-! VL: new dicts are locked for good; what is worked apart -/
namespace KF
open PySem PySem.Spec PyProof.Rows L2
/-- some are locked, one behind another; then Q -/
inductive Lkd (Q : Hp → Prop) : Hp → Prop where
  | here {H : Hp} (q : Q H) : Lkd Q H
  | lock {H : Hp} (a : Addr) (u : HO) (hu : H a = some u) (mu : Mut (some u)) (k : ∀ od, Lkd Q (upd H a (.frz od u))) : Lkd Q H
theorem lkd_run {X : Cx} {pins : List (Addr × Obj)} {σ : L2.St} {s : Shared} {Q : Hp → Prop} {H : Hp} (h : Lkd Q H) : L2.Inv X pins σ H s → ∃ H', L2.Inv X pins σ H' s ∧ Q H' := by
  induction h with
  | here q => exact fun I => ⟨_, I, q⟩
  | lock a u hu mu k ih =>
    intro I
    obtain ⟨od, I1⟩ := I.lock hu mu
    exact ih od I1
section
variable {L : Lk} {H H' : Hp} {m m' : Mp}
theorem lockA_app : ∀ (pre rest : Store), lockA pre.length (pre ++ rest) = pre ++ lockA 0 rest
  | [], rest => by simp
  | o :: pre, rest => by
    rw [List.cons_append, List.length_cons, lockA, lockA_app pre rest]
    rfl
/-- the new ones are locked -/
theorem lock_all {Q : Hp → Prop} {d : KF.D} {v : V} : ∀ (rest pre : Store) {H' : Hp}, RelS L H' m' (pre ++ rest) → m.locs.length ≤ pre.length → Ext H m H' m' → RelD L H' m' d v →
    (∀ H'', RelS L H'' m' (pre ++ lockA 0 rest) → Ext H m H'' m' → RelD L H'' m' d v → Q H'') → Lkd Q H'
  | [], pre, H', hs, hl, ex, r, k => .here (k H' (by simpa [lockA] using hs) ex r)
  | o :: rest, pre, H', hs, hl, ex, r, k => by
    have go : (∀ t ks vs, o ≠ .dic t ks vs) → Lkd Q H' := fun hne => by
      have e : pre ++ o :: rest = (pre ++ [o]) ++ rest := by simp
      rw [e] at hs
      refine lock_all rest (pre ++ [o]) hs (by rw [List.length_append]; omega) ex r fun H'' h1 h2 h3 => k H'' ?_ h2 h3
      have e2 : (pre ++ [o]) ++ lockA 0 rest = pre ++ lockA 0 (o :: rest) := by
        cases o with
        | dic t ks vs => exact absurd rfl (hne t ks vs)
        | lst xs => rw [lockA]; simp; exact fun _ _ _ z => nomatch z
        | ins c fs => rw [lockA]; simp; exact fun _ _ _ z => nomatch z
        | lck t ks vs => rw [lockA]; simp; exact fun _ _ _ z => nomatch z
        | lkl xs => rw [lockA]; simp; exact fun _ _ _ z => nomatch z
      rw [← e2]; exact h1
    cases o with
    | dic t ks vs =>
      obtain ⟨a, ha, u, us, b2, b3, b4⟩ := hs.at_ pre.length (.dic t ks vs) (by simp)
      have hm : a ∈ m'.locs := List.mem_of_getElem? ha
      have mu : Mut (some u) := by
        unfold DicU at b3
        split at b3
        · obtain ⟨kvs, rfl, _⟩ := b3; trivial
        · obtain ⟨kvs, rfl, _⟩ := b3; trivial
      have nfu : nofrz u = true := by
        unfold DicU at b3
        split at b3
        · obtain ⟨kvs, rfl, _⟩ := b3; rfl
        · obtain ⟨kvs, rfl, _⟩ := b3; rfl
      have hnew : H a = none := by
        rcases ex.newl a hm with z | z
        · obtain ⟨j, hj⟩ := List.mem_iff_getElem?.mp z
          have hj2 : m'.locs[j]? = some a := by
            obtain ⟨r, hr⟩ := ex.pre
            rw [← hr, List.getElem?_append_left (List.getElem?_eq_some_iff.mp hj).1]
            exact hj
          have := (List.getElem?_inj (List.getElem?_eq_some_iff.mp hj2).1 hs.nd).mp (hj2.trans ha.symm)
          have := (List.getElem?_eq_some_iff.mp hj).1
          omega
        · exact z
      have step : ∀ od, Lkd Q (upd H' a (.frz od u)) := fun od => by
        have hs' : RelS L (upd H' a (.frz od u)) m' ((pre ++ .dic t ks vs :: rest).set pre.length (.lck t ks vs)) := hs.putO ha ⟨od, u, us, upd_same, b3, RelDs.mono (Mono.put hm) _ _ b4⟩
        have e0 : (pre ++ Ob.dic t ks vs :: rest).set pre.length (.lck t ks vs) = (pre ++ [.lck t ks vs]) ++ rest := by simp
        rw [e0] at hs'
        have ex' : Ext H m (upd H' a (.frz od u)) m' := by
          refine ⟨fun b o h1 h2 h3 => ?_, fun b ps h => ?_, ex.pre, ex.newl, ex.pr, ex.T, fun b o u' h => ?_⟩
          · rw [upd_ne (ne_of_none h1 hnew)]; exact ex.keep b o h1 h2 h3
          · obtain ⟨qs, z⟩ := ex.tbl b ps h
            exact ⟨qs, by rw [upd_ne (ne_of_none h hnew)]; exact z⟩
          · rw [upd_ne (ne_of_none h hnew)]; exact ex.frz b o u' h
        refine lock_all rest (pre ++ [.lck t ks vs]) hs' (by rw [List.length_append]; omega) ex' (r.mono (Mono.put hm)) fun H'' h1 h2 h3 => k H'' ?_ h2 h3
        have e2 : (pre ++ [Ob.lck t ks vs]) ++ lockA 0 rest = pre ++ lockA 0 (.dic t ks vs :: rest) := by
          rw [lockA]; simp
        rw [← e2]; exact h1
      exact .lock a u b2 mu step
    | lst xs => exact go (fun _ _ _ z => (nomatch z))
    | ins c fs => exact go (fun _ _ _ z => (nomatch z))
    | lck t ks vs => exact go (fun _ _ _ z => (nomatch z))
    | lkl xs => exact go (fun _ _ _ z => (nomatch z))
theorem gc_end {W : WX} {σ : L2.St} {S S' : Store} {Q : VK} {d : KF.D} (hs : RelS L H m S) (k : Cont L W σ (RelD L) Q H m (gcR S.length (.ok d S'))) : ∀ H' m' v, Ext H m H' m' → RelS L H' m' S' → RelD L H' m' d v → Lkd (Q v) H' := by
  intro H' m' v ex s r
  unfold gcR at k
  dsimp only at k
  split at k
  · exact .here (k H' m' v ex s r)
  · rename_i hn
    have hn : ¬ S'.length ≤ S.length := fun z => hn (Nat.ble_eq_true_of_le z)
    split at k
    · rename_i d' h1 h2
      have hlen : (S'.take S.length).length = S.length := by rw [List.length_take]; omega
      have e : lockA S.length S' = S'.take S.length ++ lockA 0 (S'.drop S.length) := by
        have := lockA_app (S'.take S.length) (S'.drop S.length)
        rw [List.take_append_drop, hlen] at this
        exact this
      refine lock_all (m := m) (S'.drop S.length) (S'.take S.length) (by rw [List.take_append_drop]; exact s) (by rw [hlen, hs.len]; exact Nat.le_refl _) ex r fun H'' g1 g2 g3 => ?_
      rw [← e] at g1
      have c := cut_S (n := S.length) g1 (by rw [lockA_take]; exact h2)
      rw [lockA_take] at c
      exact k H'' (m'.cut S.length) v (cut_ext g2 hs.len.symm) c (frz_ok g1 64 d d' v h1 g3)
    · exact k.elim
theorem gc_ex {W : WX} {σ : L2.St} {S : Store} {Q : VK} (hs : RelS L H m S) : ∀ {r : R KF.D}, Cont L W σ (RelD L) Q H m (gcR S.length r) → Cont L W σ (RelD L) (fun v H' => Lkd (Q v) H') H m r
  | .ok d S', h => gc_end hs h
  | .exc c fs S', h => fun H' m' dx vs e s r1 r2 r3 r4 => by
    unfold gcR at h
    dsimp only at h
    split at h
    · exact h H' m' dx vs e s r1 r2 r3 r4
    · split at h
      · rename_i fs' h1 h2
        exact h H' (m'.cut S.length) dx vs (cut_ext e hs.len.symm) (cut_S s h2) (frzs_ok (frz_ok s 64) _ _ _ h1 r1) r2 (cut_not r3) r4
      · exact h.elim
  | .bad, h => h.elim
/-- its store is empty -/
def R.emp {α : Type} : R α → Prop
  | .ok _ S => S = []
  | .exc _ _ S => S = []
  | .bad => True
theorem gc_emp {α : R KF.D} : (gcR 0 α).emp := by
  have e0 : ∀ S : Store, Nat.ble S.length 0 = true → S = [] := fun S h => List.length_eq_zero_iff.mp (Nat.le_zero.mp (Nat.le_of_ble_eq_true h))
  cases α with
  | ok d S =>
    unfold gcR
    dsimp only
    split
    · exact e0 S (by assumption)
    · split
      · rfl
      · trivial
  | exc c fs S =>
    unfold gcR
    dsimp only
    split
    · exact e0 S (by assumption)
    · split
      · rfl
      · trivial
  | bad => trivial
theorem fr_cont {W : WX} {σ : L2.St} {S : Store} {Q : VK} (hs : RelS L H m S) : ∀ {r : R KF.D}, r.emp → Cont L W σ (RelD L) Q H m (frR S r) → Cont L W σ (RelD L) Q H m.shut r
  | .ok d S', he, h => fun H' m' v e s r => by
    have he : S' = [] := he
    subst he
    have := shut_mp e s
    subst this
    exact h H' m v (open_ext e) (open_S hs e s) (open_D d v r)
  | .exc c fs S', he, h => fun H' m' dx vs e s r1 r2 r3 r4 => by
    have he : S' = [] := he
    subst he
    have := shut_mp e s
    subst this
    exact h H' m dx vs (open_ext e) (open_S hs e s) (open_Ds fs vs r1) r2 (open_not r4).1 (open_not r4).2
  | .bad, _, h => h.elim
theorem lkd_ep {X : Cx} {pins : List (Addr × Obj)} {σ : L2.St} {Q : VK} {v : Value} {s : Shared} (h : EP X pins σ (fun v H' => Lkd (Q v) H') v s) : EP X pins σ Q v s := by
  obtain ⟨u, H', I, r, q⟩ := h
  obtain ⟨H'', I2, q2⟩ := lkd_run q I
  exact ⟨u, H'', I2, r, q2⟩
theorem _root_.L2.PE.lkd {X : Cx} {e : Expr} {t : TE} (h : PE X e t) : PE X e (fun σ H Q => t σ H (fun v H' => Lkd (Q v) H')) :=
  ⟨fun pins s σ H Q I w => thn (h.run pins s σ H _ I w) fun v s2 h2 => lkd_ep h2⟩
/-- a dict under way stays as it is from now on -/
theorem finD_z {W : WX} {σ : L2.St} {H0 H2 : Hp} {m : Mp} {l1 : List Addr} {q : Addr} {S1 : Store} {ks vs : List D} {kvs : List (Key × V)} {Q : VK} (k : Cont L W σ (RelD L) Q H0 m (.ok (.dic false ks vs) S1)) (hq0 : H0 q = none) (hx : Ext H0 m H2 ⟨l1, m.pr, m.T⟩)
    (s2 : RelS L H2 ⟨l1, q :: m.pr, m.T⟩ S1) (hqp : q ∉ m.pr) (hq : H2 q = some (.dK kvs)) (hk : mapO fkey ks = some (kvs.map (·.1))) (hv : RelDs L H2 ⟨l1, q :: m.pr, m.T⟩ vs (kvs.map (·.2))) : Lkd (Q (.ref q)) H2 := by
  refine .lock q (.dK kvs) hq trivial fun od => .here ?_
  have nf : NF H2 q := nf_of hq rfl
  have hl1 : q ∉ l1 := fun z => s2.dis q z List.mem_cons_self
  have s3 : RelS L (upd H2 q (.frz od (.dK kvs))) ⟨l1, q :: m.pr, m.T⟩ S1 := s2.turn List.mem_cons_self ⟨fun _ z => (nomatch z), fun _ z => (nomatch z)⟩ nf
  have s4 : RelS L (upd H2 q (.frz od (.dK kvs))) ⟨l1, m.pr, m.T⟩ S1 := RelS.drop (m := ⟨l1, m.pr, m.T⟩) s3
  have hv3 : RelDs L (upd H2 q (.frz od (.dK kvs))) ⟨l1, m.pr, m.T⟩ vs (kvs.map (·.2)) := RelDs.mono (Mono.drop (m := ⟨l1, m.pr, m.T⟩) (p := q)) _ _ (RelDs.mono (Mono.turn (p := q) List.mem_cons_self nf) _ _ hv)
  refine k _ ⟨l1, m.pr, m.T⟩ (.ref q) ⟨fun a o h1 h2 h3 => ?_, fun a ps h => ?_, hx.pre, hx.newl, rfl, rfl, fun a o u h => ?_⟩ s4 ⟨q, _, rfl, hl1, hqp, ⟨od, _, upd_same, ⟨kvs, rfl, hk, rfl⟩⟩, hv3⟩
  · rw [upd_ne (ne_of_none h1 hq0)]; exact hx.keep a o h1 h2 h3
  · obtain ⟨qs, z⟩ := hx.tbl a ps h
    exact ⟨qs, by rw [upd_ne (ne_of_none h hq0)]; exact z⟩
  · rw [upd_ne (ne_of_none h hq0)]; exact hx.frz a o u h
theorem Ext.adopt {H0 H2 : Hp} {m : Mp} {l1 : List Addr} {q : Addr} (hx : Ext H0 m H2 ⟨l1, m.pr, m.T⟩) (hq0 : H0 q = none) : Ext H0 m H2 ⟨l1 ++ [q], m.pr, m.T⟩ :=
  ⟨hx.keep, hx.tbl, hx.pre.trans (List.prefix_append _ _), fun a ha => by
    rcases List.mem_append.mp ha with ha | ha
    · exact hx.newl a ha
    · exact .inr (by rw [List.mem_singleton.mp ha]; exact hq0), rfl, rfl, hx.frz⟩
end
end KF

set_option Elab.async false
set_option linter.all false
set_option maxRecDepth 100000
set_option maxHeartbeats 4000000
/-! V3b: == by content: the rules of the machine -/
namespace KF
open PySem PySem.Spec PyProof.Rows L2
open SeqAt AutoSeq1 MeetsSeq MeetsSeq2 MeetsSeq3 SeqRoads2
section
variable {prog : Program} {w : World} {A : Around} {E : Value → Shared → Prop} {s : Shared}
def RcP (prog : Program) (w : World) (A : Around) (s : Shared) (op : CmpOp) (y x : Value) (b : Bool) : Prop := ∀ (E Q : Value → Shared → Prop), Q (.bool b) s → wpAny (model prog w) A (richCompare op y x) Q E s
theorem tuple_eqP (l b : Addr) (items items2 : Array Value) (n n2 : Nat) (dd dd2 : Option Addr) (sl sl2 : Array (Option Value)) (e : Nat → Bool) :
    MeetsIn prog w (Builtin.«tuple.__eq__» ⟨[.ref l, .ref b], []⟩)
      (fun A R s => s.heap.get? l = some { cls := .type "tuple", dict := dd, data := .seq items n, slots := sl } ∧ s.heap.get? b = some { cls := .type "tuple", dict := dd2, data := .seq items2 n2, slots := sl2 } ∧
        (∀ j (h1 : j < items.size) (h2 : j < items2.size), EqP prog w A.in1 s items[j] items2[j] (e j)) ∧
        R (.ok (.ret (.bool ((List.range (min items.size items2.size)).all e && items.size == items2.size)))) s) := by
    intro A R s h
    obtain ⟨hp, g, d, tk, os⟩ := s; obtain ⟨hl, hb, he, h⟩ := h
    have f2 := AutoSeq1.sub_tuple_tuple
    have hZ : (items.toList.zip items2.toList).length = min items.size items2.size := by simp
    wp_walk using wpAny_loadPart' hl, wpAny_loadPart' hb, wpAny_forIn_list _ (fun rest b s' => b.1 = none ∧ s' = ⟨hp, g, d, tk, os⟩ ∧ ∃ i, rest = (items.toList.zip items2.toList).drop i ∧
      R (.ok (.ret (.bool (((List.range (min items.size items2.size)).drop i).all e && items.size == items2.size)))) ⟨hp, g, d, tk, os⟩) _
    case turn =>
      rintro ⟨y, x⟩ rest b s' ⟨hb', rfl, i, hz, hR⟩
      have hlt : i < (items.toList.zip items2.toList).length := by
        rcases Nat.lt_or_ge i (items.toList.zip items2.toList).length with h' | h'
        · exact h'
        · rw [List.drop_of_length_le h'] at hz; cases hz
      have hm : i < min items.size items2.size := hZ ▸ hlt
      have h1 : i < items.size := Nat.lt_of_lt_of_le hm (Nat.min_le_left _ _)
      have h2 : i < items2.size := Nat.lt_of_lt_of_le hm (Nat.min_le_right _ _)
      rw [List.drop_eq_getElem_cons hlt] at hz
      injection hz with hyx hrest
      have hy : y = items[i] := by have := congrArg Prod.fst hyx; simpa using this
      have hx : x = items2[i] := by have := congrArg Prod.snd hyx; simpa using this
      subst hy hx
      have hd : (List.range (min items.size items2.size)).drop i = i :: (List.range (min items.size items2.size)).drop (i + 1) := by simp [List.drop_eq_getElem_cons, hm]
      rw [hd, List.all_cons] at hR
      refine wpAny_bind (he i h1 h2 _ _ ?_)
      cases hy : e i with
      | true =>
        rw [hy] at hR
        wp_walk
        exact ⟨rfl, rfl, i + 1, hrest, by simpa using hR⟩
      | false =>
        rw [hy] at hR
        wp_walk
        simpa using hR
    case fin =>
      rintro ⟨b1, b2⟩ s' ⟨hb', rfl, i, hz, hR⟩
      simp only at hb'
      subst hb'
      have hge : min items.size items2.size ≤ i := by
        rcases Nat.lt_or_ge i (items.toList.zip items2.toList).length with h' | h'
        · rw [List.drop_eq_getElem_cons h'] at hz; cases hz
        · exact hZ ▸ h'
      rw [List.drop_of_length_le (by simpa using hge)] at hR
      wp_walk
      simpa [Builtin.Tuple.tupleCompareSizes] using hR
    case h =>
      exact ⟨rfl, rfl, 0, rfl, by simpa using h⟩
theorem tuple_neP (l b : Addr) (items items2 : Array Value) (n n2 : Nat) (dd dd2 : Option Addr) (sl sl2 : Array (Option Value)) (e : Nat → Bool) :
    MeetsIn prog w (Builtin.«tuple.__ne__» ⟨[.ref l, .ref b], []⟩)
      (fun A R s => s.heap.get? l = some { cls := .type "tuple", dict := dd, data := .seq items n, slots := sl } ∧ s.heap.get? b = some { cls := .type "tuple", dict := dd2, data := .seq items2 n2, slots := sl2 } ∧
        (∀ j (h1 : j < items.size) (h2 : j < items2.size), EqP prog w A.in1 s items[j] items2[j] (e j)) ∧
        R (.ok (.ret (.bool (!((List.range (min items.size items2.size)).all e && items.size == items2.size))))) s) := by
    intro A R s h
    obtain ⟨hp, g, d, tk, os⟩ := s; obtain ⟨hl, hb, he, h⟩ := h
    have f2 := AutoSeq1.sub_tuple_tuple
    have hZ : (items.toList.zip items2.toList).length = min items.size items2.size := by simp
    wp_walk using wpAny_loadPart' hl, wpAny_loadPart' hb, wpAny_forIn_list _ (fun rest b s' => b.1 = none ∧ s' = ⟨hp, g, d, tk, os⟩ ∧ ∃ i, rest = (items.toList.zip items2.toList).drop i ∧
      R (.ok (.ret (.bool (!(((List.range (min items.size items2.size)).drop i).all e && items.size == items2.size))))) ⟨hp, g, d, tk, os⟩) _
    case turn =>
      rintro ⟨y, x⟩ rest b s' ⟨hb', rfl, i, hz, hR⟩
      have hlt : i < (items.toList.zip items2.toList).length := by
        rcases Nat.lt_or_ge i (items.toList.zip items2.toList).length with h' | h'
        · exact h'
        · rw [List.drop_of_length_le h'] at hz; cases hz
      have hm : i < min items.size items2.size := hZ ▸ hlt
      have h1 : i < items.size := Nat.lt_of_lt_of_le hm (Nat.min_le_left _ _)
      have h2 : i < items2.size := Nat.lt_of_lt_of_le hm (Nat.min_le_right _ _)
      rw [List.drop_eq_getElem_cons hlt] at hz
      injection hz with hyx hrest
      have hy : y = items[i] := by have := congrArg Prod.fst hyx; simpa using this
      have hx : x = items2[i] := by have := congrArg Prod.snd hyx; simpa using this
      subst hy hx
      have hd : (List.range (min items.size items2.size)).drop i = i :: (List.range (min items.size items2.size)).drop (i + 1) := by simp [List.drop_eq_getElem_cons, hm]
      rw [hd, List.all_cons] at hR
      refine wpAny_bind (he i h1 h2 _ _ ?_)
      cases hy : e i with
      | true =>
        rw [hy] at hR
        wp_walk
        exact ⟨rfl, rfl, i + 1, hrest, by simpa using hR⟩
      | false =>
        rw [hy] at hR
        wp_walk
        simpa using hR
    case fin =>
      rintro ⟨b1, b2⟩ s' ⟨hb', rfl, i, hz, hR⟩
      simp only at hb'
      subst hb'
      have hge : min items.size items2.size ≤ i := by
        rcases Nat.lt_or_ge i (items.toList.zip items2.toList).length with h' | h'
        · rw [List.drop_eq_getElem_cons h'] at hz; cases hz
        · exact hZ ▸ h'
      rw [List.drop_of_length_le (by simpa using hge)] at hR
      wp_walk
      simpa [Builtin.Tuple.tupleCompareSizes, bne] using hR
    case h =>
      exact ⟨rfl, rfl, 0, rfl, by simpa using h⟩
theorem rcP_tuples {l b : Addr} {items items2 : Array Value} {e : Nat → Bool} (hl : s.heap.IsTuple l items) (hb : s.heap.IsTuple b items2) (hu : A.units < cLine)
    (he : ∀ j (h1 : j < items.size) (h2 : j < items2.size), EqP prog w A.in1 s items[j] items2[j] (e j)) : RcP prog w A s .Eq (.ref l) (.ref b) ((List.range (min items.size items2.size)).all e && items.size == items2.size) := fun E Q h => by
  obtain ⟨⟨cls, dd, data, sl⟩, ho, hc, n, hd⟩ := id hl
  obtain ⟨⟨cls2, dd2, data2, sl2⟩, ho2, hc2, n2, hd2⟩ := id hb
  simp only at hc hd hc2 hd2
  subst hc hd hc2 hd2
  exact wpAny_richCompare_same_room (op := .Eq) ⟨_, ho, rfl⟩ ⟨_, ho2, rfl⟩ F.slot_tuple_eq (call_meetsIn F.slot_tuple_eq ⟨_, ho, rfl⟩ F.entry_tuple_eq (F.args_tuple_eq_2 _ _) (tuple_eqP l b items items2 n n2 dd dd2 sl sl2 e)
    ⟨ho, ho2, he, show Value.bool ((List.range (min items.size items2.size)).all e && items.size == items2.size) ≠ Value.notImplemented ∧ Q (.bool ((List.range (min items.size items2.size)).all e && items.size == items2.size)) s from ⟨(fun x => nomatch x), h⟩⟩) hu
theorem rcP_neTuples {l b : Addr} {items items2 : Array Value} {e : Nat → Bool} (hl : s.heap.IsTuple l items) (hb : s.heap.IsTuple b items2) (hu : A.units < cLine)
    (he : ∀ j (h1 : j < items.size) (h2 : j < items2.size), EqP prog w A.in1 s items[j] items2[j] (e j)) : RcP prog w A s .NotEq (.ref l) (.ref b) (!((List.range (min items.size items2.size)).all e && items.size == items2.size)) := fun E Q h => by
  obtain ⟨⟨cls, dd, data, sl⟩, ho, hc, n, hd⟩ := id hl
  obtain ⟨⟨cls2, dd2, data2, sl2⟩, ho2, hc2, n2, hd2⟩ := id hb
  simp only at hc hd hc2 hd2
  subst hc hd hc2 hd2
  exact wpAny_richCompare_same_room (op := .NotEq) ⟨_, ho, rfl⟩ ⟨_, ho2, rfl⟩ F.slot_tuple_ne (call_meetsIn F.slot_tuple_ne ⟨_, ho, rfl⟩ F.entry_tuple_ne (F.args_tuple_ne_2 _ _) (tuple_neP l b items items2 n n2 dd dd2 sl sl2 e)
    ⟨ho, ho2, he, show Value.bool (!((List.range (min items.size items2.size)).all e && items.size == items2.size)) ≠ Value.notImplemented ∧ Q (.bool (!((List.range (min items.size items2.size)).all e && items.size == items2.size))) s from ⟨(fun x => nomatch x), h⟩⟩) hu
theorem rcP_neDicts {K : Type} [DecidableEq K] {knd : KeyKind prog w K} {a b : Addr} {ka kb : List (K × Value)} {r : Bool} (ha : (a == sysModules) = false) (hb : (b == sysModules) = false)
    (da : s.heap.DictOf knd a ka) (db : s.heap.DictOf knd b kb) (hu : A.units < cLine) (hits : ka.length = kb.length → PySem.W.KeqHitsP prog w A.in1 s kb ka r) : RcP prog w A s .NotEq (.ref a) (.ref b) (!(ka.length == kb.length && r)) := fun E Q h => by
  refine wpAny_richCompare_same_room (op := .NotEq) da.typeIs db.typeIs PySem.F.slot_dict_ne (wpAny_call_entry PySem.F.slot_dict_ne da.typeIs PySem.F.entry_dict_ne ?_ (PySem.F.args_dict_ne_2 _ _)) hu
  show wpAny _ _ (Builtin.Dict.dictSlotArgs "__ne__" ⟨[.ref a, .ref b], []⟩ >>= _) _ _ s
  refine wpAny_bind ?_
  unfold Builtin.Dict.dictSlotArgs
  refine wpAny_bind (wpAny_notOrdered_dict da.typeIs ?_)
  show wpAny _ _ (pure (Value.ref a, Value.ref b)) _ _ s
  refine wpAny_pure ?_
  refine wpAny_bind (wpAny_isInstance (T := "dict") db.typeIs PySem.F.sub_dict_dict ?_)
  simp only [Bool.not_true, Bool.false_eq_true, if_false]
  refine wpAny_bind (wpAny_pure (wpAny_bind (wpAny_pure ?_)))
  refine wpAny_bind (PySem.W.samePairsP ha hb da db hits ?_)
  refine wpAny_pure ⟨_, rfl, ?_, ?_⟩
  · exact fun x => nomatch x
  · simpa using h
end
end KF

set_option Elab.async false
set_option linter.all false
set_option maxRecDepth 100000
set_option maxHeartbeats 4000000
/-! V3c: == by content -/
namespace KF
open PySem PySem.Spec PyProof.Rows L2
section
variable (L : Lk)
mutual
/-- to be read at a heap; ls: where the loose objects stand -/
def RdD (H : Hp) (ls : List Addr) : D → V → Prop
  | .non, v => v = .non
  | .bl b, v => v = .bl b
  | .int i, v => v = .int i
  | .str x, v => v = .str x
  | .tup xs, v => ∃ a vs, v = .ref a ∧ SqT L.K H a vs ∧ RdDs H ls xs vs
  | .lst xs, v => ∃ a vs, v = .ref a ∧ Rd H a (.lst vs) ∧ RdDs H ls xs vs
  | .loc n, v => ∃ a, v = .ref a ∧ ls[n]? = some a
  | .dic t ks vs, v => ∃ a us, v = .ref a ∧ DicR H t a ks us ∧ RdDs H ls vs us
  | .ins c fs, v => True
def RdDs (H : Hp) (ls : List Addr) : List D → List V → Prop
  | [], vs => vs = []
  | x :: xs, vs => ∃ v r, vs = v :: r ∧ RdD H ls x v ∧ RdDs H ls xs r
end
end
section
variable {L : Lk} {H : Hp} {m : Mp} {ls : List Addr}
theorem RdDs.length : ∀ {ds : List D} {vs : List V}, RdDs L H ls ds vs → vs.length = ds.length
  | [], _, h => by rw [show _ = ([] : List V) from h]; rfl
  | x :: xs, vs, h => by
    obtain ⟨v, r, rfl, h2, h3⟩ := h
    simp [RdDs.length h3]
theorem purs_ok {S : Store} {k : Nat} (ih : ∀ (d d' : D) (v : V), pur S k d = some d' → RelD L H m d v → RdD L H m.locs d' v) : ∀ (ds es : List D) (vs : List V), mapO (pur S k) ds = some es → RelDs L H m ds vs → RdDs L H m.locs es vs
  | [], es, vs, h, r => by cases h; exact r
  | d :: ds, es, vs, h, r => by
    unfold mapO at h
    obtain ⟨v, s, h1, h2, h3⟩ := r
    split at h
    · rename_i y ys e1 e2
      cases h
      exact ⟨v, s, h1, ih d y v e1 h2, purs_ok ih ds ys s e2 h3⟩
    · cases h
theorem pur_ok {S : Store} (s : RelS L H m S) : ∀ (k : Nat) (d d' : D) (v : V), pur S k d = some d' → RelD L H m d v → RdD L H m.locs d' v
  | 0, d, d', v, h, r => by cases h
  | k + 1, d, d', v, h, r => by
    unfold pur at h
    have ih := pur_ok s k
    cases d with
    | non => cases h; exact r
    | bl b => cases h; exact r
    | int i => cases h; exact r
    | str x => cases h; exact r
    | tup xs =>
      dsimp only at h
      split at h
      · rename_i ys e
        cases h
        obtain ⟨a, vs, h1, h2, h3⟩ := r
        exact ⟨a, vs, h1, h2.sq, purs_ok ih _ _ _ e h3⟩
      · cases h
    | lst xs =>
      dsimp only at h
      split at h
      · rename_i ys e
        cases h
        obtain ⟨a, vs, h1, h2, h3⟩ := r
        exact ⟨a, vs, h1, h2.2.2, purs_ok ih _ _ _ e h3⟩
      · cases h
    | dic t ks vs =>
      dsimp only at h
      split at h
      · rename_i ys e
        cases h
        obtain ⟨a, us, h1, h2, h3, h4, h5⟩ := r
        exact ⟨a, us, h1, h4.rd, purs_ok ih _ _ _ e h5⟩
      · cases h
    | ins c fs => cases h; exact trivial
    | loc i =>
      dsimp only at h
      obtain ⟨a, h1, h2⟩ := r
      split at h
      · rename_i xs e
        obtain ⟨b, c1, vs, c2, c3⟩ := s.at_ i _ e
        rw [h2] at c1; cases c1
        split at h
        · rename_i ys e2
          cases h
          exact ⟨a, vs, h1, .inl c2, purs_ok ih _ _ _ e2 c3⟩
        · cases h
      · rename_i t ks vs e
        obtain ⟨b, c1, u, us, c2, c3, c4⟩ := s.at_ i _ e
        rw [h2] at c1; cases c1
        split at h
        · rename_i ys e2
          cases h
          exact ⟨a, us, h1, ⟨u, .inl c2, c3⟩, purs_ok ih _ _ _ e2 c4⟩
        · cases h
      · rename_i t ks vs e
        obtain ⟨b, c1, o, u, us, c2, c3, c4⟩ := s.at_ i _ e
        rw [h2] at c1; cases c1
        split at h
        · rename_i ys e2
          cases h
          exact ⟨a, us, h1, ⟨u, .inr ⟨o, c2⟩, c3⟩, purs_ok ih _ _ _ e2 c4⟩
        · cases h
      · cases h
        exact ⟨a, h1, h2⟩
      · rename_i xs e
        obtain ⟨b, c1, o, vs, c2, c3⟩ := s.at_ i _ e
        rw [h2] at c1; cases c1
        split at h
        · rename_i ys e2
          cases h
          exact ⟨a, vs, h1, .inr ⟨o, c2⟩, purs_ok ih _ _ _ e2 c3⟩
        · cases h
      · cases h
mutual
theorem RdD.dp : ∀ (d : D) (p : PyData) (v : V), d.py = some p → RdD L H ls d v → Dp L.K H v p
  | .non, p, v, h, r => by
    have r : v = .non := r
    cases h; subst r; exact .non
  | .bl b, p, v, h, r => by
    have r : v = .bl b := r
    cases h; subst r; exact .bl b
  | .int i, p, v, h, r => by
    have r : v = .int i := r
    cases h; subst r; exact .int i
  | .str x, p, v, h, r => by
    have r : v = .str x := r
    cases h; subst r; exact .str x
  | .tup xs, p, v, h, r => by
    obtain ⟨a, vs, rfl, ha, hr⟩ := r
    unfold D.py at h
    cases q : D.pys xs with
    | none => rw [q] at h; cases h
    | some ds =>
      rw [q] at h; cases h
      exact .tup ha (RdDs.dp xs ds vs q hr)
  | .lst xs, p, v, h, r => by
    obtain ⟨a, vs, rfl, ha, hr⟩ := r
    unfold D.py at h
    cases q : D.pys xs with
    | none => rw [q] at h; cases h
    | some ds =>
      rw [q] at h; cases h
      exact .lst (.inl ha) (RdDs.dp xs ds vs q hr)
  | .loc _, p, v, h, r => by cases h
  | .dic _ _ _, p, v, h, r => by cases h
  | .ins _ _, p, v, h, r => by cases h
theorem RdDs.dp : ∀ (ds : List D) (ps : List PyData) (vs : List V), D.pys ds = some ps → RdDs L H ls ds vs → DpAll L.K H vs ps
  | [], ps, vs, h, r => by
    have r : vs = [] := r
    cases h; subst r; exact .nil
  | x :: xs, ps, vs, h, r => by
    obtain ⟨v, w, rfl, r1, r2⟩ := r
    unfold D.pys at h
    cases q : D.py x with
    | none => rw [q] at h; cases h
    | some d =>
      cases q2 : D.pys xs with
      | none => rw [q, q2] at h; cases h
      | some ds =>
        rw [q, q2] at h; cases h
        exact .cons (RdD.dp x d v q r1) (RdDs.dp xs ds w q2 r2)
end
/-! ### the same address: equal -/
theorem fkey_inj {x y : D} {k : Key} (h1 : fkey x = some k) (h2 : fkey y = some k) : x = y := by
  cases x <;> simp [fkey] at h1 <;> cases y <;> simp [fkey] at h2 <;> subst h1 <;> simp at h2 <;> subst h2 <;> rfl
theorem dicU_keys {u : HO} {ks ks' : List D} {us us' : List V} (h1 : DicU u false ks us) (h2 : DicU u false ks' us') : mapO fkey ks = mapO fkey ks' ∧ us = us' := by
  obtain ⟨kvs, rfl, a, b⟩ := h1
  obtain ⟨kvs', e, a', b'⟩ := h2
  cases e
  exact ⟨a.trans a'.symm, b.trans b'.symm⟩
theorem mapO_fkey_inj : ∀ {ks ks' : List D} {qs : List Key}, mapO fkey ks = some qs → mapO fkey ks' = some qs → ks = ks'
  | [], [], _, _, _ => rfl
  | [], _ :: _, qs, h1, h2 => by
    cases h1
    unfold mapO at h2
    split at h2 <;> cases h2
  | _ :: _, [], qs, h1, h2 => by
    cases h2
    unfold mapO at h1
    split at h1 <;> cases h1
  | x :: ks, y :: ks', qs, h1, h2 => by
    unfold mapO at h1 h2
    split at h1
    · rename_i a as e1 e2
      cases h1
      split at h2
      · rename_i b bs e3 e4
        cases h2
        rw [fkey_inj e1 e3, mapO_fkey_inj e2 e4]
      · cases h2
    · cases h1
theorem keyEq_k {x y : D} {a b : Key} (h1 : fkey x = some a) (h2 : fkey y = some b) : keyEq x y = decide (a = b) := by
  unfold keyEq; rw [h1, h2]
theorem fkey_some {x : D} (h : (fkey x).isSome = true) : ∃ k, fkey x = some k := Option.isSome_iff_exists.mp h
theorem keyEq_refl {x : D} (h : (fkey x).isSome = true) : keyEq x x = true := by
  obtain ⟨k, e⟩ := fkey_some h
  rw [keyEq_k e e]; simp
end
end KF

set_option Elab.async false
set_option linter.all false
set_option maxRecDepth 100000
set_option maxHeartbeats 4000000
/-! V3d: == by content: soundness -/
namespace KF
open PySem PySem.Spec PyProof.Rows L2
section
variable {L : Lk} {H : Hp} {m : Mp} {ls : List Addr}
theorem RdDs.paired : ∀ {ds : List D} {vs : List V}, RdDs L H ls ds vs → Paired (RdD L H ls) ds vs
  | [], _, h => by rw [show _ = ([] : List V) from h]; exact .nil
  | x :: xs, vs, h => by
    obtain ⟨v, r, rfl, h2, h3⟩ := h
    exact .cons h2 (RdDs.paired h3)
theorem RelDs.paired : ∀ {ds : List D} {vs : List V}, RelDs L H m ds vs → Paired (RelD L H m) ds vs
  | [], _, h => by rw [show _ = ([] : List V) from h]; exact .nil
  | x :: xs, vs, h => by
    obtain ⟨v, r, rfl, h2, h3⟩ := h
    exact .cons h2 (RelDs.paired h3)
theorem lookD_kvs {R : D → V → Prop} {q : D} {key : Key} (hq : fkey q = some key) : ∀ {ks vs : List D} {kvs : List (Key × V)}, mapO fkey ks = some (kvs.map (·.1)) → Paired R vs (kvs.map (·.2)) →
    (∀ d, lookD q ks vs = some d → ∃ v, valV kvs key = some v ∧ R d v) ∧ (lookD q ks vs = none → valV kvs key = none)
  | [], vs, kvs, h1, h2 => by
    cases kvs with
    | nil => exact ⟨fun d h => by simp [lookD] at h, fun _ => rfl⟩
    | cons _ _ => simp [mapO] at h1
  | k :: ks, vs, kvs, h1, h2 => by
    unfold mapO at h1
    split at h1
    · rename_i a as e1 e2
      cases kvs with
      | nil => simp at h1
      | cons p kvs =>
        rw [List.map_cons] at h1 h2
        injection h1 with h1
        injection h1 with h3 h4
        subst h3
        cases h2 with
        | @cons d _ vs' _ r rs =>
          have ih := lookD_kvs (R := R) hq (ks := ks) (vs := vs') (kvs := kvs) (by rw [e2, h4]) rs
          have hk := keyEq_k hq e1
          unfold lookD
          by_cases c : key = p.1
          · have : keyEq q k = true := by rw [hk]; simp [c]
            rw [if_pos this]
            exact ⟨fun d' h => by cases h; exact ⟨p.2, valV_pos c.symm, r⟩, fun h => by cases h⟩
          · have : ¬ keyEq q k = true := by rw [hk]; simp [c]
            rw [if_neg this]
            rw [valV_neg (fun z => c z.symm)]
            exact ih
    · cases h1
theorem rd_dk {a : Addr} {k1 k2 : List (Key × V)} (h1 : Rd H a (.dK k1)) (h2 : Rd H a (.dK k2)) : k1 = k2 := by
  rcases h1 with h1 | ⟨o, h1⟩ <;> rcases h2 with h2 | ⟨o2, h2⟩ <;> rw [h1] at h2 <;> injection h2 with h2
  · injection h2
  · cases h2
  · cases h2
  · injection h2 with _ h3
    injection h3
theorem relv_inj {v v' : V} {u : Value} (h1 : RelV v u) (h2 : RelV v' u) : v = v' := by
  cases v with
  | non => cases (show u = Value.none from h1); cases v' <;> first | rfl | (cases h2; done) | (obtain ⟨t, e⟩ := h2; cases e)
  | bl b => cases (show u = Value.bool b from h1); cases v' <;> first | (cases h2; rfl) | (cases h2; done) | (obtain ⟨t, e⟩ := h2; cases e)
  | int i => obtain ⟨t, e⟩ := (show ∃ t, u = Value.int i t from h1); cases e; cases v' <;> first | (obtain ⟨t, e⟩ := h2; cases e; rfl) | (cases h2; done) | (obtain ⟨t, e⟩ := h2; cases e)
  | str x => obtain ⟨t, e⟩ := (show ∃ t, u = Value.str x t from h1); cases e; cases v' <;> first | (obtain ⟨t, e⟩ := h2; cases e; rfl) | (cases h2; done) | (obtain ⟨t, e⟩ := h2; cases e)
  | byt b => obtain ⟨t, e⟩ := (show ∃ t, u = Value.bytes b t from h1); cases e; cases v' <;> first | (obtain ⟨t, e⟩ := h2; cases e; rfl) | (cases h2; done) | (obtain ⟨t, e⟩ := h2; cases e)
  | flt b => obtain ⟨t, e⟩ := (show ∃ t, u = Value.float b t from h1); cases e; cases v' <;> first | (obtain ⟨t, e⟩ := h2; cases e; rfl) | (cases h2; done) | (obtain ⟨t, e⟩ := h2; cases e)
  | ref a => cases (show u = Value.ref a from h1); cases v' <;> first | (cases h2; rfl) | (cases h2; done) | (obtain ⟨t, e⟩ := h2; cases e)
  | ty n => cases (show u = Value.type n from h1); cases v' <;> first | (cases h2; rfl) | (cases h2; done) | (obtain ⟨t, e⟩ := h2; cases e)
theorem vals_inj : ∀ {vs vs' : List V} {us : List Value}, Vals vs us → Vals vs' us → vs = vs'
  | [], _, _, h1, h2 => by cases h1; cases h2; rfl
  | v :: vs, vs', _, h1, h2 => by
    cases h1 with
    | cons a b =>
      cases h2 with
      | cons c d => rw [relv_inj a c, vals_inj b d]
end
/-- == by items -/
theorem zipO_spec {f : D → D → Option Bool} : ∀ {xs ys : List D} {b : Bool}, zipO f xs ys = some b → ∃ bs : List Bool, bs.length = xs.length ∧ ys.length = xs.length ∧ b = bs.all id ∧ ∀ (i : Nat) x y, xs[i]? = some x → ys[i]? = some y → f x y = some (bs.getD i false)
  | [], [], b, h => by cases h; exact ⟨[], rfl, rfl, rfl, fun i x y h => by simp at h⟩
  | [], _ :: _, b, h => by cases h
  | _ :: _, [], b, h => by cases h
  | x :: xs, y :: ys, b, h => by
    unfold zipO at h
    split at h
    · rename_i a c e1 e2
      cases h
      obtain ⟨bs, l1, l2, e, g⟩ := zipO_spec e2
      refine ⟨a :: bs, by simp [l1], by simp [l2], by simp [e], fun i p q h1 h2 => ?_⟩
      cases i with
      | zero =>
        simp at h1 h2
        subst h1; subst h2
        simpa using e1
      | succ i => simpa using g i p q (by simpa using h1) (by simpa using h2)
    · cases h
section
variable {X : Cx} {pins : List (Addr × Obj)} {σ : L2.St} {H : Hp} {s : Shared} {L : Lk} {ls : List Addr}
theorem sq_its (I : Inv X pins σ H s) {a : Addr} {xs ys : List V} (h1 : SqT X.K H a xs) (h2 : SqT X.K H a ys) : xs = ys := by
  obtain ⟨its, r, p, _⟩ := I.tuple h1
  obtain ⟨its2, r2, p2, _⟩ := I.tuple h2
  obtain ⟨o, e1, c1, n, d1⟩ := p
  obtain ⟨o2, e2, c2, n2, d2⟩ := p2
  rw [e1] at e2
  cases e2
  rw [d1] at d2
  injection d2 with d3 d4
  have : its = its2 := by simpa using d3
  subst this
  exact vals_inj r r2
/-- the same value: equal -/
theorem eqX_same (I : Inv X pins σ H s) (hK : X.K = L.K) : ∀ (k : Nat) (x y : D) (b : Bool) (v : V) (u : Value), eqX k x y = some b → RdD L H ls x v → RdD L H ls y v → RelV v u → b = true
  | 0, _, _, _, _, _, h, _, _, _ => by cases h
  | k + 1, x, y, b, v, u, h, rx, ry, ru => by
    have ih := eqX_same I hK k
    unfold eqX at h
    split at h
    · rename_i b' e
      cases h
      unfold deqP at e
      split at e
      · rename_i p q e1 e2
        split at e
        · rename_i hc
          cases e
          obtain ⟨as, r1⟩ := Dp.reads I p v u (by rw [hK]; exact RdD.dp _ _ _ e1 rx) ru
          obtain ⟨bs, r2⟩ := Dp.reads I q v u (by rw [hK]; exact RdD.dp _ _ _ e2 ry) ru
          have := SeqAt.Reads.unique p q u _ _ (SeqAt.canLay_of_shaped hc.1) r1 r2
          subst this
          exact SeqAt.eqv_refl p (SeqAt.canLay_of_shaped hc.1)
        · cases e
      · cases e
    · split at h
      · split at h
        · cases h; rfl
        · cases h
      · rename_i xs ys _
        split at h
        · obtain ⟨bs, l1, l2, e, g⟩ := zipO_spec h
          obtain ⟨a, vs, rfl, h1, h2⟩ := rx
          obtain ⟨a', vs', e', h1', h2'⟩ := ry
          cases e'
          have ev := sq_its I (by rw [hK]; exact h1) (by rw [hK]; exact h1')
          subst ev
          obtain ⟨its, r, _⟩ := I.tuple (show SqT X.K H a vs by rw [hK]; exact h1)
          rw [e, List.all_eq_true]
          intro b' hb'
          obtain ⟨i, hi⟩ := List.mem_iff_getElem?.mp hb'
          have il : i < bs.length := (List.getElem?_eq_some_iff.mp hi).1
          have q1 : xs[i]? = some (xs[i]'(by omega)) := List.getElem?_eq_getElem _
          have q2 : ys[i]? = some (ys[i]'(by omega)) := List.getElem?_eq_getElem _
          have gi := g i _ _ q1 q2
          rw [List.getD_eq_getElem?_getD, hi] at gi
          have pr : ∀ {ds : List D} {vs : List V} {i : Nat} {d : D}, RdDs L H ls ds vs → ds[i]? = some d → ∃ v, vs[i]? = some v ∧ RdD L H ls d v := by
            intro ds
            induction ds with
            | nil => intro vs i d _ e; simp at e
            | cons x xs ihd =>
              intro vs i d h e
              obtain ⟨v, r, rfl, h2, h3⟩ := h
              cases i with
              | zero => simp at e; subst e; exact ⟨v, by simp, h2⟩
              | succ i => obtain ⟨w, e1, e2⟩ := ihd h3 (by simpa using e); exact ⟨w, by simpa using e1, e2⟩
          obtain ⟨w1, p1, p2⟩ := pr h2 q1
          obtain ⟨w2, p3, p4⟩ := pr h2' q2
          rw [p1] at p3; cases p3
          obtain ⟨uu, _, ru'⟩ := r.get p1
          exact ih _ _ _ _ uu gi p2 p4 ru'
        · cases h
      · rename_i ks vs ks' vs' _
        split at h
        · rename_i hc
          obtain ⟨hc1, hc2, hc3, hc4⟩ := hc
          obtain ⟨a, us, rfl, ⟨o, h1, kvs, rfl, h3, rfl⟩, h2⟩ := rx
          obtain ⟨a', us', e', ⟨o', h1', kvs', rfl, h3', rfl⟩, h2'⟩ := ry
          cases e'
          have ek := rd_dk h1 h1'
          subst ek
          have eks := mapO_fkey_inj h3 h3'
          subst eks
          rw [if_pos rfl] at h
          obtain ⟨_, _, va, ra, _⟩ := dk_rd I.hok h1
          -- the values one by one
          have go : ∀ (ks1 vs1 vs1' : List D) (kvs1 : List (Key × V)) (va1 : List (Key × Value)) (b : Bool), hitsD (eqX k) ks vs' ks1 vs1 = some b → (∀ q, q ∈ ks1 → q ∈ ks) → mapO fkey ks1 = some (kvs1.map (·.1)) → Paired (RdD L H ls) vs1 (kvs1.map (·.2)) → KV kvs1 va1 →
              (∀ p ∈ kvs1, valV kvs p.1 = some p.2) → b = true := by
            intro ks1
            induction ks1 with
            | nil =>
              intro vs1 vs1' kvs1 va1 b hh _ m1 p1 _ _
              cases vs1 with
              | nil => cases hh; rfl
              | cons _ _ => cases kvs1 with
                | nil => cases p1
                | cons _ _ => simp [mapO] at m1
            | cons q ks1 ihk =>
              intro vs1 vs1' kvs1 va1 b hh hsub m1 p1 kv1 hv
              cases vs1 with
              | nil => cases kvs1 with
                | nil => unfold mapO at m1; split at m1 <;> simp at m1
                | cons _ _ => cases p1
              | cons w1 vs1 =>
                cases kvs1 with
                | nil => cases p1
                | cons p kvs1 =>
                  cases kv1 with
                  | @cons _ p' _ va2 hp hkv =>
                  cases p1 with
                  | cons r1 rs =>
                    unfold mapO at m1
                    split at m1
                    · rename_i key keys f1 f2
                      rw [List.map_cons] at m1
                      injection m1 with m1
                      injection m1 with m2 m3
                      subst m2
                      have lk := lookD_kvs (R := RdD L H ls) f1 h3 h2'.paired
                      have hval := hv p List.mem_cons_self
                      unfold hitsD at hh
                      split at hh
                      · rename_i w bb g1 g2
                        have := ihk vs1 [] kvs1 va2 bb g2 (fun q hq => hsub q (List.mem_cons_of_mem _ hq)) (by rw [f2, m3]) rs hkv (fun p hp => hv p (List.mem_cons_of_mem _ hp))
                        subst this
                        obtain ⟨wv, g3, g4⟩ := lk.1 w g1
                        rw [hval] at g3
                        cases g3
                        split at hh
                        · rename_i aa g5
                          cases hh
                          have := ih _ _ _ _ _ g5 r1 g4 hp.2
                          rw [this]; rfl
                        · cases hh
                      · rename_i g1 g2
                        have := lk.2 g1
                        rw [hval] at this; cases this
                      · cases hh
                    · cases m1
          have hnd : ∀ (kvs : List (Key × V)) (ks : List D), mapO fkey ks = some (kvs.map (·.1)) → nodupK ks = true → ∀ p ∈ kvs, valV kvs p.1 = some p.2 := by
            intro kvs
            induction kvs with
            | nil => intro ks _ _ p hp; cases hp
            | cons p0 kvs ihn =>
              intro ks hm hn p hp
              cases ks with
              | nil => simp [mapO] at hm
              | cons q ks =>
                unfold mapO at hm
                split at hm
                · rename_i key keys f1 f2
                  rw [List.map_cons] at hm
                  injection hm with hm
                  injection hm with m2 m3
                  unfold nodupK at hn
                  simp only [Bool.and_eq_true, Bool.not_eq_true'] at hn
                  obtain ⟨n1, n2, n3⟩ := hn
                  rcases List.mem_cons.mp hp with e | hp
                  · subst e; exact valV_pos rfl
                  · have hne : ¬ p0.1 = p.1 := by
                      intro z
                      have : ∀ (ks : List D) (kvs : List (Key × V)), mapO fkey ks = some (kvs.map (·.1)) → p ∈ kvs → ∃ q' ∈ ks, fkey q' = some p.1 := by
                        intro ks
                        induction ks with
                        | nil => intro kvs hm hp; cases kvs with | nil => cases hp | cons _ _ => simp [mapO] at hm
                        | cons a ks ihh =>
                          intro kvs hm hp
                          cases kvs with
                          | nil => cases hp
                          | cons b kvs =>
                            unfold mapO at hm
                            split at hm
                            · rename_i key' keys' f1' f2'
                              rw [List.map_cons] at hm
                              injection hm with hm
                              injection hm with m2' m3'
                              rcases List.mem_cons.mp hp with e | hp
                              · subst e; exact ⟨a, List.mem_cons_self, by rw [f1', m2']⟩
                              · obtain ⟨q', z1, z2⟩ := ihh kvs (by rw [f2', m3']) hp
                                exact ⟨q', List.mem_cons_of_mem _ z1, z2⟩
                            · cases hm
                      obtain ⟨q', z1, z2⟩ := this ks kvs (by rw [f2, m3]) hp
                      have ha : ks.any (fun q'' => keyEq q q'') = true := List.any_eq_true.mpr ⟨q', z1, by rw [keyEq_k f1 z2, m2]; simp [z]⟩
                      rw [ha] at n2; cases n2
                    rw [valV_neg hne]
                    exact ihn ks (by rw [f2, m3]) n3 p hp
                · cases hm
          exact go ks vs vs' kvs va b h (fun _ hq => hq) h3 h2.paired ra (hnd kvs ks h3 hc3)
        · cases h
      · cases h
end
end KF

set_option Elab.async false
set_option linter.all false
set_option maxRecDepth 100000
set_option maxHeartbeats 4000000
/-! V3e: == by content: soundness, the rules -/
namespace KF
open PySem PySem.Spec PyProof.Rows L2
section
variable {X : Cx} {pins : List (Addr × Obj)} {σ : L2.St} {H : Hp} {s : Shared} {L : Lk} {ls : List Addr} {A : Around}
/-- both rules -/
def RcB (P : Program) (w : World) (A : Around) (s : Shared) (u v : Value) (b : Bool) : Prop := RcP P w A s .Eq u v b ∧ RcP P w A s .NotEq u v (!b)
theorem paired_get {R : D → V → Prop} : ∀ {ds : List D} {vs : List V} {i : Nat} {d : D}, Paired R ds vs → ds[i]? = some d → ∃ v, vs[i]? = some v ∧ R d v
  | _, _, i, d, .nil, e => by simp at e
  | _, _, 0, d, .cons h t, e => by simp at e; subst e; exact ⟨_, by simp, h⟩
  | _, _, i + 1, d, .cons h t, e => by
    obtain ⟨v, e1, e2⟩ := paired_get t (i := i) (d := d) (by simpa using e)
    exact ⟨v, by simpa using e1, e2⟩
theorem eq_composite (I : Inv X pins σ H s) (hK : X.K = L.K) {k : Nat} (hu : A.units < cLine)
    (ih : ∀ x y b v v' u w, eqX k x y = some b → RdD L H ls x v → RelV v u → RdD L H ls y v' → RelV v' w → SeqAt.EqP X.prog X.w A.in1 s u w b)
    {x y : D} {b : Bool} {v v' : V} {u w : Value} (hd : deqP x y = none) (hl : isLoc x = false) (h : eqX (k + 1) x y = some b) (rx : RdD L H ls x v) (ru : RelV v u) (ry : RdD L H ls y v') (rw' : RelV v' w) :
    ∃ a c, v = .ref a ∧ v' = .ref c ∧ RcB X.prog X.w A s u w b := by
  unfold eqX at h
  rw [hd] at h
  dsimp only at h
  split at h
  · cases hl
  · rename_i xs ys
    split at h
    · rename_i hlen
      obtain ⟨bs, l1, l2, e, g⟩ := zipO_spec h
      obtain ⟨a, vs, rfl, h1, h2⟩ := rx
      obtain ⟨c, vs', rfl, h1', h2'⟩ := ry
      cases ru
      cases rw'
      obtain ⟨its, r, p, _⟩ := I.tuple (show SqT X.K H a vs by rw [hK]; exact h1)
      obtain ⟨its2, r2, p2, _⟩ := I.tuple (show SqT X.K H c vs' by rw [hK]; exact h1')
      have z1 : its.toArray.size = bs.length := by rw [List.size_toArray, ← r.length, h2.length, l1]
      have z2 : its2.toArray.size = bs.length := by rw [List.size_toArray, ← r2.length, h2'.length, l2, l1]
      have hE : ∀ j (h1 : j < its.toArray.size) (h2 : j < its2.toArray.size), SeqAt.EqP X.prog X.w A.in1 s its.toArray[j] its2.toArray[j] (bs.getD j false) := by
        intro j j1 j2
        have q1 : xs[j]? = some (xs[j]'(by rw [← l1, ← z1]; exact j1)) := List.getElem?_eq_getElem _
        have q2 : ys[j]? = some (ys[j]'(by rw [l2, ← l1, ← z1]; exact j1)) := List.getElem?_eq_getElem _
        obtain ⟨w1, p3, p4⟩ := paired_get h2.paired q1
        obtain ⟨w2, p5, p6⟩ := paired_get h2'.paired q2
        obtain ⟨u1, e1, ru1⟩ := r.get p3
        obtain ⟨u2, e2, ru2⟩ := r2.get p5
        have f1 : its.toArray[j] = u1 := by
          have : its[j]? = some its.toArray[j] := by rw [List.getElem?_eq_getElem (by simpa using j1)]; simp
          rw [this] at e1; exact Option.some.inj e1
        have f2 : its2.toArray[j] = u2 := by
          have : its2[j]? = some its2.toArray[j] := by rw [List.getElem?_eq_getElem (by simpa using j2)]; simp
          rw [this] at e2; exact Option.some.inj e2
        rw [f1, f2]
        exact ih _ _ _ _ _ _ _ (g j _ _ q1 q2) p4 ru1 p6 ru2
      have ea : ((List.range (min its.toArray.size its2.toArray.size)).all (fun j => bs.getD j false) && its.toArray.size == its2.toArray.size) = b := by
        rw [z1, z2, Nat.min_self, e, L2.all_range]; simp
      refine ⟨a, c, rfl, rfl, ?_, ?_⟩
      · have := rcP_tuples (prog := X.prog) (w := X.w) (e := fun j => bs.getD j false) p p2 hu hE
        rw [ea] at this
        exact this
      · have := rcP_neTuples (prog := X.prog) (w := X.w) (e := fun j => bs.getD j false) p p2 hu hE
        rw [ea] at this
        exact this
    · cases h
  · rename_i ks vs ks' vs'
    split at h
    · rename_i hc
      obtain ⟨hc1, hc2, hc3, hc4⟩ := hc
      obtain ⟨a, us, rfl, ⟨o, h1, kvs, rfl, h3, rfl⟩, h2⟩ := rx
      obtain ⟨c, us', rfl, ⟨o', h1', kvs', rfl, h3', rfl⟩, h2'⟩ := ry
      cases ru
      cases rw'
      obtain ⟨_, ya, va, ra, da⟩ := dk_rd I.hok h1
      obtain ⟨_, yb, vb, rb, db⟩ := dk_rd I.hok h1'
      have ml : ∀ {ks : List D} {kvs : List (Key × V)}, mapO fkey ks = some (kvs.map (·.1)) → ks.length = kvs.length := by
        intro ks
        induction ks with
        | nil => intro kvs hm; cases kvs with | nil => rfl | cons _ _ => simp [mapO] at hm
        | cons q ks ihk =>
          intro kvs hm
          unfold mapO at hm
          split at hm
          · rename_i e1 e2
            cases kvs with
            | nil => simp at hm
            | cons p kvs =>
              rw [List.map_cons] at hm
              injection hm with hm
              injection hm with m2 m3
              rw [List.length_cons, List.length_cons, ihk (by rw [e2, m3])]
          · cases hm
      have la : va.length = ks.length := by rw [← ra.length, ml h3]
      have lb : vb.length = ks'.length := by rw [← rb.length, ml h3']
      have key : ∃ r : Bool, b = (va.length == vb.length && r) ∧ (va.length = vb.length → PySem.W.KeqHitsP X.prog X.w A.in1 s vb va r) := by
        by_cases hlen : ks.length = ks'.length
        · rw [if_pos hlen] at h
          refine ⟨b, by rw [la, lb, hlen]; simp, fun _ => ?_⟩
          have go : ∀ (ks1 vs1 : List D) (kvs1 : List (Key × V)) (va1 : List (Key × Value)) (b : Bool), hitsD (eqX k) ks' vs' ks1 vs1 = some b → mapO fkey ks1 = some (kvs1.map (·.1)) → Paired (RdD L H ls) vs1 (kvs1.map (·.2)) → KV kvs1 va1 →
              PySem.W.KeqHitsP X.prog X.w A.in1 s vb va1 b := by
            intro ks1
            induction ks1 with
            | nil =>
              intro vs1 kvs1 va1 b hh m1 p1 kv1
              cases kvs1 with
              | nil =>
                cases kv1
                cases p1
                cases hh; exact .nil
              | cons _ _ => simp [mapO] at m1
            | cons q ks1 ihk =>
              intro vs1 kvs1 va1 b hh m1 p1 kv1
              cases kvs1 with
              | nil => unfold mapO at m1; split at m1 <;> simp at m1
              | cons p kvs1 =>
                cases p1 with
                | @cons w1 _ vs1 _ r1 rs =>
                cases kv1 with
                | @cons _ p' _ va2 hp hkv =>
                  unfold mapO at m1
                  split at m1
                  · rename_i key keys f1 f2
                    rw [List.map_cons] at m1
                    injection m1 with m1
                    injection m1 with m2 m3
                    subst m2
                    have lk := lookD_kvs (R := RdD L H ls) f1 h3' h2'.paired
                    have rr := rb.val p.1
                    obtain ⟨key', val'⟩ := p'
                    obtain ⟨hp1, hp2⟩ := hp
                    have hp1 : p.1 = key' := hp1
                    subst hp1
                    unfold hitsD at hh
                    split at hh
                    · rename_i w bb g1 g2
                      have ihr := ihk vs1 kvs1 va2 bb g2 (by rw [f2, m3]) rs hkv
                      obtain ⟨wv, g3, g4⟩ := lk.1 w g1
                      rw [g3] at rr
                      obtain ⟨y, hy, ry⟩ := rr.some_of
                      split at hh
                      · rename_i aa g5
                        cases hh
                        exact .hit hy (ih _ _ _ _ _ _ _ g5 r1 hp2 g4 ry) ihr
                      · cases hh
                    · rename_i g1 g2
                      cases hh
                      have := lk.2 g1
                      rw [this] at rr
                      exact .miss rr.none_of
                    · cases hh
                  · cases m1
          exact go ks vs kvs va b h h3 h2.paired ra
        · rw [if_neg hlen] at h
          cases h
          refine ⟨true, by rw [la, lb]; simp [hlen], fun z => absurd (by rw [← la, ← lb]; exact z) hlen⟩
      obtain ⟨r, er, hits⟩ := key
      refine ⟨a, c, rfl, rfl, fun E Q q => ?_, ?_⟩
      · rw [er] at q
        exact PySem.W.rcP_dicts (knd := mixKind X.prog X.w) ya yb da db hu hits E Q q
      · have := rcP_neDicts (knd := mixKind X.prog X.w) ya yb da db hu hits
        rw [← er] at this
        exact this
    · cases h
  · cases h
theorem eqX_ok (I : Inv X pins σ H s) (hK : X.K = L.K) : ∀ (k : Nat) (A : Around), A.units + k + 66 < cLine → ∀ (x y : D) (b : Bool) (v v' : V) (u w : Value), eqX k x y = some b → RdD L H ls x v → RelV v u → RdD L H ls y v' → RelV v' w → SeqAt.EqP X.prog X.w A s u w b
  | 0, _, _, _, _, _, _, _, _, _, h, _, _, _, _ => by cases h
  | k + 1, A, hu, x, y, b, v, v', u, w, h, rx, ru, ry, rw' => by
    have ih := eqX_ok I hK k A.in1 (by show A.units + 1 + k + 66 < cLine; omega)
    cases hd : deqP x y with
    | some b' =>
      have h' := h
      unfold eqX at h'
      rw [hd] at h'
      cases h'
      unfold deqP at hd
      split at hd
      · rename_i p q e1 e2
        split at hd
        · rename_i hc
          cases hd
          obtain ⟨as, r1⟩ := Dp.reads I p v u (by rw [hK]; exact RdD.dp _ _ _ e1 rx) ru
          obtain ⟨bs, r2⟩ := Dp.reads I q v' w (by rw [hK]; exact RdD.dp _ _ _ e2 ry) rw'
          exact (SeqAt.eqAt_reads p q A s u w _ _ r1 r2 (SeqAt.canLay_of_shaped hc.1) (SeqAt.canLay_of_shaped hc.2) (SeqAt.room_of_shaped hc.1 (by omega))).eqP
        · cases hd
      · cases hd
    | none =>
      by_cases hl : isLoc x = true
      · unfold eqX at h
        rw [hd] at h
        cases x <;> try (cases hl; done)
        rename_i n
        cases y <;> try (cases h; done)
        rename_i n'
        have h : (if n = n' then some true else none) = some b := h
        split at h
        · rename_i he
          cases h
          obtain ⟨a, rfl, ha⟩ := rx
          obtain ⟨c, rfl, hc⟩ := ry
          rw [← he, ha] at hc
          cases hc
          cases ru
          cases rw'
          exact (SeqAt.EqAt.same _).eqP
        · cases h
      · obtain ⟨a, c, rfl, rfl, q1, _⟩ := eq_composite (A := A) I hK (by omega) ih hd (by simpa using hl) h rx ru ry rw'
        have cu : u = Value.ref a := ru
        have cw : w = Value.ref c := rw'
        subst cu cw
        by_cases hac : a = c
        · subst hac
          have := eqX_same I hK (k + 1) x y b _ _ h rx ry ru
          subst this
          exact (SeqAt.EqAt.same _).eqP
        · exact SeqAt.eqP_refs hac q1
theorem deq_ok (I : Inv X pins σ H s) (hK : X.K = L.K) {m : Mp} {S : Store} (hs : RelS L H m S) (hu : A.units + 140 < cLine) {x y : D} {b : Bool} {v v' : V} {u w : Value} (h : deq S x y = some b) (rx : RelD L H m x v) (ru : RelV v u) (ry : RelD L H m y v') (rw' : RelV v' w) :
    RcB X.prog X.w A s u w b := by
  unfold deq at h
  split at h
  · rename_i x' y' e1 e2
    split at h
    · cases h
    · rename_i hl
      have qx := pur_ok hs 64 x x' v e1 rx
      have qy := pur_ok hs 64 y y' v' e2 ry
      cases hd : deqP x' y' with
      | some b' =>
        unfold eqX at h
        rw [hd] at h
        cases h
        unfold deqP at hd
        split at hd
        · rename_i p q e1 e2
          split at hd
          · rename_i hc
            cases hd
            obtain ⟨as, r1⟩ := Dp.reads I p v u (by rw [hK]; exact RdD.dp _ _ _ e1 qx) ru
            obtain ⟨bs, r2⟩ := Dp.reads I q v' w (by rw [hK]; exact RdD.dp _ _ _ e2 qy) rw'
            exact ⟨fun E Q q => SeqAt.compareEq_shaped r1 r2 hc.1 hc.2 (by omega) q, fun E Q q => SeqAt.compareNe_shaped r1 r2 hc.1 hc.2 (by omega) q⟩
          · cases hd
        · cases hd
      | none =>
        obtain ⟨_, _, _, _, q⟩ := eq_composite (A := A) I hK (by omega) (fun x y b v v' u w => eqX_ok I hK 59 A.in1 (by show A.units + 1 + 59 + 66 < cLine; omega) x y b v v' u w) hd (by simpa using hl) h qx ru qy rw'
        exact q
  · cases h
end
end KF

set_option Elab.async false
set_option linter.all false
set_option maxRecDepth 100000
set_option maxHeartbeats 4000000
/-! V4: comparisons, subscripts -/
namespace KF
open PySem PySem.Spec PyProof.Rows L2
def C2.py : C2 → CmpOp
  | .eq => .Eq | .ne => .NotEq | .lt => .Lt | .le => .LtE | .gt => .Gt | .ge => .GtE | .inn => .In | .nin => .NotIn
section
variable {L : Lk} {H : Hp} {m : Mp}
theorem RelD.flat {d : D} {v : V} (hf : d.flat = true) (r : RelD L H m d v) : v = d.toV ∧ flatV v = true := by
  cases d with
  | non => exact ⟨r, by rw [show v = _ from r]; rfl⟩
  | bl b => exact ⟨r, by rw [show v = _ from r]; rfl⟩
  | int i => exact ⟨r, by rw [show v = _ from r]; rfl⟩
  | str x => exact ⟨r, by rw [show v = _ from r]; rfl⟩
  | _ => cases hf
theorem RelDs.flat : ∀ {ds : List D} {vs : List V}, ds.all D.flat = true → RelDs L H m ds vs → vs = ds.map D.toV ∧ vs.all flatV = true
  | [], vs, _, r => by rw [show vs = [] from r]; exact ⟨rfl, rfl⟩
  | x :: xs, vs, h, r => by
    obtain ⟨v, w, rfl, r1, r2⟩ := r
    rw [List.all_cons, Bool.and_eq_true] at h
    obtain ⟨e1, f1⟩ := r1.flat h.1
    obtain ⟨e2, f2⟩ := r2.flat h.2
    exact ⟨by rw [e1, e2]; rfl, by rw [List.all_cons, f1, f2]; rfl⟩
theorem atI_rel {xs : List D} {vs : List V} {i : Int} {d : D} (r : RelDs L H m xs vs) (h : atI xs i = some d) : ∃ v, atI vs i = some v ∧ RelD L H m d v := by
  unfold atI at h ⊢
  rw [r.length]
  cases q : ixN xs.length i with
  | none => rw [q] at h; cases h
  | some j =>
    rw [q] at h
    obtain ⟨v, e, rv⟩ := r.get h
    exact ⟨v, e, rv⟩
/-- a dict, to be read -/
theorem dic_rd {S : Store} {d : D} {v : V} {t : Bool} {ks vs : List D} (s : RelS L H m S) (r : RelD L H m d v) (h : dicOf S d = some (t, ks, vs)) :
    ∃ a us, v = .ref a ∧ DicR H t a ks us ∧ RelDs L H m vs us := by
  cases d with
  | dic t' ks' vs' =>
    cases h
    obtain ⟨a, us, e, _, _, h4, h5⟩ := r
    exact ⟨a, us, e, h4.rd, h5⟩
  | loc n =>
    obtain ⟨a, rfl, ha⟩ := r
    unfold dicOf at h
    dsimp only at h
    split at h
    · rename_i t' ks' vs' q
      cases h
      obtain ⟨b, e1, u, us, e2, e3, e4⟩ := s.at_ n _ q
      rw [ha] at e1; cases e1
      exact ⟨a, us, rfl, ⟨u, .inl e2, e3⟩, e4⟩
    · rename_i t' ks' vs' q
      cases h
      obtain ⟨b, e1, o, u, us, e2, e3, e4⟩ := s.at_ n _ q
      rw [ha] at e1; cases e1
      exact ⟨a, us, rfl, ⟨u, .inr ⟨o, e2⟩, e3⟩, e4⟩
    · cases h
  | _ => cases h
theorem fkey_v {d : D} {v : V} {k : Key} (h : fkey d = some k) (r : RelD L H m d v) : v = kV k := by
  cases d <;> simp [fkey] at h <;> subst h <;> exact r
/-- what a dict holds at a key -/
theorem dic_get {S : Store} {d x : D} {v y : V} {ks vs : List D} {key : Key} (s : RelS L H m S) (r : RelD L H m d v) (h : dicOf S d = some (false, ks, vs)) (hk : fkey x = some key) (ry : RelD L H m x y) :
    ∃ a o, v = .ref a ∧ DGet H a y o ∧ (lookD x ks vs).isSome = o.isSome ∧ ∀ z, lookD x ks vs = some z → ∃ w, o = some w ∧ RelD L H m z w := by
  obtain ⟨a, us, e, ⟨u, h1, kvs, rfl, h3, rfl⟩, hr⟩ := dic_rd s r h
  have lk := lookD_kvs (R := RelD L H m) hk h3 hr.paired
  refine ⟨a, valV kvs key, e, .inl ⟨kvs, key, h1, fkey_v hk ry, rfl⟩, ?_, fun z hz => lk.1 z hz⟩
  cases q : lookD x ks vs with
  | none => rw [lk.2 q]; rfl
  | some z =>
    obtain ⟨w, e1, _⟩ := lk.1 z q
    rw [e1]; rfl
end
section
variable {X : Cx} {L : Lk}
theorem op_cmpAll (hK : X.K = L.K) (hu : X.A.units + 140 < cLine) (o : C2) : OpR X (compareOp o.py) (rO L fun S => dcmp S o) := by
  intro pins s σ H x y v u Q I rv ru h
  obtain ⟨d, e, z, m, S, hs, rx, ry, hz, k⟩ := h
  have fin : ∀ v, RelD L H m z v → Q v H := fun v r => k H m v (Ext.refl H m) hs r
  have rels : ∀ {p : Int → Int → Bool}, dRel p d e = some z → ∃ i j, x = .int i ∧ y = .int j ∧ z = .bl (p i j) := by
    intro p hp
    unfold dRel at hp
    split at hp
    · cases hp
      exact ⟨_, _, rx, ry, rfl⟩
    · cases hp
  have eqz : ∀ ng, dEq S ng d e = some z → ∃ b, RcB X.prog X.w X.A s v u b ∧ z = .bl (nb ng b) := by
    intro ng h
    unfold dEq at h
    split at h
    · rename_i b hb
      cases h
      exact ⟨b, deq_ok I hK hs hu hb rx rv ry ru, rfl⟩
    · cases h
  have inz : ∀ ng, dIn S ng d e = some z → wpAny (model X.prog X.w) X.A (compareOp (if ng = true then .NotIn else .In) v u) (EP X pins σ Q) X.xe s := by
    intro ng h
    unfold dIn at h
    split at h
    · rename_i ys q
      split at h
      · rename_i b q2
        cases h
        obtain ⟨a, vs, rfl, hr, hq⟩ := items_sq hs ry q
        unfold din at q2
        split at q2
        · rename_i hc
          cases q2
          obtain ⟨e1, f1⟩ := rx.flat hc.1
          obtain ⟨e2, f2⟩ := hr.flat hc.2
          have ei : inV x vs = (ys.any fun y => L2.eqV y.toV d.toV) := by
            unfold inV
            rw [e2, List.any_map, e1]; rfl
          cases ng with
          | false =>
            refine op_in_seq pins s σ H x _ v u Q I rv ru ⟨a, vs, rfl, by rw [hK]; exact hq, f1, f2, ?_⟩
            rw [if_neg Bool.false_ne_true, ei]
            exact fin _ rfl
          | true =>
            refine op_notIn_seq pins s σ H x _ v u Q I rv ru ⟨a, vs, rfl, by rw [hK]; exact hq, f1, f2, ?_⟩
            rw [if_pos rfl, ei]
            exact fin _ rfl
        · split at q2
          · rename_i x' ys' p1 p2
            split at q2
            · rename_i pd pds p3 p4
              split at q2
              · rename_i hc
                cases q2
                obtain ⟨hc1, hc2, hc3⟩ := hc
                have rdx := pur_ok hs 64 d x' x p1 rx
                have rdy := purs_ok (pur_ok hs 64) ys ys' vs p2 hr
                obtain ⟨as, r1⟩ := Dp.reads I pd x v (by rw [hK]; exact RdD.dp _ _ _ p3 rdx) rv
                have da : DpAll X.K H vs pds := by rw [hK]; exact RdDs.dp _ _ _ p4 rdy
                rcases hq with hq | hq
                · obtain ⟨bs, r2⟩ := Dp.reads I (.list pds) (.ref a) u (.lst (by rw [hK]; exact hq) da) ru
                  cases ng with
                  | false => exact SeqAt.in_list_reads r2 r1 (SeqAt.canLay_of_shaped hc2) (SeqAt.canLay_of_shaped hc1) (room_in_shaped hc1 (by omega)) ⟨.bl _, H, I, rfl, fin _ rfl⟩
                  | true => exact SeqAt.notIn_list_reads r2 r1 (SeqAt.canLay_of_shaped hc2) (SeqAt.canLay_of_shaped hc1) (room_in_shaped hc1 (by omega)) ⟨.bl _, H, I, rfl, fin _ rfl⟩
                · obtain ⟨bs, r2⟩ := Dp.reads I (.tuple pds) (.ref a) u (.tup (by rw [hK]; exact hq) da) ru
                  cases ng with
                  | false => exact SeqAt.in_tuple_reads r2 r1 (SeqAt.canLay_of_shaped hc3) (SeqAt.canLay_of_shaped hc1) (room_in_shaped hc1 (by omega)) ⟨.bl _, H, I, rfl, fin _ rfl⟩
                  | true => exact SeqAt.notIn_tuple_reads r2 r1 (SeqAt.canLay_of_shaped hc3) (SeqAt.canLay_of_shaped hc1) (room_in_shaped hc1 (by omega)) ⟨.bl _, H, I, rfl, fin _ rfl⟩
              · cases q2
            · cases q2
          · cases q2
      · cases h
    · split at h
      · rename_i ks vs q
        split at h
        · rename_i hk
          cases h
          obtain ⟨key, hk⟩ := Option.isSome_iff_exists.mp hk
          obtain ⟨a, o, rfl, g, e1, _⟩ := dic_get hs ry q hk rx
          cases ru
          cases ng with
          | false => exact d_in (by omega) I g rv fun s3 I3 => ⟨.bl o.isSome, H, I3, rfl, fin _ (by rw [e1]; rfl)⟩
          | true => exact d_notIn (by omega) I g rv fun s3 I3 => ⟨.bl (!o.isSome), H, I3, rfl, fin _ (by rw [e1]; rfl)⟩
        · cases h
      · cases h
      · split at h
        · rename_i a b _ _
          split at h
          · rename_i c hc
            cases h
            have rx : x = .str a := rx
            have ry : y = .str b := ry
            have ea : a = ⟨#[c]⟩ := by
              obtain ⟨⟨l⟩⟩ := a
              simp only at hc
              rw [hc]
            subst ea
            have em : (b.cps.toList.contains c) = decide (c ∈ b.cps.toList) := by simp
            cases ng with
            | false => exact op_in_sign pins s σ H x y v u Q I rv ru ⟨c, b, rx, ry, fin _ (by rw [em]; rfl)⟩
            | true => exact op_notIn_sign pins s σ H x y v u Q I rv ru ⟨c, b, rx, ry, fin _ (by rw [em]; rfl)⟩
          · cases h
        · cases h
  cases o
  · obtain ⟨b, ⟨q, _⟩, e⟩ := eqz false hz
    exact q _ _ ⟨.bl b, H, I, rfl, fin _ (by rw [e]; rfl)⟩
  · obtain ⟨b, ⟨_, q⟩, e⟩ := eqz true hz
    exact q _ _ ⟨.bl (!b), H, I, rfl, fin _ (by rw [e]; rfl)⟩
  · obtain ⟨i, j, h1, h2, h3⟩ := rels hz
    exact op_lt pins s σ H x y v u Q I rv ru ⟨i, j, h1, h2, fin _ (by rw [h3]; rfl)⟩
  · obtain ⟨i, j, h1, h2, h3⟩ := rels hz
    exact op_le pins s σ H x y v u Q I rv ru ⟨i, j, h1, h2, fin _ (by rw [h3]; rfl)⟩
  · obtain ⟨i, j, h1, h2, h3⟩ := rels hz
    exact op_gt pins s σ H x y v u Q I rv ru ⟨i, j, h1, h2, fin _ (by rw [h3]; rfl)⟩
  · obtain ⟨i, j, h1, h2, h3⟩ := rels hz
    exact op_ge pins s σ H x y v u Q I rv ru ⟨i, j, h1, h2, fin _ (by rw [h3]; rfl)⟩
  · exact inz false hz
  · exact inz true hz
theorem RelD.isNon {L : Lk} {H : Hp} {m : Mp} {d : D} {x : V} (rx : RelD L H m d x) : decide (x = V.non) = d.isNon := by
  cases d with
  | non => rw [show x = _ from rx]; rfl
  | bl b => rw [show x = _ from rx]; rfl
  | int i => rw [show x = _ from rx]; rfl
  | str y => rw [show x = _ from rx]; rfl
  | tup xs => obtain ⟨a, vs, rfl, _⟩ := rx; rfl
  | lst xs => obtain ⟨a, vs, rfl, _⟩ := rx; rfl
  | loc n => obtain ⟨a, rfl, _⟩ := rx; rfl
  | dic t ks vs => obtain ⟨a, us, rfl, _⟩ := rx; rfl
  | ins c fs => obtain ⟨a, us, rfl, _⟩ := rx; rfl
def rIs (L : Lk) (ng : Bool) : R2 := fun x y H Q => ∃ d m S, RelS L H m S ∧ RelD L H m d x ∧ y = .non ∧ ∀ H' m' v, Ext H m H' m' → RelS L H' m' S → RelD L H' m' (.bl (isnB ng d)) v → Q v H'
theorem op_isAll (ng : Bool) : OpR X (compareOp (if ng = true then .IsNot else .Is)) (rIs L ng) := by
  refine OpR.any fun x y H Q h => ?_
  obtain ⟨d, m, S, hs, rx, hy, k⟩ := h
  have e := rx.isNon
  cases ng with
  | false =>
    refine ⟨_, op_isN, hy, k H m _ (Ext.refl H m) hs ?_⟩
    rw [e]; rfl
  | true =>
    refine ⟨_, op_notN, hy, k H m _ (Ext.refl H m) hs ?_⟩
    rw [e]; rfl
/-- d[y] as a subscript -/
def rIxD (K : PySem.W.Frag) : R2 := fun x y H Q => ∃ a v, x = .ref a ∧ DGet H a y (some v) ∧ Q v H
theorem ix_dict (hu : X.A.units + 1 < cLine) : IxR X (rIxD X.K) := by
  intro value slice pins s σ H x y v u Q I rx ry h hs
  obtain ⟨a, w, rfl, g, q⟩ := h
  cases rx
  exact tail_any (dict_typeIs I g) PySem.F.slot_dict_getitem.lookup (d_getItem hu I g ry fun w' s3 I3 rw' => ⟨w, H, I3, rw', q⟩) hs
theorem ix_all (hK : X.K = L.K) (hu : X.A.units + 1 < cLine) : IxR X (rO L dix) := by
  refine IxR.any fun x y H Q h => ?_
  obtain ⟨d, e, z, m, S, hs, rx, ry, hz, k⟩ := h
  have fin : ∀ v, RelD L H m z v → Q v H := fun v r => k H m v (Ext.refl H m) hs r
  unfold dix at hz
  split at hz
  · rename_i xs i q
    obtain ⟨a, vs, rfl, hr, hq⟩ := items_sq hs rx q
    obtain ⟨v, e1, rv⟩ := atI_rel hr hz
    rcases hq with hq | hq
    · exact ⟨_, ix_list, a, vs, i, v, rfl, ry, by rw [hK]; exact hq, e1, fin _ rv⟩
    · exact ⟨_, ix_tup, a, vs, i, v, rfl, ry, by rw [hK]; exact hq, e1, fin _ rv⟩
  · cases hz
  · split at hz
    · rename_i ks vs q
      split at hz
      · rename_i hk
        obtain ⟨key, hk⟩ := Option.isSome_iff_exists.mp hk
        obtain ⟨a, o, rfl, g, _, e2⟩ := dic_get hs rx q hk ry
        obtain ⟨w, rfl, rw'⟩ := e2 z hz
        exact ⟨_, ix_dict hu, a, w, rfl, g, fin _ rw'⟩
      · cases hz
    · cases hz
    · split at hz
      · split at hz
        · rename_i hl
          split at hz
          · rename_i c hc
            cases hz
            exact ⟨_, ix_str, _, _, c, rx, ry, hl, hc, fin _ rfl⟩
          · cases hz
        · cases hz
      · cases hz
end
end KF

set_option Elab.async false
set_option linter.all false
set_option maxRecDepth 100000
set_option maxHeartbeats 4000000
/-! V4b: built-ins by values -/
namespace KF
open PySem PySem.Spec PyProof.Rows L2
section
variable {X : Cx}
/-- sorted(t) of a text of fewer than 64 signs -/
theorem call_sortTxt (hcalm : X.calm = true) : CallR X (.builtin "sorted") (fun xs H Q => ∃ (z : Str), xs = [.str z] ∧ z.cps.size < 64 ∧
    ∀ ys p, ys.Perm (z.cps.toList.map fun c => (⟨#[c]⟩ : Str)) → sortedS ys = true → H p = none → Q (.ref p) (upd H p (.lst (ys.map V.str)))) := by
  intro pins s σ H xs us Q I r q
  obtain ⟨z, ex, h64, q⟩ := q
  subst ex
  obtain ⟨u, eu, rx⟩ := vals1 r
  subst eu
  obtain ⟨t, rfl⟩ := rx
  refine Calls.call_function_entry PyProof.Rows.kind_sorted PyProof.Rows.plain_sorted PyProof.Rows.entry_sorted (PyProof.Rows.args_sorted1 _) ?_
  unfold Builtin.«sorted»
  refine wpAny_bind (m := checkCount "sorted" 1 1 _) (wpAny_pure ?_)
  refine wpAny_bind (wpAny_collect_str (A := X.A.in1) (I.ok.hd hcalm) z t (fun s' acc hk hg hd ho hacc => ?_) (by rw [sizeLine_eq]; omega))
  have hal : acc.toList.length = (z.cps.toList.map fun c => (⟨#[c]⟩ : Str)).length := by rw [Array.length_toList, hacc.1]; simp
  have hS : StrsAre acc.toList (z.cps.toList.map fun c => (⟨#[c]⟩ : Str)) := strs_at hal fun j v e => by
    obtain ⟨c, t', e1, e2⟩ := hacc.2 j v (by rw [← Array.getElem?_toList]; exact e)
    exact ⟨⟨#[c]⟩, t', by rw [List.getElem?_map, Array.getElem?_toList, e1]; rfl, e2⟩
  obtain ⟨h', g', d', tk, os'⟩ := s'
  have hg : g' = s.gens := hg
  have hd : d' = s.drawn := hd
  have ho : os' = s.os := ho
  subst hg hd ho
  have I1 : Inv X pins σ H { s with heap := h', toks := tk } := I.kept hk
  refine wpAny_bind (wpAny_newList ?_ (by rw [hal, sizeLine_eq]; simp; omega))
  have hoL : (h'.push (seqObj "list" acc.toList.toArray 0)).get? h'.objs.size = some (seqObj "list" acc.toList.toArray 0) := Heap.get?_push_size _ rfl
  show wpAny _ _ _ _ _ { s with heap := h'.push (seqObj "list" acc.toList.toArray 0), toks := tk }
  refine wpAny_bind (wpAny_holding (wpAny_call_entry PyProof.Rows.slot_list_sort ⟨_, hoL, rfl⟩ PyProof.Rows.entry_list_sort
    (list_sort_treeK strKind_oneLt (s := { s with heap := h'.push (seqObj "list" acc.toList.toArray 0), toks := tk }) hoL hS.keysOf (fun v₁ v₂ rest e => keyKind_strs (by rw [← e]; exact hS)) (by rw [hal]; simp; exact h64) fun st' hp hs => ⟨_, rfl, ?_⟩)
    (PyProof.Rows.args_list_sort _)))
  obtain ⟨ys, g1, g2, g3⟩ := sorted_out_str hS hp hs
  obtain ⟨e', he'⟩ := PyProof.Rows.sortedHeap_at (vs := acc.toList) (out := (arrOf st').map (·.2)) hoL
  have hlen : (ys.map V.str).length ≤ sizeLine := by
    rw [List.length_map, g2.length_eq]
    exact Nat.le_trans (Nat.le_of_lt (by simp; exact h64)) (show 64 ≤ sizeLine by decide)
  refine wpAny_pure ⟨_, rfl, .ref h'.objs.size, upd H h'.objs.size (.lst (ys.map V.str)), I1.laid (t' := tk) (fun b u e => ?_) (Nat.le_refl _)
    (show ObjOk X.prog X.w _ _ _ (.lst (ys.map V.str)) from ⟨hlen, ((arrOf st').map (·.2)).toList, e', vals_of_strs g1, by rw [Array.toArray_toList]; exact he'⟩), rfl, q ys _ g2 g3 (I1.hok.fresh (Nat.le_refl _))⟩
  have hb : b < h'.objs.size := Heap.lt_size e
  rw [PyProof.Rows.sortedHeap_old (Nat.ne_of_lt hb) (by rw [size_push']; exact Nat.lt_succ_of_lt hb)]
  exact Heap.get?_push_of_some _ e
end
section
variable {L : Lk} {H : Hp} {m : Mp}
theorem RelDs.ofInts : ∀ {xs : List D} {ns : List Int} {vs : List V}, mapO D.isInt xs = some ns → RelDs L H m xs vs → vs = ns.map V.int
  | [], ns, vs, h, r => by cases h; exact r
  | x :: xs, ns, vs, h, r => by
    obtain ⟨v, w, rfl, r1, r2⟩ := r
    unfold mapO at h
    cases q : x.isInt with
    | none => rw [q] at h; cases h
    | some i =>
      cases q2 : mapO D.isInt xs with
      | none => rw [q, q2] at h; cases h
      | some js =>
        rw [q, q2] at h; cases h
        have e : x = .int i := by
          cases x <;> simp [D.isInt] at q
          rw [q]
        subst e
        rw [show v = _ from r1, RelDs.ofInts q2 r2]; rfl
theorem RelDs.ofStrs : ∀ {xs : List D} {ns : List Str} {vs : List V}, mapO D.isStr xs = some ns → RelDs L H m xs vs → vs = ns.map V.str
  | [], ns, vs, h, r => by cases h; exact r
  | x :: xs, ns, vs, h, r => by
    obtain ⟨v, w, rfl, r1, r2⟩ := r
    unfold mapO at h
    cases q : x.isStr with
    | none => rw [q] at h; cases h
    | some i =>
      cases q2 : mapO D.isStr xs with
      | none => rw [q, q2] at h; cases h
      | some js =>
        rw [q, q2] at h; cases h
        have e : x = .str i := by
          cases x <;> simp [D.isStr] at q
          rw [q]
        subst e
        rw [show v = _ from r1, RelDs.ofStrs q2 r2]; rfl
theorem RelDs.ofBls : ∀ {xs : List D} {ns : List Bool} {vs : List V}, mapO D.isBl xs = some ns → RelDs L H m xs vs → vs = ns.map V.bl
  | [], ns, vs, h, r => by cases h; exact r
  | x :: xs, ns, vs, h, r => by
    obtain ⟨v, w, rfl, r1, r2⟩ := r
    unfold mapO at h
    cases q : x.isBl with
    | none => rw [q] at h; cases h
    | some i =>
      cases q2 : mapO D.isBl xs with
      | none => rw [q, q2] at h; cases h
      | some js =>
        rw [q, q2] at h; cases h
        have e : x = .bl i := by
          cases x <;> simp [D.isBl] at q
          rw [q]
        subst e
        rw [show v = _ from r1, RelDs.ofBls q2 r2]; rfl
theorem RelDs.strs : ∀ (ns : List Str), RelDs L H m (ns.map D.str) (ns.map V.str)
  | [] => rfl
  | n :: r => ⟨_, _, rfl, rfl, RelDs.strs r⟩
theorem keys_int : ∀ {ks : List D} {ns : List Int} {qs : List Key}, mapO D.isInt ks = some ns → mapO fkey ks = some qs → qs = ns.map Sum.inl
  | [], ns, qs, h1, h2 => by cases h1; cases h2; rfl
  | k :: ks, ns, qs, h1, h2 => by
    unfold mapO at h1 h2
    split at h1
    · rename_i a as e1 e2
      cases h1
      split at h2
      · rename_i b bs e3 e4
        cases h2
        cases k <;> simp [D.isInt] at e1
        subst e1
        cases e3
        rw [keys_int e2 e4]; rfl
      · cases h2
    · cases h1
theorem keys_str : ∀ {ks : List D} {ns : List Str} {qs : List Key}, mapO D.isStr ks = some ns → mapO fkey ks = some qs → qs = ns.map Sum.inr
  | [], ns, qs, h1, h2 => by cases h1; cases h2; rfl
  | k :: ks, ns, qs, h1, h2 => by
    unfold mapO at h1 h2
    split at h1
    · rename_i a as e1 e2
      cases h1
      split at h2
      · rename_i b bs e3 e4
        cases h2
        cases k <;> simp [D.isStr] at e1
        subst e1
        cases e3
        rw [keys_str e2 e4]; rfl
      · cases h2
    · cases h1
theorem keys_rel : ∀ {ks : List D} {qs : List Key}, mapO fkey ks = some qs → RelDs L H m ks (qs.map kV)
  | [], qs, h => by cases h; rfl
  | k :: ks, qs, h => by
    unfold mapO at h
    split at h
    · rename_i a as e1 e2
      cases h
      refine ⟨kV a, as.map kV, rfl, ?_, keys_rel e2⟩
      cases k <;> simp [fkey] at e1 <;> subst e1 <;> rfl
    · cases h
theorem leastI_spec : ∀ (xs : List Int) (n : Int), leastI xs n ∈ n :: xs ∧ ∀ y ∈ n :: xs, leastI xs n ≤ y
  | [], n => ⟨by simp [leastI], by simp [leastI]⟩
  | x :: xs, n => by
    obtain ⟨h1, h2⟩ := leastI_spec xs (if x < n then x else n)
    refine ⟨?_, fun y hy => ?_⟩
    · unfold leastI
      rcases List.mem_cons.mp h1 with h | h
      · rw [h]; split <;> simp
      · exact List.mem_cons_of_mem _ (List.mem_cons_of_mem _ h)
    · unfold leastI
      have h0 := h2 _ List.mem_cons_self
      rcases List.mem_cons.mp hy with rfl | hy
      · split at h0 <;> rename_i hc
        · rw [if_pos hc]; omega
        · rw [if_neg hc]; omega
      · rcases List.mem_cons.mp hy with rfl | hy
        · split at h0 <;> rename_i hc
          · rw [if_pos hc]; omega
          · rw [if_neg hc]; omega
        · exact h2 y (List.mem_cons_of_mem _ hy)
theorem mostI_spec : ∀ (xs : List Int) (n : Int), mostI xs n ∈ n :: xs ∧ ∀ y ∈ n :: xs, y ≤ mostI xs n
  | [], n => ⟨by simp [mostI], by simp [mostI]⟩
  | x :: xs, n => by
    obtain ⟨h1, h2⟩ := mostI_spec xs (if n < x then x else n)
    refine ⟨?_, fun y hy => ?_⟩
    · unfold mostI
      rcases List.mem_cons.mp h1 with h | h
      · rw [h]; split <;> simp
      · exact List.mem_cons_of_mem _ (List.mem_cons_of_mem _ h)
    · unfold mostI
      have h0 := h2 _ List.mem_cons_self
      rcases List.mem_cons.mp hy with rfl | hy
      · split at h0 <;> rename_i hc
        · rw [if_pos hc]; omega
        · rw [if_neg hc]; omega
      · rcases List.mem_cons.mp hy with rfl | hy
        · split at h0 <;> rename_i hc
          · rw [if_pos hc]; omega
          · rw [if_neg hc]; omega
        · exact h2 y (List.mem_cons_of_mem _ hy)
theorem one_of {d : D} {vs : List V} (r : RelDs L H m [d] vs) : ∃ v, vs = [v] ∧ RelD L H m d v := by
  obtain ⟨v, w, rfl, h1, h2⟩ := r
  rw [show w = [] from h2]
  exact ⟨v, rfl, h1⟩
theorem two_of {d e : D} {vs : List V} (r : RelDs L H m [d, e] vs) : ∃ v w, vs = [v, w] ∧ RelD L H m d v ∧ RelD L H m e w := by
  obtain ⟨v, w, rfl, h1, h2⟩ := r
  obtain ⟨u, rfl, h3⟩ := one_of h2
  exact ⟨v, u, rfl, h1, h3⟩
end
def rC (L : Lk) (g : Store → List D → Option D) : List V → Hp → VK → Prop := fun xs H Q => ∃ ds z m S, RelS L H m S ∧ RelDs L H m ds xs ∧ g S ds = some z ∧ ∀ H' m' v, Ext H m H' m' → RelS L H' m' S → RelD L H' m' z v → Q v H'
def Bi.py : Bi → Value
  | .len => .builtin "len" | .min => .builtin "min" | .max => .builtin "max" | .int => .type "int" | .list => .type "list" | .tuple => .type "tuple" | .all => .builtin "all" | .any => .builtin "any"
  | .sorted => .builtin "sorted" | .sum => .builtin "sum" | .str => .type "str" | .dict => .type "dict" | .bool => .type "bool" | .lstM => .type "list" | .srtM => .builtin "sorted"
section
variable {X : Cx} {L : Lk}
/-- a new list that changes from then on -/
theorem call_biM (hK : X.K = L.K) (hc : X.calm = true) (b : Bi) (hb : b = .list ∨ b = .sorted) : CallR X b.py (fun vs H Q => ∃ ds z0 m S, RelS L H m S ∧ RelDs L H m ds vs ∧ dbi S b ds = some (.lst z0) ∧ ∀ p ws, H p = none → RelDs L H m z0 ws → Q (.ref p) (upd H p (.lst ws))) := by
  intro pins s σ H xs us Q I rv h
  obtain ⟨ds, z0, m, S, hs, rx, hz, k⟩ := h
  obtain ⟨z, ez⟩ : ∃ z, z = D.lst z0 := ⟨_, rfl⟩
  rw [← ez] at hz
  have newl : ∀ {xs : List D} {vs : List V} {p : Addr}, z = .lst xs → H p = none → RelDs L H m xs vs → Q (.ref p) (upd H p (.lst vs)) := fun e hp r => by
    rw [ez] at e; cases e; exact k _ _ hp r
  clear ez
  rcases hb with rfl | rfl
  · -- list
    replace hz : (match dList S ds with | some xs => some (D.lst xs) | none => none) = some z := hz
    split at hz
    · rename_i xs q0
      have hz : D.lst xs = z := Option.some.inj hz
      unfold dList at q0
      split at q0
      · rename_i d
        obtain ⟨v, rfl, r1⟩ := one_of rx
        split at q0
        · rename_i ys q
          cases q0
          obtain ⟨a, vs, rfl, hr, hq⟩ := items_sq hs r1 q
          exact call_list_of pins s σ H _ us Q I rv ⟨a, vs, rfl, by rw [hK]; exact hq, fun p hp => newl hz.symm hp hr⟩
        · split at q0
          · rename_i ks vs q
            cases q0
            obtain ⟨a, us', rfl, ⟨o, h1, kvs, rfl, h3, rfl⟩, hr⟩ := dic_rd hs r1 q
            refine call_listD hc pins s σ H _ us Q I rv ⟨a, kvs, rfl, h1, fun p hp => newl hz.symm hp ?_⟩
            have := keys_rel (L := L) (H := H) (m := m) h3
            rw [List.map_map] at this
            exact this
          · cases q0
      · cases q0
    · cases hz
  · -- sorted
    replace hz : (match dSort S ds with | some xs => some (D.lst xs) | none => none) = some z := hz
    split at hz
    · rename_i xs q0
      have hz : D.lst xs = z := Option.some.inj hz
      unfold dSort at q0
      split at q0
      · rename_i d
        obtain ⟨v, rfl, r1⟩ := one_of rx
        split at q0
        · rename_i ys q
          obtain ⟨a, vs, rfl, hr, hq⟩ := lst_sq hs r1 q
          unfold sortL at q0
          split at q0
          · rename_i ns q2
            cases q0
            rw [hr.ofInts q2] at hq
            refine cr_sortedI pins s σ H _ us Q I rv ⟨a, ns, rfl, .inl hq, fun ns' p hp1 hp2 hp => newl hz.symm hp ?_⟩
            rw [sortB_eq totI hp1 (pwI hp2)]
            exact RelDs.ints _
          · split at q0
            · rename_i zs q2
              split at q0
              · rename_i h64
                cases q0
                rw [hr.ofStrs q2] at hq
                refine cr_sortedS pins s σ H _ us Q I rv ⟨a, zs, rfl, .inl hq, h64, fun ns' p hp1 hp2 hp => newl hz.symm hp ?_⟩
                rw [sortB_eq totS hp1 (pwS hp2)]
                exact RelDs.strs _
              · cases q0
            · cases q0
        · split at q0
          · rename_i ks vs q
            split at q0
            · rename_i h64
              obtain ⟨a, us', rfl, ⟨o, h1, kvs, rfl, h3, rfl⟩, hr⟩ := dic_rd hs r1 q
              unfold sortL at q0
              split at q0
              · rename_i ns q2
                cases q0
                have e := keys_int q2 h3
                have el : ns.length = ks.length := by
                  have : ∀ {ks : List D} {ns : List Int}, mapO D.isInt ks = some ns → ns.length = ks.length := by
                    intro ks
                    induction ks with
                    | nil => intro ns h; cases h; rfl
                    | cons a r ih =>
                      intro ns h
                      unfold mapO at h
                      split at h
                      · rename_i e1 e2; cases h; simp [ih e2]
                      · cases h
                  exact this q2
                refine call_sortedDI hc pins s σ H _ us Q I rv ⟨a, kvs, ns, rfl, h1, e, by rw [el]; exact h64, fun ns' p hp1 hp2 hp => newl hz.symm hp ?_⟩
                rw [sortB_eq totI hp1 (pwI hp2)]
                exact RelDs.ints _
              · split at q0
                · rename_i zs q2
                  split at q0
                  · rename_i h64'
                    cases q0
                    have e := keys_str q2 h3
                    refine call_sortedD hc pins s σ H _ us Q I rv ⟨a, kvs, zs, rfl, h1, e, h64', fun ns' p hp1 hp2 hp => newl hz.symm hp ?_⟩
                    rw [sortB_eq totS hp1 (pwS hp2)]
                    exact RelDs.strs _
                  · cases q0
                · cases q0
            · cases q0
          · cases q0
          · split at q0
            · split at q0
              · rename_i h64
                cases q0
                have e : v = .str _ := r1
                subst e
                refine call_sortTxt hc pins s σ H _ us Q I rv ⟨_, rfl, h64, fun ns' p hp1 hp2 hp => newl hz.symm hp ?_⟩
                rw [sortB_eq totS hp1 (pwS hp2)]
                exact RelDs.strs _
              · cases q0
            · cases q0
      · cases q0
    · cases hz
theorem call_bi (hK : X.K = L.K) (hc : X.calm = true) (b : Bi) : CallR X b.py (rC L fun S => dbi S b) := by
  intro pins s σ H xs us Q I rv h
  obtain ⟨ds, z, m, S, hs, rx, hz, k⟩ := h
  have fin : ∀ v, RelD L H m z v → Q v H := fun v r => k H m v (Ext.refl H m) hs r
  have newl : ∀ {xs : List D} {vs : List V} {p : Addr}, z = .lst xs → H p = none → RelDs L H m xs vs → Q (.ref p) (upd H p (.lst vs)) := fun e hp r => by
    subst e
    exact k _ m _ (Ext.new hp) (hs.new hp) ⟨_, _, rfl, LstA.new hs hp, r.mono (Mono.new hp)⟩
  replace hz : dbi S b ds = some z := hz
  cases b
  · -- len
    replace hz : dLen S ds = some z := hz
    unfold dLen at hz
    split at hz
    · rename_i d
      obtain ⟨v, rfl, r1⟩ := one_of rx
      split at hz
      · rename_i ys q
        cases hz
        obtain ⟨a, vs, rfl, hr, hq⟩ := items_sq hs r1 q
        exact call_len_seq pins s σ H _ us Q I rv ⟨a, vs, rfl, by rw [hK]; exact hq, fin _ (by rw [hr.length]; rfl)⟩
      · split at hz
        · rename_i ks vs q
          cases hz
          obtain ⟨a, us', rfl, ⟨o, h1, kvs, rfl, h3, rfl⟩, hr⟩ := dic_rd hs r1 q
          obtain ⟨u, rfl, ru⟩ := vals1 rv
          cases ru
          refine d_len I h1 fun t s' I' => ⟨.int kvs.length, H, I', ⟨t, rfl⟩, fin _ ?_⟩
          show V.int _ = V.int _
          have := congrArg (Option.map List.length) h3
          have ml : ∀ {ks : List D} {kvs : List (Key × V)}, mapO fkey ks = some (kvs.map (·.1)) → ks.length = kvs.length := by
            intro ks
            induction ks with
            | nil => intro kvs hm; cases kvs with | nil => rfl | cons _ _ => simp [mapO] at hm
            | cons q ks ihk =>
              intro kvs hm
              unfold mapO at hm
              split at hm
              · rename_i e1 e2
                cases kvs with
                | nil => simp at hm
                | cons p kvs =>
                  rw [List.map_cons] at hm
                  injection hm with hm
                  injection hm with m2 m3
                  rw [List.length_cons, List.length_cons, ihk (by rw [e2, m3])]
              · cases hm
          rw [ml h3]
        · cases hz
        · split at hz
          · split at hz
            · rename_i hl
              cases hz
              have e : v = .str _ := r1
              subst e
              exact call_len pins s σ H _ us Q I rv ⟨_, _, rfl, ⟨hl, rfl⟩, fin _ rfl⟩
            · cases hz
          · cases hz
    · cases hz
  · -- min
    replace hz : dMin S ds = some z := hz
    unfold dMin at hz
    split at hz
    · rename_i d
      obtain ⟨v, rfl, r1⟩ := one_of rx
      split at hz
      · rename_i ys q
        split at hz
        · rename_i n ns q2
          cases hz
          obtain ⟨a, vs, rfl, hr, hq⟩ := lst_sq hs r1 q
          rw [hr.ofInts q2] at hq
          refine cr_min hc pins s σ H _ us Q I rv ⟨a, n :: ns, rfl, .inl hq, by simp, fun y h1 h2 => ?_⟩
          obtain ⟨s1, s2⟩ := leastI_spec ns n
          have e : y = leastI ns n := Int.le_antisymm (h2 _ s1) (s2 _ h1)
          rw [e]; exact fin _ rfl
        · cases hz
      · cases hz
    · obtain ⟨v, w, rfl, r1, r2⟩ := two_of rx
      cases hz
      exact call_min2 hc pins s σ H _ us Q I rv ⟨_, _, by rw [show v = _ from r1, show w = _ from r2], fin _ rfl⟩
    · cases hz
  · -- max
    replace hz : dMax S ds = some z := hz
    unfold dMax at hz
    split at hz
    · rename_i d
      obtain ⟨v, rfl, r1⟩ := one_of rx
      split at hz
      · rename_i ys q
        split at hz
        · rename_i n ns q2
          cases hz
          obtain ⟨a, vs, rfl, hr, hq⟩ := lst_sq hs r1 q
          rw [hr.ofInts q2] at hq
          refine cr_max hc pins s σ H _ us Q I rv ⟨a, n :: ns, rfl, .inl hq, by simp, fun y h1 h2 => ?_⟩
          obtain ⟨s1, s2⟩ := mostI_spec ns n
          have e : y = mostI ns n := Int.le_antisymm (s2 _ h1) (h2 _ s1)
          rw [e]; exact fin _ rfl
        · cases hz
      · cases hz
    · obtain ⟨v, w, rfl, r1, r2⟩ := two_of rx
      cases hz
      exact call_max2 hc pins s σ H _ us Q I rv ⟨_, _, by rw [show v = _ from r1, show w = _ from r2], fin _ rfl⟩
    · cases hz
  · -- int
    replace hz : dInt ds = some z := hz
    unfold dInt at hz
    split at hz
    · obtain ⟨v, rfl, r1⟩ := one_of rx
      cases hz
      exact call_int1 pins s σ H _ us Q I rv (.inl ⟨_, by rw [show v = _ from r1], fin _ rfl⟩)
    · obtain ⟨v, rfl, r1⟩ := one_of rx
      cases hz
      exact call_int1 pins s σ H _ us Q I rv (.inr ⟨_, by rw [show v = _ from r1], fin _ rfl⟩)
    · cases hz
  · -- list
    replace hz : (match dList S ds with | some xs => some (D.lst xs) | none => none) = some z := hz
    split at hz
    · rename_i xs q0
      have hz : D.lst xs = z := Option.some.inj hz
      unfold dList at q0
      split at q0
      · rename_i d
        obtain ⟨v, rfl, r1⟩ := one_of rx
        split at q0
        · rename_i ys q
          cases q0
          obtain ⟨a, vs, rfl, hr, hq⟩ := items_sq hs r1 q
          exact call_list_of pins s σ H _ us Q I rv ⟨a, vs, rfl, by rw [hK]; exact hq, fun p hp => newl hz.symm hp hr⟩
        · split at q0
          · rename_i ks vs q
            cases q0
            obtain ⟨a, us', rfl, ⟨o, h1, kvs, rfl, h3, rfl⟩, hr⟩ := dic_rd hs r1 q
            refine call_listD hc pins s σ H _ us Q I rv ⟨a, kvs, rfl, h1, fun p hp => newl hz.symm hp ?_⟩
            have := keys_rel (L := L) (H := H) (m := m) h3
            rw [List.map_map] at this
            exact this
          · cases q0
      · cases q0
    · cases hz
  · -- tuple
    replace hz : dTuple S ds = some z := hz
    unfold dTuple at hz
    split at hz
    · obtain ⟨v, rfl, r1⟩ := one_of rx
      split at hz
      · cases hz
        obtain ⟨a, vs, rfl, ha, hr⟩ := id r1
        exact call_tuple_of pins s σ H _ us Q I rv ⟨a, vs, rfl, .inr ⟨by rw [hK]; exact ha.sq, fin _ r1⟩⟩
      · split at hz
        · rename_i xs q
          cases hz
          obtain ⟨a, vs, rfl, hr, hq⟩ := lst_sq hs r1 q
          refine call_tuple_of pins s σ H _ us Q I rv ⟨a, vs, rfl, .inl ⟨.inl hq, fun p hp => ?_⟩⟩
          exact k _ m _ (Ext.new hp) (hs.new hp) ⟨p, _, rfl, TupA.new hs hp, hr.mono (Mono.new hp)⟩
        · cases hz
    · cases hz
  · -- all
    replace hz : dAll S (fun bs => bs.all id) ds = some z := hz
    unfold dAll at hz
    split at hz
    · obtain ⟨v, rfl, r1⟩ := one_of rx
      split at hz
      · rename_i xs q0
        split at hz
        · rename_i bs q
          cases hz
          obtain ⟨a, vs, rfl, hr, ha⟩ := lst_sq hs r1 q0
          rw [hr.ofBls q] at ha
          exact cr_all hc pins s σ H _ us Q I rv ⟨a, bs, rfl, .inl ha, fin _ rfl⟩
        · cases hz
      · cases hz
    · cases hz
  · -- any
    replace hz : dAll S (fun bs => bs.any id) ds = some z := hz
    unfold dAll at hz
    split at hz
    · obtain ⟨v, rfl, r1⟩ := one_of rx
      split at hz
      · rename_i xs q0
        split at hz
        · rename_i bs q
          cases hz
          obtain ⟨a, vs, rfl, hr, ha⟩ := lst_sq hs r1 q0
          rw [hr.ofBls q] at ha
          exact cr_any hc pins s σ H _ us Q I rv ⟨a, bs, rfl, .inl ha, fin _ rfl⟩
        · cases hz
      · cases hz
    · cases hz
  · -- sorted
    replace hz : (match dSort S ds with | some xs => some (D.lst xs) | none => none) = some z := hz
    split at hz
    · rename_i xs q0
      have hz : D.lst xs = z := Option.some.inj hz
      unfold dSort at q0
      split at q0
      · rename_i d
        obtain ⟨v, rfl, r1⟩ := one_of rx
        split at q0
        · rename_i ys q
          obtain ⟨a, vs, rfl, hr, hq⟩ := lst_sq hs r1 q
          unfold sortL at q0
          split at q0
          · rename_i ns q2
            cases q0
            rw [hr.ofInts q2] at hq
            refine cr_sortedI pins s σ H _ us Q I rv ⟨a, ns, rfl, .inl hq, fun ns' p hp1 hp2 hp => newl hz.symm hp ?_⟩
            rw [sortB_eq totI hp1 (pwI hp2)]
            exact RelDs.ints _
          · split at q0
            · rename_i zs q2
              split at q0
              · rename_i h64
                cases q0
                rw [hr.ofStrs q2] at hq
                refine cr_sortedS pins s σ H _ us Q I rv ⟨a, zs, rfl, .inl hq, h64, fun ns' p hp1 hp2 hp => newl hz.symm hp ?_⟩
                rw [sortB_eq totS hp1 (pwS hp2)]
                exact RelDs.strs _
              · cases q0
            · cases q0
        · split at q0
          · rename_i ks vs q
            split at q0
            · rename_i h64
              obtain ⟨a, us', rfl, ⟨o, h1, kvs, rfl, h3, rfl⟩, hr⟩ := dic_rd hs r1 q
              unfold sortL at q0
              split at q0
              · rename_i ns q2
                cases q0
                have e := keys_int q2 h3
                have el : ns.length = ks.length := by
                  have : ∀ {ks : List D} {ns : List Int}, mapO D.isInt ks = some ns → ns.length = ks.length := by
                    intro ks
                    induction ks with
                    | nil => intro ns h; cases h; rfl
                    | cons a r ih =>
                      intro ns h
                      unfold mapO at h
                      split at h
                      · rename_i e1 e2; cases h; simp [ih e2]
                      · cases h
                  exact this q2
                refine call_sortedDI hc pins s σ H _ us Q I rv ⟨a, kvs, ns, rfl, h1, e, by rw [el]; exact h64, fun ns' p hp1 hp2 hp => newl hz.symm hp ?_⟩
                rw [sortB_eq totI hp1 (pwI hp2)]
                exact RelDs.ints _
              · split at q0
                · rename_i zs q2
                  split at q0
                  · rename_i h64'
                    cases q0
                    have e := keys_str q2 h3
                    refine call_sortedD hc pins s σ H _ us Q I rv ⟨a, kvs, zs, rfl, h1, e, h64', fun ns' p hp1 hp2 hp => newl hz.symm hp ?_⟩
                    rw [sortB_eq totS hp1 (pwS hp2)]
                    exact RelDs.strs _
                  · cases q0
                · cases q0
            · cases q0
          · cases q0
          · split at q0
            · split at q0
              · rename_i h64
                cases q0
                have e : v = .str _ := r1
                subst e
                refine call_sortTxt hc pins s σ H _ us Q I rv ⟨_, rfl, h64, fun ns' p hp1 hp2 hp => newl hz.symm hp ?_⟩
                rw [sortB_eq totS hp1 (pwS hp2)]
                exact RelDs.strs _
              · cases q0
            · cases q0
      · cases q0
    · cases hz
  · -- sum
    replace hz : dSum S ds = some z := hz
    unfold dSum at hz
    split at hz
    · obtain ⟨v, rfl, r1⟩ := one_of rx
      split at hz
      · rename_i ys q
        split at hz
        · rename_i ns q2
          cases hz
          obtain ⟨a, vs, rfl, hr, hq⟩ := lst_sq hs r1 q
          rw [hr.ofInts q2] at hq
          exact cr_sum hc pins s σ H _ us Q I rv ⟨a, ns, rfl, .inl hq, fin _ rfl⟩
        · cases hz
      · cases hz
    · cases hz
  · -- str
    replace hz : dStr ds = some z := hz
    unfold dStr at hz
    split at hz
    · obtain ⟨v, rfl, r1⟩ := one_of rx
      split at hz
      · rename_i hl
        cases hz
        exact call_str_int pins s σ H _ us Q I rv ⟨_, by rw [show v = _ from r1], hl, fin _ rfl⟩
      · cases hz
    · obtain ⟨v, rfl, r1⟩ := one_of rx
      cases hz
      exact SkE.call_str_str pins s σ H _ us Q I rv ⟨_, by rw [show v = _ from r1], fin _ rfl⟩
    · cases hz
  · cases hz
  · cases hz
  · cases hz
  · cases hz
end
end KF

set_option Elab.async false
set_option linter.all false
set_option maxRecDepth 100000
set_option maxHeartbeats 4000000
/-! V5: does the resolved syntax say the row's text; expressions -/
namespace KF
open PySem PySem.Spec PyProof.Rows L2
structure Tb where
  fnN : List (Str × Nat)
  exN : List Str
  glN : List Str
  blt : List Str
  clN : List Str
structure Cc where
  N : List Str
  sc : Scope
  own : Option Scope
  suite : Option Nat
def visB (sc : Scope) (x : Str) : Bool := match sc.names.lookup x with
  | some .local => true
  | some .cell => true
  | some .free => true
  | _ => false
def glB (sc : Scope) (x : Str) : Bool := decide (sc.names.lookup x = some .globalImplicit)
def dunB (x : Str) : Bool := !(x == ("__debug__" : Str)) && !(x == ("__classdict__" : Str))
def bltB (t : Tb) (c : Cc) (x y : Str) : Bool := decide (x = y) && (glB c.sc x && t.blt.contains x)
def calmB (c : Cc) : Bool := c.suite.isNone
def locB (c : Cc) (x : Str) : Bool := match c.sc.names.lookup x with
  | some .local => true
  | some .cell => (match c.own with
    | none => true
    | some s => decide (s.names.lookup x = some .cell))
  | _ => false
def notStar : Expr → Bool
  | .Starred _ _ => false
  | _ => true
def O2.is (o : O2) (p : Operator) : Bool := match o, p with
  | .add, .Add => true | .sub, .Sub => true | .mul, .Mult => true | .fdiv, .FloorDiv => true | .mod, .Mod => true | .pow, .Pow => true
  | _, _ => false
theorem O2.is_eq {o : O2} {p : Operator} (h : o.is p = true) : p = o.py := by cases o <;> cases p <;> first | rfl | cases h
def C2.is (o : C2) (p : CmpOp) : Bool := match o, p with
  | .eq, .Eq => true | .ne, .NotEq => true | .lt, .Lt => true | .le, .LtE => true | .gt, .Gt => true | .ge, .GtE => true | .inn, .In => true | .nin, .NotIn => true
  | _, _ => false
theorem C2.is_eq {o : C2} {p : CmpOp} (h : o.is p = true) : p = o.py := by cases o <;> cases p <;> first | rfl | cases h
def notSet : Expr → Bool
  | .Set _ _ _ => false
  | _ => true
theorem notSet_behind {op : CmpOp} {b : Expr} (h : notSet b = true) : behindInMarks op b = false := by cases b <;> first | rfl | cases h
theorem notSet_fold {b : Expr} (h : notSet b = true) (env : PySem.Env) (x : Value) : foldedSetIterable b env x = pure x := by cases b <;> first | rfl | cases h
def notSlice : Expr → Bool
  | .Slice _ _ _ _ => false
  | _ => true
theorem notSlice_ix {b : Expr} (h : notSlice b = true) : PlainIx b := by cases b <;> first | (intro _ _; rfl) | cases h
theorem star_cons {e : Expr} {es : List Expr} {env : PySem.Env} (h : notStar e = true) : starEach (e :: es) env = (false, eval e env) :: starEach es env := by cases e <;> first | rfl | cases h
theorem star_any {env : PySem.Env} {pos : Pos} : ∀ {es : List Expr}, es.all notStar = true → (backTo pos (starEach es env)).any (·.1) = false
  | [], _ => rfl
  | e :: es, h => by
    rw [List.all_cons, Bool.and_eq_true] at h
    rw [star_cons h.1]
    exact star_any (es := es) h.2
theorem asgE_cons {e : Expr} {es : List Expr} {env : PySem.Env} (h : notStar e = true) : assignEach (e :: es) env = (false, assign e env) :: assignEach es env := by cases e <;> first | rfl | cases h
theorem asgE_len {env : PySem.Env} : ∀ {es : List Expr}, es.all notStar = true → (assignEach es env).length = es.length
  | [], _ => rfl
  | e :: es, h => by
    rw [List.all_cons, Bool.and_eq_true] at h
    rw [asgE_cons h.1, List.length_cons, List.length_cons, asgE_len h.2]
theorem asgE_star {env : PySem.Env} : ∀ {es : List Expr}, es.all notStar = true → (assignEach es env).findIdx? (·.1) = none
  | [], _ => rfl
  | e :: es, h => by
    rw [List.all_cons, Bool.and_eq_true] at h
    rw [asgE_cons h.1, List.findIdx?_cons, asgE_star h.2]
    rfl
/-- a test that isn't taken apart -/
def plainT : Expr → Bool
  | .UnaryOp .Not _ _ => false
  | .BoolOp _ _ _ => false
  | .IfExp _ _ _ _ => false
  | .Compare _ _ _ _ => false
  | _ => true
theorem plainT_ok {e : Expr} {env : PySem.Env} (h : plainT e = true) (whole : Sem Value) : isTrue e env whole = (do let v ← whole; standAt e.pos; holding [v] (truthy v)) := by
  cases e <;> first | rfl | (cases h; done) | skip
  rename_i op a p
  cases op <;> first | rfl | cases h
def plainBase : Expr → Bool
  | .Call _ [] [] _ => false
  | _ => true
theorem plainBase_ok {o : Expr} (h : plainBase o = true) (m : Str) (env : PySem.Env) (whole : Sem Value) : attributeBase o m env whole = whole := by
  cases o <;> first | rfl | skip
  rename_i f as ks p
  cases as with
  | cons _ _ => cases f <;> rfl
  | nil =>
    cases ks with
    | nil => cases h
    | cons _ _ => cases f <;> rfl
def Ty.py : Ty → Str
  | .list => "list" | .tuple => "tuple" | .int => "int" | .bool => "bool" | .str => "str" | .dict => "dict" | .cls _ => ""
def Bi.nm : Bi → Str
  | .len => "len" | .min => "min" | .max => "max" | .int => "int" | .list => "list" | .tuple => "tuple" | .all => "all" | .any => "any" | .sorted => "sorted" | .sum => "sum" | .str => "str" | .dict => "dict" | .bool => "bool" | .lstM => "list" | .srtM => "sorted"
def Bm.nm : Bm → Str
  | .index => "index" | .count => "count" | .get => "get" | .join => "join" | .app => "append" | .pop => "pop" | .setd => "setdefault"
def bmOk : Bm → Bool
  | .app | .pop | .get | .join => true
  | _ => false
def tyB (t : Tb) (c : Cc) (y : Ty) (x : Str) : Bool := match y with
  | .cls k => decide (t.clN[k]? = some x) && (glB c.sc x && dunB x)
  | y => bltB t c x y.py
def tysB (t : Tb) (c : Cc) : List Ty → List Expr → Bool
  | [], [] => true
  | y :: ys, .Name x _ :: es => tyB t c y x && tysB t c ys es
  | _, _ => false
def isiB (t : Tb) (c : Cc) (ts : List Ty) : Expr → Bool
  | .Name x _ => (match ts with
    | [y] => tyB t c y x
    | _ => false)
  | .Tuple es _ _ => decide (ts.length ≤ 100) && tysB t c ts es
  | _ => false
mutual
def chkT (c : Cc) : Tg → Expr → Bool
  | .n i, a => (match a with
    | .Name x _ => decide (c.N[i]? = some x) && locB c x
    | _ => false)
  | .t ts, a => (match a with
    | .Tuple es _ _ => es.all notStar && chkTs c ts es
    | _ => false)
def chkTs (c : Cc) : Tgs → List Expr → Bool
  | .nil, es => es.isEmpty
  | .cons t r, es => (match es with
    | e :: es' => chkT c t e && chkTs c r es'
    | [] => false)
end
def ownOf (c : Cc) (tg : Tg) : List (Str × Nat) := tg.sl.map fun i => (c.N.getD i "", i)
def blkCc (c : Cc) (s : Scope) : Cc := ⟨c.N, relS s c.sc, some s, none⟩
mutual
def chk (t : Tb) : E → Cc → Expr → Bool
  | .v i, c, a => (match a with
    | .Name x _ => decide (c.N[i]? = some x) && (visB c.sc x && dunB x)
    | _ => false)
  | .kn, _, a => (match a with
    | .Constant .none _ _ => true
    | _ => false)
  | .kb b, _, a => (match a with
    | .Constant (.bool b') _ _ => b == b'
    | _ => false)
  | .ki i, _, a => (match a with
    | .Constant (.int j) _ _ => decide (i = j)
    | _ => false)
  | .ks x, _, a => (match a with
    | .Constant (.str y) _ _ => decide (x = y)
    | _ => false)
  | .g k, c, a => (match a with
    | .Name x _ => decide (t.glN[k]? = some x) && (glB c.sc x && dunB x)
    | _ => false)
  | .op o x y, c, a => (match a with
    | .BinOp l p r _ => o.is p && (chk t x c l && chk t y c r)
    | _ => false)
  | .neg x, c, a => (match a with
    | .UnaryOp .USub l _ => chk t x c l
    | _ => false)
  | .cmp o x y, c, a => (match a with
    | .Compare l [p] [r] _ => o.is p && (notSet r && (chk t x c l && chk t y c r))
    | _ => false)
  | .isn ng x, c, a => (match a with
    | .Compare l [p] [.Constant .none _ _] _ => decide (p = if ng = true then .IsNot else .Is) && chk t x c l
    | _ => false)
  | .and x y, c, a => (match a with
    | .BoolOp .And [l, r] _ => chk t x c l && chk t y c r
    | .BoolOp .And (l :: r :: r2 :: rs) pos => chk t x c l && chk t y c (.BoolOp .And (r :: r2 :: rs) pos)
    | _ => false)
  | .or x y, c, a => (match a with
    | .BoolOp .Or [l, r] _ => chk t x c l && chk t y c r
    | .BoolOp .Or (l :: r :: r2 :: rs) pos => chk t x c l && chk t y c (.BoolOp .Or (r :: r2 :: rs) pos)
    | _ => false)
  | .not x, c, a => (match a with
    | .UnaryOp .Not l _ => chk t x c l
    | _ => false)
  | .ite x y z, c, a => (match a with
    | .IfExp l m r _ => chk t x c l && (chk t y c m && chk t z c r)
    | _ => false)
  | .call f as, c, a => (match a with
    | .Call (.Name x _) es [] _ => calmB c && (decide (t.fnN[f]? = some (x, es.length)) && (glB c.sc x && (dunB x && (es.all notStar && chks t as c es))))
    | _ => false)
  | .bi b as, c, a => (match a with
    | .Call (.Name x _) (e :: es) [] _ => calmB c && (bltB t c x b.nm && ((e :: es).all notStar && chks t as c (e :: es)))
    | _ => false)
  | .isi x ts, c, a => (match a with
    | .Call (.Name f _) [e, y] [] _ => bltB t c f "isinstance" && (notStar e && (chk t x c e && isiB t c ts y))
    | _ => false)
  | .tup as, c, a => (match a with
    | .Tuple es _ _ => chks t as c es
    | _ => false)
  | .lst _ as, c, a => (match a with
    | .List es _ => chks t as c es
    | _ => false)
  | .ix x y, c, a => (match a with
    | .Subscript l r _ => notSlice r && (chk t x c l && chk t y c r)
    | _ => false)
  | .fx i f, c, a => (match a with
    | .Attribute (.Name x _) g _ => decide (f = g) && (decide (c.suite = some i) && (decide (c.N[i]? = some x) && (visB c.sc x && dunB x)))
    | _ => false)
  | .lc _ e tg it cs, c, a => (match a with
    | .ListComp elt [⟨tgt, iter, ifs, k⟩] s _ => calmB c && (decide (k = 0) && (notSet iter && (blkC c.N c.sc s (ownOf c tg) && (chkI t it c iter && (chkT (blkCc c s) tg tgt && (chkC t cs (blkCc c s) ifs && chk t e (blkCc c s) elt))))))
    | _ => false)
  | .lrng x, c, a => (match a with
    | .Call (.Name l _) [.Call (.Name r _) [e] [] _] [] _ => calmB c && (bltB t c l "list" && (bltB t c r "range" && (notStar e && chk t x c e)))
    | _ => false)
  | .chn o p x y z, c, a => (match a with
    | .Compare l [p1, p2] [m, r] _ => calmB c && (o.is p1 && (p.is p2 && (!(lastMarks [p1, p2] [m, r]) && (chk t x c l && (chk t y c m && chk t z c r)))))
    | _ => false)
  | .slc x l h, c, a => (match a with
    | .Subscript e (.Slice lo hi none _) _ => chk t x c e && ((match lo with
      | none => l.isKn
      | some lo => !l.isKn && chk t l c lo) && (match hi with
      | none => h.isKn
      | some hi => !h.isKn && chk t h c hi))
    | _ => false)
  | .rev x, c, a => (match a with
    | .Subscript e (.Slice none none (some (.UnaryOp .USub (.Constant (.int 1) _ _) _)) _) _ => chk t x c e
    | _ => false)
  | .dd fz kvs, c, a => (match a with
    | .Dict keys values _ => decide (keys.length ≤ 15) && chkD t kvs c keys values
    | _ => false)
  | .dc fz k e tg it cs, c, a => (match a with
    | .DictComp kx vx [⟨tgt, iter, ifs, j⟩] s _ => calmB c && (decide (j = 0) && (notSet iter && (blkC c.N c.sc s (ownOf c tg) && (chkI t it c iter && (chkT (blkCc c s) tg tgt && (chkC t cs (blkCc c s) ifs && (chk t k (blkCc c s) kx && chk t e (blkCc c s) vx)))))))
    | _ => false)
  | .at_ x f, c, a => (match a with
    | .Attribute o g _ => decide (f = g) && (plainBase o && chk t x c o)
    | _ => false)
  | .mk k as, c, a => (match a with
    | .Call (.Name x _) (e :: es) [] _ => calmB c && (decide (t.clN[k]? = some x) && (glB c.sc x && (dunB x && ((e :: es).all notStar && chks t as c (e :: es)))))
    | _ => false)
  | .mt x m as, c, a => (match a with
    | .Call (.Attribute o g ap) es [] p => calmB c && (decide (m = g) && (plainBase o && ((ap.endLine == p.line) && (decide (es.length < 20) && (es.all notStar && (chk t x c o && chks t as c es))))))
    | _ => false)
  | .bm m x as, c, a => (match a with
    | .Call (.Attribute o g ap) es [] p => bmOk m && (calmB c && (decide (g = m.nm) && (plainBase o && ((ap.endLine == p.line) && (decide (es.length < 20) && (es.all notStar && (chk t x c o && chks t as c es)))))))
    | _ => false)
  | .srk _ _, _, _ => false
def chks (t : Tb) : Es → Cc → List Expr → Bool
  | .nil, _, es => es.isEmpty
  | .cons e r, c, es => (match es with
    | a :: as => notStar a && (chk t e c a && chks t r c as)
    | [] => false)
  | .star e r, c, es => (match es with
    | .Starred a _ :: as => chk t e c a && chks t r c as
    | _ => false)
def chkD (t : Tb) : Es → Cc → List (Option Expr) → List Expr → Bool
  | .nil, _, ks, vs => ks.isEmpty && vs.isEmpty
  | .cons k (.cons v r), c, ks, vs => (match ks, vs with
    | some a :: ks, b :: vs => chk t k c a && (chk t v c b && chkD t r c ks vs)
    | _, _ => false)
  | _, _, _, _ => false
def chkI (t : Tb) : It → Cc → Expr → Bool
  | .val e, c, a => chk t e c a
  | .rng e, c, a => (match a with
    | .Call (.Name r _) [x] [] _ => bltB t c r "range" && (notStar x && chk t e c x)
    | _ => false)
  | .vals e, c, a => (match a with
    | .Call (.Attribute o g ap) [] [] p => decide (g = "values") && (plainBase o && ((ap.endLine == p.line) && chk t e c o))
    | _ => false)
  | _, _, _ => false
def chkC (t : Tb) : Cs → Cc → List Expr → Bool
  | .no, _, es => es.isEmpty
  | .one e, c, es => (match es with
    | [a] => chk t e c a
    | _ => false)
end
end KF

set_option Elab.async false
set_option linter.all false
set_option maxRecDepth 100000
set_option maxHeartbeats 4000000
/-! V5b: != by an own ==; truth by an own __bool__ -/
namespace KF
open PySem PySem.Spec PyProof.Rows L2
section
variable {prog : Program} {w : World} {A : Around} {E : Value → Shared → Prop} {s : Shared} {K : PySem.W.Frag} {x C f : Addr}{ox : Obj} {od : Option Obj} {b tb : Value}
theorem ifBound_objNe {M : Model} {args : List Value} {Q : Option Value → Shared → Prop} (X : K.In s.heap) (I : PySem.W.InstAt s.heap x ox C od) (hs : PySem.W.findIn K (.ref C) "__ne__" = some (some (.builtin "object.__ne__")))
    (h : wpAny M A (call (.builtin "object.__ne__") (.ref x :: args)) (fun v => Q (some v)) E s) : wpAny M A (callSpecialIfBound? (.ref x) "__ne__" args) Q E s := by
  simp only [callSpecialIfBound?, bindSpecialIfBound?]
  refine wpAny_holding (wpAny_bind (wpAny_bind (wpAny_bind (I.type.here ((PySem.W.looks_findIn X hs).here ?_)))))
  refine wpAny_bind (wpAny_askSetting (wpAny_ite ?_))
  have fin : wpAny M A (call (.builtin "object.__ne__") ([.ref x] ++ args) >>= fun v => pure (some v)) Q E s := wpAny_bind (wpAny_mono h (fun v s' h' => wpAny_pure h') fun _ _ h' => h')
  split
  · exact wpAny_bind (wpAny_of_eq (F.cmp_object.ne.bind _) (wpAny_pure (by exact fin)))
  · exact wpAny_tryCatch (wpAny_bind (wpAny_of_eq (F.cmp_object.ne.bind _) (wpAny_pure (by exact fin))))
theorem entry_ne {Q : Fin → Shared → Prop} (hu : A.units < cLine) (X : K.In s.heap) (I : PySem.W.InstAt s.heap x ox C od) (hs : PySem.W.findIn K (.ref C) "__eq__" = some (some (.ref f))) (hf : PySem.W.isFn K (.ref f) = true)
    (hcall : wpAny (model prog w) A (call (.ref f) [.ref x, b]) (fun v s' => ∃ k, v = .bool k ∧ Q (.done (.ret (.bool (!k)))) s') E s) :
    wpAny (model prog w) A (Builtin.«object.__ne__» ⟨[.ref x, b], []⟩) Q E s := by
  obtain ⟨h, g, d, t, os⟩ := s
  unfold Builtin.«object.__ne__»
  repeat (first
    | with_reducible refine wpAny_cRoomFor hu ?_
    | (refine wpAny_bind (m := callSpecialIfBound? (.ref x) (Str.ofString "__eq__") [b])
        (PySem.W.ifBound_K (args := [b]) X I hs hf (wpAny_mono hcall (fun r s' hr => by
          obtain ⟨k, rfl, hq⟩ := hr
          repeat (first | exact hq | exact wpAny_pure hq | exact wpAny_truthy_bool hq | (refine wpAny_bind (m := truthy (.bool _)) (wpAny_truthy_bool ?_)) | wp_step)) fun _ _ e => e)))
    | wp_step)
theorem call_ne {Q : Value → Shared → Prop} (hu : A.in1.units < cLine) (X : K.In s.heap) (I : PySem.W.InstAt s.heap x ox C od) (hm : PySem.W.mroIn K C (.type "object") = some true) (hs : PySem.W.findIn K (.ref C) "__eq__" = some (some (.ref f))) (hf : PySem.W.isFn K (.ref f) = true)
    (hcall : wpAny (model prog w) A.in1 (call (.ref f) [.ref x, b]) (fun v s' => ∃ k, v = .bool k ∧ Q (.bool (!k)) s') E s) :
    wpAny (model prog w) A (call (.builtin "object.__ne__") [.ref x, b]) Q E s :=
  wpAny_call (codeAny_call_builtin F.cmp_object.ne.plain F.cmpEntry_ne (PySem.W.check_slot F.cmpKind_ne F.cmpSplit_ne (I.type.andThen (PySem.W.looks_mroIn X hm)) (F.cmpArgs_ne _ _) (entry_ne hu X I hs hf hcall)))
/-- x != b, x an instance whose class has an == of its own and no != -/
theorem ne_K {Q : Value → Shared → Prop} (hu : A.in1.units < cLine) (X : K.In s.heap) (I : PySem.W.InstAt s.heap x ox C od) (hb : PySem.W.Looks (model prog w) s.heap (typeOf b) tb) (hn : PySem.W.notFirst K C tb = true)
    (hm : PySem.W.mroIn K C (.type "object") = some true) (hne : PySem.W.findIn K (.ref C) "__ne__" = some (some (.builtin "object.__ne__"))) (hs : PySem.W.findIn K (.ref C) "__eq__" = some (some (.ref f))) (hf : PySem.W.isFn K (.ref f) = true)
    (h : wpAny (model prog w) A.in1 (call (.ref f) [.ref x, b]) (fun v s' => ∃ k, v = .bool k ∧ Q (.bool (!k)) s') E s) : wpAny (model prog w) A (richCompare .NotEq (.ref x) b) Q E s := by
  have one : wpAny (model prog w) A (tryCompare (.ref x) "__ne__" b) (fun r s' => ∃ v, r = some v ∧ Q v s') E s := by
    unfold tryCompare
    refine wpAny_bind (ifBound_objNe X I hne (call_ne hu X I hm hs hf (wpAny_mono h (fun v s' hv => ?_) fun _ _ e => e)))
    obtain ⟨k, e, q⟩ := hv
    exact ⟨k, e, wpAny_pure ⟨_, rfl, q⟩⟩
  have hu0 : A.units < cLine := Nat.lt_of_succ_lt (show A.units + 1 < cLine from hu)
  unfold richCompare
  simp only [oneThing_ref]
  refine wpAny_holding (wpAny_bind (wpAny_cRoomFor hu0 ?_))
  rw [cmpInfo_NotEq]
  dsimp only
  refine wpAny_bind (I.type.here (wpAny_bind (hb.here ?_)))
  split
  · rename_i q
    have e : PySem.W.subIn K tb (.ref C) = some false := by
      rcases Bool.or_eq_true_iff.mp hn with e | e
      · rw [beq_iff_eq.mp e] at q; simp at q
      · exact beq_iff_eq.mp e
    refine wpAny_bind ((PySem.W.looks_subIn X e).here ?_)
    simp only [Bool.false_eq_true, if_false]
    refine wpAny_bind (wpAny_mono one (fun r s' z => ?_) fun _ _ e => e)
    obtain ⟨v, rfl, hq⟩ := z
    exact wpAny_pure hq
  · refine wpAny_bind (wpAny_pure ?_)
    simp only [Bool.false_eq_true, if_false]
    refine wpAny_bind (wpAny_mono one (fun r s' z => ?_) fun _ _ e => e)
    obtain ⟨v, rfl, hq⟩ := z
    exact wpAny_pure hq
end
section
variable {prog : Program} {w : World} {A : Around} {E : Value → Shared → Prop} {s : Shared}
theorem bool_new_entry {x : Value} {Q : Fin → Shared → Prop} (h : wpAny (model prog w) A (truthy x) (fun b s1 => Q (.done (.ret (.bool b))) s1) E s) :
    wpAny (model prog w) A (Builtin.«bool.__new__» ⟨[.type "bool", x], []⟩) Q E s := by
  obtain ⟨hp, g, d, tk, os⟩ := s
  have f1 := F.conv_sub_bool
  unfold Builtin.«bool.__new__»
  repeat (any_goals (first | assumption | (with_reducible refine wpAny_bind (m := truthy x) (wpAny_mono h (fun r s' hr => ?_) fun _ _ e => e)) | wp_step))
theorem call_boolAny {x : Value} {Q : Value → Shared → Prop} (h : wpAny (model prog w) A.in1.in1 (truthy x) (fun b s1 => Q (.bool b) s1) E s) : wpAny (model prog w) A (call (.type "bool") [x]) Q E s := by
  refine callType_codes (T := "bool") (Bi := Builtin.«object.__init__») (Q₁ := fun r s₁ => ∃ b, r = Value.bool b ∧ Q r s₁) PySem.F.called_bool (PySem.F.typeCall_bool_1 _) PySem.F.entry_object_init ?_ ?_
  · refine codeAny_of_tree ?_
    show wpAny _ A.in1.in1 (do checkBuiltinCall "bool.__new__" ⟨[.type "bool", x], []⟩; again (.builtin "bool.__new__" ⟨[.type "bool", x], []⟩)) _ _ s
    refine wpAny_bind (wpAny_of_eq (PySem.F.newCall_bool_1 _) (wpAny_pure ⟨plainId_quiet (by decide +kernel) _, codeAny_builtin PySem.F.entry_bool_new ?_⟩))
    rw [Around.under_plainId (by decide +kernel) _]
    exact bool_new_entry (wpAny_mono h (fun b s1 q => ⟨b, rfl, q⟩) fun _ _ e => e)
  · rintro obj s₁ ⟨b, rfl, hq⟩
    exact ⟨rfl, PySem.F.args_object_init_2 _ _, object_init_meets PySem.F.called_bool.init.lookup PySem.F.called_bool.made (by decide) prog w A.in1 _ s₁ ⟨rfl, rfl, hq⟩⟩
end
end KF

set_option Elab.async false
set_option linter.all false
set_option maxRecDepth 100000
set_option maxHeartbeats 4000000
/-! V6: soundness: what a frame has; calls by values, == and truth of instances -/
namespace KF
open PySem PySem.Spec PyProof.Rows L2
/-- a def's promise: what the evaluation gives -/
def spC (L : Lk) (n : Nat) (g : List D → Store → R D) : Sp := fun vs H Q E => vs.length = n ∧ ∃ ds S m, m.T = L.T ∧ RelS L H m S ∧ RelDs L H m ds vs ∧ Cont L (fun cls d _ H => E cls d H) [] (RelD L) Q H m (g ds S)
theorem Cont.toE {L : Lk} {W : WX} {σ : L2.St} {Q : VK} {H : Hp} {m : Mp} : ∀ {r : R D}, Cont L W σ (RelD L) Q H m r → Cont L (fun cls d _ H => WE W σ cls d H) [] (RelD L) Q H m r
  | .ok _ _, h => h
  | .exc _ _ _, h => h
  | .bad, h => h
/-- the exception that a suite holds -/
def ZX (L : Lk) (i : Nat) (a dd : Addr) (k : Nat) (fs : List D) : ZP := fun σ H m => σ[i]? = some (some (.ref a)) ∧ ∃ vs, H dd = some (.xd ((L.ef k).zip vs).reverse) ∧ dd ∉ m.locs ∧ dd ∉ m.pr ∧ RelDs L H m fs vs
theorem ZX.mono {L : Lk} {i : Nat} {a dd : Addr} {k : Nat} {fs : List D} : ZMono (ZX L i a dd k fs) := by
  rintro σ H m H' m' e ⟨h1, vs, h2, h3, h4, h5⟩
  refine ⟨h1, vs, e.keep dd _ h2 h3 h4 (fun ps z => nomatch z), fun z => ?_, fun z => ?_, h5.mono e⟩
  · rcases e.newl dd z with z | z | z
    · exact h3 z
    · exact h4 z
    · rw [h2] at z; cases z
  · rcases e.newp dd z with z | z
    · exact h4 z
    · rw [h2] at z; cases z
/-- a def that is called -/
def CallOk (L : Lk) (g : Cfg) (X : Cx) (f : Nat) (a : Addr) : Prop := ∃ (fd : FuncData) (ps : List Str) (k n : Nat), PySem.W.keepIn X.K (.ref a) = true ∧ Binds X.K fd ps [] ∧ ps.length = n ∧ Room (k + 2) X.A ∧
    FnOk X.prog X.w X.K X.mg X.base (L2.CX X.prog X.w) k a fd ps (spC L n (g.call f)) ∧ ∀ ds S, ds.length ≠ n → g.call f ds S = .bad
/-- what of the text a class has -/
structure ClsOk (K : PySem.W.Frag) (C : Addr) (fs : List Str) : Prop where
  cls : Cls K C
  no : ∀ f ∈ fs, NoAttr K C f
  sz : fs.length < 900
  nd : fs.Nodup
  mks : PySem.W.makesIn K C = true
  kp : PySem.W.keepIn K (.ref C) = true
  ca : PySem.W.findIn K (.ref C) "__class__" = some (some (.builtin "object.__class__"))
  cn : PySem.W.specialIn K (.builtin "object.__class__") "__get__" = some (some (.builtin "getset_descriptor.__get__"))
  ct : PySem.W.takesIn K (.builtin "object.__class__") = some true
  cm : PySem.W.mroIn K C (.type "object") = some true
  ne : PySem.W.findIn K (.ref C) "__ne__" = some (some (.builtin "object.__ne__"))
structure Good (t : Tb) (L : Lk) (g : Cfg) (W : WX) (Z : ZP) (X : Cx) (c : Cc) : Prop where
  K : X.K = L.K
  N : X.N = c.N
  nd : c.N.Nodup
  sc : X.env.scope = c.sc
  fn : ∀ x, (match c.own with | none => True | some s => s.names.lookup x = some .cell) → X.fn x = true
  un : X.A.units + 140 < cLine
  free : ∀ x ∈ t.blt, X.mg x = none
  glob : ∀ k x d, t.glN[k]? = some x → g.glob k = some d → ∃ v u, X.mg x = some u ∧ RelV v u ∧ ∀ H m, RelD L H m d v
  tk : Takes X W
  po : PassesOwn (model X.prog X.w) X.A X.env X.xe
  ef : g.ef = L.ef
  cf : g.cf = L.cf
  zm : ZMono Z
  calm : c.suite = none → X.calm = true
  zt : c.suite = none → ∀ σ H m, Z σ H m
  call : c.suite = none → ∀ f x n, t.fnN[f]? = some (x, n) → ∃ (a : Addr), X.mg x = some (.ref a) ∧ CallOk L g X f a
  mth : ∀ k m f, g.mth k m = some f → k < t.clN.length ∧ m ∉ L.cf k ∧ ∃ a, Meth X.K (L.ca k) m a ∧ CallOk L g X f a
  cls : ∀ k x, t.clN[k]? = some x → X.mg x = some (.ref (L.ca k)) ∧ ClsOk X.K (L.ca k) (L.cf k)
  nf : ∀ k k', k < t.clN.length → k' < t.clN.length → PySem.W.notFirst X.K (L.ca k) (.ref (L.ca k')) = true
  big : ∀ k, t.clN.length ≤ k → L.cf k = []
  suite : ∀ i, c.suite = some i → ∃ (a : Addr) (oe : Obj) (k : Nat) (fs : List D) (dd : Addr) (pn : List (Addr × Obj)) (X0 : Cx), X = X0.suite a ((a, oe) :: pn) ∧ Zc (.ref (L.ea k)) (some dd) oe ∧ (∃ vs, oe.data = .fields vs) ∧ g.cur = some (k, fs) ∧ XfC L.K (L.ea k) ∧
    (∀ f ∈ L.ef k, PySem.W.findIn L.K (.ref (L.ea k)) f = some none) ∧ Z = ZX L i a dd k fs
section
variable {t : Tb} {L : Lk} {g : Cfg} {W : WX} {Z : ZP} {X : Cx} {c : Cc} {a b : Expr}
theorem R.bind_assoc {α β γ : Type} (r : R α) (f : α → Store → R β) (h : β → Store → R γ) : (r.bind f).bind h = r.bind fun x S => (f x S).bind h := by
  cases r <;> rfl
theorem Cont.here {L : Lk} {W : WX} {σ : L2.St} {α β : Type} {Rl : Hp → Mp → α → β → Prop} {Q : β → Hp → Prop} {H : Hp} {m : Mp} {d : α} {S : Store} {v : β} (h : Cont L W σ Rl Q H m (.ok d S)) (s : RelS L H m S) (r : Rl H m d v) : Q v H := h H m v (Ext.refl H m) s r
/-- an instance, where it stands -/
theorem ins_rd {S : Store} {H : Hp} {m : Mp} {d : D} {v : V} {k : Nat} (s : RelS L H m S) (r : RelD L H m d v) (h : clsOf S d = some k) : ∃ a us, v = .ref a ∧ InsH L H k a us := by
  cases d with
  | ins c fs =>
    cases h
    obtain ⟨a, us, e, _, _, h4, _⟩ := r
    exact ⟨a, _, e, h4⟩
  | loc n =>
    obtain ⟨a, rfl, ha⟩ := r
    unfold clsOf at h
    dsimp only at h
    split at h
    · rename_i q
      cases h
      obtain ⟨b, e1, us, e2, _⟩ := s.at_ n _ q
      rw [ha] at e1; cases e1
      exact ⟨a, us, rfl, e2⟩
    · cases h
  | _ => cases h
theorem InsH.inst {pins : List (Addr × Obj)} {σ : L2.St} {H : Hp} {s : Shared} {k : Nat} {a : Addr} {us : List (Option V)} (I : Inv X pins σ H s) (h : InsH L H k a us) : ∃ dx as od, H a = some (.ins (L.ca k) dx as) ∧ PySem.W.InstAt s.heap a (PySem.W.instObj (L.ca k) dx) (L.ca k) (some od) := by
  obtain ⟨dx, as, h1, _⟩ := h
  obtain ⟨mA, J, _⟩ := ins_get I.hok h1
  obtain ⟨od, J, _⟩ := J.look
  exact ⟨dx, as, od, h1, J⟩
/-- the def at a is called with values, below the body -/
theorem call_run {pins : List (Addr × Obj)} {σ : L2.St} {H : Hp} {s : Shared} {A : Around} {f : Nat} {aa : Addr} {ds : List D} {S : Store} {m : Mp} {vs : List V} {us : List Value} {Q : VK} (CO : CallOk L g X f aa) (hA : A = X.A ∨ A = X.A.in1 ∨ A = X.A.in1.in1) (tk : Takes X W) (I : Inv X pins σ H s) (hT : m.T = L.T) (hs : RelS L H m S) (rd : RelDs L H m ds vs) (rv : Vals vs us)
    (k : Cont L W σ (RelD L) Q H m (g.call f ds S)) : wpAny (model X.prog X.w) A (call (.ref aa) us) (EP X pins σ Q) X.xe s := by
  obtain ⟨fd, ps, kk, n, h1, h2, h3, h4, h5, h6⟩ := CO
  have hl : ds.length = n := by
    by_cases z : ds.length = n
    · exact z
    · rw [h6 ds S z] at k; exact k.elim
  have sp : spC L n (g.call f) vs H Q (WE W σ) := ⟨by rw [rd.length]; exact hl, ds, S, m, hT, hs, rd, k.toE⟩
  have hul : us.length = ps.length := by rw [← rv.length, rd.length, hl, h3]
  have b := h2 s us I.kIn (by rw [List.append_nil]; exact hul)
  rw [List.append_nil] at b
  have hr : Room kk A := by
    rcases hA with rfl | rfl | rfl
    · exact h4.mono (by omega)
    · exact h4.in1.mono (by omega)
    · exact (show Room (kk + 1) X.A.in1 from h4.in1).in1
  have e0 : Env0 X.prog X.w X.K X.mg X.base A X.stack s H := by
    rcases hA with rfl | rfl | rfl
    · exact I.env0
    · exact I.env0.in1
    · exact I.env0.in1.in1
  refine wpAny_call (codeAny_mono (h5.run A X.stack s H ⟨us, []⟩ us vs Q (WE W σ) hr e0 b rv sp) fun r s' hq => ?_)
  cases r with
  | error e => exact passAt tk σ pins H s e s' I hq
  | ok fl =>
    cases fl with
    | ret u => exact I.after hq
    | next => exact False.elim hq
    | brk => exact False.elim hq
    | cont => exact False.elim hq
/-! ### a value's type -/
def Ty.ts : Ty → String
  | .list => "list" | .tuple => "tuple" | .int => "int" | .bool => "bool" | .str => "str" | .dict => "dict" | .cls _ => ""
def Kd.ts (L : Lk) : Kd → Value
  | .non => .type "NoneType" | .bl => .type "bool" | .int => .type "int" | .str => .type "str" | .tup => .type "tuple" | .lst => .type "list" | .dict => .type "dict" | .cls k => .ref (L.ca k)
def Kd.in (t : Tb) : Kd → Prop
  | .cls k => k < t.clN.length
  | _ => True
theorem sub_ty (C : Addr) {T : String} (h : T ∈ ["NoneType", "bool", "int", "str", "tuple", "list", "dict"]) {K : PySem.W.Frag} : PySem.W.subIn K (.type T) (.ref C) = some false := by
  have go : ∀ {l : List String}, fastBuiltinMro T = some (l.map Value.type) → PySem.W.subIn K (.type T) (.ref C) = some false := by
    intro l e
    show (fastBuiltinMro T).map (·.contains (.ref C)) = some false
    rw [e]
    simp only [Option.map_some, Option.some.injEq]
    induction l with
    | nil => rfl
    | cons x r ih => simp
  simp only [List.mem_cons, List.not_mem_nil, or_false] at h
  rcases h with rfl | rfl | rfl | rfl | rfl | rfl | rfl
  · exact go (l := ["NoneType", "object"]) (by decide +kernel)
  · exact go (l := ["bool", "int", "object"]) (by decide +kernel)
  · exact go (l := ["int", "object"]) (by decide +kernel)
  · exact go (l := ["str", "object"]) (by decide +kernel)
  · exact go (l := ["tuple", "object"]) (by decide +kernel)
  · exact go (l := ["list", "object"]) (by decide +kernel)
  · exact go (l := ["dict", "object"]) (by decide +kernel)
end
end KF

set_option Elab.async false
set_option linter.all false
set_option maxRecDepth 100000
set_option maxHeartbeats 4000000
/-! V6b: == and truth by values -/
namespace KF
open PySem PySem.Spec PyProof.Rows L2
section
variable {t : Tb} {L : Lk} {g : Cfg} {W : WX} {Z : ZP} {X : Cx} {c : Cc}
theorem InsH.tyx (G : Good t L g W Z X c) {k : Nat} (hk : k < t.clN.length) {H : Hp} {a : Addr} {us : List (Option V)} (h : InsH L H k a us) : TyX X.K H (.ref a) (.ref (L.ca k)) := by
  obtain ⟨dx, as, h1, _⟩ := h
  have C := (G.cls k _ (List.getElem?_eq_getElem hk)).2
  exact .base (.ins h1 C.cls C.ca C.cn C.ct C.cm)
/-- a value's type -/
theorem tyx (G : Good t L g W Z X c) {H : Hp} {m : Mp} {S : Store} {d : D} {v : V} {k : Kd} (s : RelS L H m S) (r : RelD L H m d v) (h : d.kd S = some k) (hk : k.in t) : TyX X.K H v (k.ts L) := by
  have dyn : (∃ xs, lstOf S d = some xs ∧ k = .lst) ∨ (∃ ks vs, dicOf S d = some (false, ks, vs) ∧ k = .dict) ∨ (∃ c, clsOf S d = some c ∧ k = .cls c) → TyX X.K H v (k.ts L) := by
    rintro (⟨xs, e, rfl⟩ | ⟨ks, vs, e, rfl⟩ | ⟨c', e, rfl⟩)
    · obtain ⟨a, vs, rfl, _, hq | ⟨o, hq⟩⟩ := lst_sq s r e
      · exact .base (.lst hq)
      · exact .base (.frz hq)
    · obtain ⟨a, us, rfl, ⟨u, h1, kvs, rfl, h3, rfl⟩, _⟩ := dic_rd s r e
      rcases h1 with h1 | ⟨o, h1⟩
      · exact .base (.dK h1)
      · exact .fDict h1
    · obtain ⟨a, us, rfl, hi⟩ := ins_rd s r e
      exact hi.tyx G hk
  cases d with
  | non => cases h; rw [show v = _ from r]; exact .base .non
  | bl b => cases h; rw [show v = _ from r]; exact .base (.bl b)
  | int i => cases h; rw [show v = _ from r]; exact .base (.int i)
  | str x => cases h; rw [show v = _ from r]; exact .base (.str x)
  | tup xs =>
    cases h
    obtain ⟨a, vs, rfl, ha, _⟩ := r
    rw [G.K]
    rcases ha with ⟨_, _, ha | ⟨o, ha⟩⟩ | ⟨o, its, n, h1, h2, _⟩
    · exact .base (.tup ha)
    · exact .fTuple ha
    · exact .kTuple h1 h2
  | lst xs =>
    refine dyn (.inl ⟨xs, rfl, ?_⟩)
    cases h; rfl
  | dic tt ks vs =>
    cases tt with
    | true => cases h
    | false =>
      refine dyn (.inr (.inl ⟨ks, vs, rfl, ?_⟩))
      cases h; rfl
  | ins c' fs =>
    refine dyn (.inr (.inr ⟨c', rfl, ?_⟩))
    cases h; rfl
  | loc n =>
    have h : (match lstOf S (.loc n) with
      | some _ => some Kd.lst
      | none => match dicOf S (.loc n) with
        | some (false, _, _) => some .dict
        | some (true, _, _) => none
        | none => match clsOf S (.loc n) with
          | some c => some (.cls c)
          | none => none) = some k := h
    split at h
    · rename_i xs e
      exact dyn (.inl ⟨xs, e, (Option.some.inj h).symm⟩)
    · split at h
      · rename_i ks vs e
        exact dyn (.inr (.inl ⟨ks, vs, e, (Option.some.inj h).symm⟩))
      · cases h
      · split at h
        · rename_i c' e
          exact dyn (.inr (.inr ⟨c', e, (Option.some.inj h).symm⟩))
        · cases h
theorem notFirst_kd (G : Good t L g W Z X c) {k : Nat} (hk : k < t.clN.length) {kd : Kd} (hd : kd.in t) : PySem.W.notFirst X.K (L.ca k) (kd.ts L) = true := by
  have bas : ∀ {T : String}, T ∈ ["NoneType", "bool", "int", "str", "tuple", "list", "dict"] → PySem.W.notFirst X.K (L.ca k) (.type T) = true := fun h => by
    unfold PySem.W.notFirst
    rw [sub_ty _ h]; simp
  cases kd with
  | cls k' => exact G.nf k k' hk hd
  | _ => exact bas (by simp)
theorem kd_in (G : Good t L g W Z X c) {kd : Kd} (h : kdOk g kd = true) : kd.in t := by
  cases kd with
  | cls k =>
    obtain ⟨f, hf⟩ := Option.isSome_iff_exists.mp h
    exact (G.mth k _ f hf).1
  | _ => trivial
/-- op of two values: == and != by the class's own way -/
theorem cmpV_run (G : Good t L g W Z X c) {pins : List (Addr × Obj)} {σ : L2.St} {H : Hp} {s : Shared} {o : C2} {m : Mp} {S : Store} {x y : D} {xv yv : V} {u w : Value} {Q : VK} (I : Inv X pins σ H s) (hT : m.T = L.T) (hs : RelS L H m S)
    (rx : RelD L H m x xv) (ru : RelV xv u) (ry : RelD L H m y yv) (rw' : RelV yv w) (k : Cont L W σ (RelD L) Q H m (cmpV g o x y S)) : wpAny (model X.prog X.w) X.A (compareOp o.py u w) (EP X pins σ Q) X.xe s := by
  have plain : ∀ {r : R D}, Cont L W σ (RelD L) Q H m r → r = lift (dcmp S o x y) S → wpAny (model X.prog X.w) X.A (compareOp o.py u w) (EP X pins σ Q) X.xe s := by
    intro r k e
    subst e
    cases q : dcmp S o x y with
    | none => rw [q] at k; exact k.elim
    | some z =>
      rw [q] at k
      exact op_cmpAll (L := L) G.K G.un o pins s σ H xv yv u w Q I ru rw' ⟨x, y, z, m, S, hs, rx, ry, q, k⟩
  have own : ∀ ng, Cont L W σ (RelD L) Q H m (eqV g ng x y S) → o = (if ng = true then .ne else .eq) → wpAny (model X.prog X.w) X.A (compareOp o.py u w) (EP X pins σ Q) X.xe s := by
    intro ng k' ho
    clear k
    have k := k'
    unfold eqV at k
    split at k
    · rename_i kx hx
      split at k
      · rename_i f hf
        split at k
        · rename_i kd hkd'
          split at k
          case isFalse => exact k.elim
          rename_i hko
          have hkd := kd_in G hko
          obtain ⟨hkx, _, aa, hm, CO⟩ := G.mth kx _ f hf
          obtain ⟨a, us, rfl, hi⟩ := ins_rd hs rx hx
          cases ru
          obtain ⟨dx, as, od, h1, J⟩ := hi.inst I
          have hty := tyx G hs ry hkd' hkd
          obtain ⟨P, ZK, p, _⟩ := kit_of I rw' hty
          have hlook := ZK.ty (model X.prog X.w) s.heap I.kIn p
          have hnf := notFirst_kd G hkx hkd
          have C := (G.cls kx _ (List.getElem?_eq_getElem hkx)).2
          rw [R.bind_assoc] at k
          have kk := k.bind (Rl := RelD L)
          have run : ∀ {A : Around} (hA : A = X.A ∨ A = X.A.in1 ∨ A = X.A.in1.in1), wpAny (model X.prog X.w) A (call (.ref aa) [.ref a, w]) (fun v s' => ∃ b : Bool, v = .bool b ∧ EP X pins σ Q (.bool (nb ng b)) s') X.xe s := by
            intro A hA
            refine wpAny_mono (call_run (g := g) (f := f) (ds := [x, y]) CO hA G.tk I hT hs ⟨_, _, rfl, rx, _, _, rfl, ry, rfl⟩ (.cons rfl (.cons rw' .nil)) kk) (fun v s' z => ?_) fun _ _ e => e
            obtain ⟨vv, H', I', rv, m1, d, S1, ex, hs1, rd, k2⟩ := z
            cases d with
            | bl b =>
              have rd : vv = .bl b := rd
              subst rd
              cases rv
              exact ⟨b, rfl, .bl (nb ng b), H', I', rfl, k2.here hs1 rfl⟩
            | _ => exact k2.elim
          cases ng with
          | false =>
            have ho : o = .eq := ho
            subst ho
            obtain ⟨mm, hF⟩ := I.fr
            show wpAny _ _ (richCompare .Eq _ _) _ _ _
            refine PySem.W.cmp_K (op := .Eq) (by have := G.un; omega) hF I.ok.mod.kin J hlook hnf hm.at_ hm.fn (wpAny_mono (run (.inl rfl)) (fun v s' z => ?_) fun _ _ e => e)
            obtain ⟨b, rfl, q⟩ := z
            exact q
          | true =>
            have ho : o = .ne := ho
            subst ho
            show wpAny _ _ (richCompare .NotEq _ _) _ _ _
            refine ne_K (by have := G.un; show X.A.units + 1 < _; omega) I.kIn J hlook hnf C.cm C.ne hm.at_ hm.fn (wpAny_mono (run (.inr (.inl rfl))) (fun v s' z => ?_) fun _ _ e => e)
            obtain ⟨b, rfl, q⟩ := z
            exact ⟨b, rfl, q⟩
        · exact k.elim
      · exact k.elim
    · cases ng with
      | false =>
        have ho : o = .eq := ho
        subst ho
        exact plain k rfl
      | true =>
        have ho : o = .ne := ho
        subst ho
        exact plain k rfl
  cases o
  · exact own false k rfl
  · exact own true k rfl
  all_goals exact plain k rfl
/-- a value's truth, at the body or below -/
theorem asT_run (G : Good t L g W Z X c) {pins : List (Addr × Obj)} {σ : L2.St} {H : Hp} {s : Shared} {m : Mp} {S : Store} {d : D} {v : V} {u : Value} {Q : Bool → Hp → Prop} {A : Around} (hA : A = X.A ∨ A = X.A.in1 ∨ A = X.A.in1.in1) (I : Inv X pins σ H s) (hT : m.T = L.T) (hs : RelS L H m S)
    (r : RelD L H m d v) (ru : RelV v u) (k : Cont L W σ (fun _ _ (d : Bool) b => d = b) Q H m (asT g d S)) : wpAny (model X.prog X.w) A (truthy u) (TP X pins σ Q) X.xe s := by
  have seqs : ∀ {xs : List D}, items S d = some xs → Cont L W σ (fun _ _ (d : Bool) b => d = b) Q H m (.ok (!xs.isEmpty) S) → wpAny (model X.prog X.w) A (truthy u) (TP X pins σ Q) X.xe s := by
    intro xs e k
    obtain ⟨a, vs, rfl, hr, hq⟩ := items_sq hs r e
    have ee : (!vs.isEmpty) = (!xs.isEmpty) := by
      have := hr.length
      cases vs <;> cases xs <;> simp at this <;> rfl
    have q := k.here (v := !vs.isEmpty) hs ee.symm
    cases ru
    rcases hq with hq | hq
    · obtain ⟨its, rv, pl, hz⟩ := I.list (show SqL X.K H a vs by rw [G.K]; exact hq)
      have hl := line63
      exact wpAny_truthy_list pl.isList (by have := rv.length; simp only [List.size_toArray]; omega) ⟨H, I.tok _, by rw [isEmpty_of rv]; exact q⟩
    · obtain ⟨its, rv, pl, hz⟩ := I.tuple (show SqT X.K H a vs by rw [G.K]; exact hq)
      have hl := line63
      exact truthy_tuple pl (by have := rv.length; simp only [List.size_toArray]; omega) ⟨H, I.tok _, by rw [isEmpty_of rv]; exact q⟩
  have dyn : (match items S d with
    | some xs => R.ok (!xs.isEmpty) S
    | none => match dicOf S d with
      | some (false, ks, _) => .ok (!ks.isEmpty) S
      | some (true, _, _) => .bad
      | none => match clsOf S d with
        | some k => match g.mth k "__bool__" with
          | some f => (g.call f [d] S).bind asB
          | none => .bad
        | none => .bad) = asT g d S → wpAny (model X.prog X.w) A (truthy u) (TP X pins σ Q) X.xe s := by
    intro e
    rw [← e] at k
    split at k
    · rename_i xs q
      exact seqs q k
    · split at k
      · rename_i ks vs q
        obtain ⟨a, us, rfl, ⟨uu, h1, kvs, rfl, h3, rfl⟩, hr⟩ := dic_rd hs r q
        cases ru
        refine d_truth I h1 fun s' I' => ⟨H, I', k.here hs ?_⟩
        cases ks with
        | nil => cases h3' : kvs with
          | nil => rfl
          | cons _ _ => rw [h3'] at h3; simp [mapO] at h3
        | cons a ks =>
          cases h3' : kvs with
          | nil => rw [h3'] at h3; unfold mapO at h3; split at h3 <;> simp at h3
          | cons _ _ => rfl
      · exact k.elim
      · split at k
        · rename_i kx hx
          split at k
          · rename_i f hf
            obtain ⟨hkx, _, aa, hm, CO⟩ := G.mth kx _ f hf
            obtain ⟨a, us, rfl, hi⟩ := ins_rd hs r hx
            cases ru
            obtain ⟨dx, as, od, h1, J⟩ := hi.inst I
            obtain ⟨mm, hF⟩ := I.fr
            have kk := k.bind (Rl := RelD L)
            refine PySem.W.truthy_K hF I.ok.mod.kin J hm.at_ hm.fn (wpAny_mono (call_run (g := g) (f := f) (ds := [d]) CO hA G.tk I hT hs (.one r) (.cons rfl .nil) kk) (fun v s' z => ?_) fun _ _ e => e)
            obtain ⟨vv, H', I', rv, m1, d1, S1, ex, hs1, rd, k2⟩ := z
            cases d1 with
            | bl b =>
              have rd : vv = .bl b := rd
              subst rd
              cases rv
              exact ⟨H', I', k2.here hs1 rfl⟩
            | _ => exact k2.elim
          · exact k.elim
        · exact k.elim
  cases d with
  | non =>
    have r : v = .non := r
    subst r
    cases ru
    exact truthy_none ⟨H, I, k.here hs rfl⟩
  | bl b =>
    have r : v = .bl b := r
    subst r
    cases ru
    exact wpAny_truthy_bool ⟨H, I, k.here hs rfl⟩
  | int i =>
    have r : v = .int i := r
    subst r
    obtain ⟨tk, rfl⟩ := ru
    exact PySem.P.truthy_int ⟨H, I, k.here hs rfl⟩
  | str y =>
    have r : v = .str y := r
    subst r
    obtain ⟨tk, rfl⟩ := ru
    have k : Cont L W σ (fun _ _ (d : Bool) b => d = b) Q H m (if y.length ≤ sizeLine then .ok (y.length != 0) S else .bad) := k
    split at k
    · rename_i hy
      have hl := line63
      refine PySem.P.truthy_str (by omega) ⟨H, I.tok _, k.here hs ?_⟩
      show (y.length != 0) = ((y.length : Int) != 0)
      rw [Bool.eq_iff_iff, bne_iff_ne, bne_iff_ne]
      omega
    · exact k.elim
  | tup xs => exact dyn rfl
  | lst xs => exact dyn rfl
  | loc n => exact dyn rfl
  | dic tt ks vs => exact dyn rfl
  | ins c' fs => exact dyn rfl
end
end KF

set_option Elab.async false
set_option linter.all false
set_option maxRecDepth 100000
set_option maxHeartbeats 4000000
/-! V6c: soundness, the simple expressions -/
namespace KF
open PySem PySem.Spec PyProof.Rows L2
section
variable {t : Tb} {L : Lk} {g : Cfg} {W : WX} {Z : ZP} {X : Cx} {c : Cc} {a b : Expr}
abbrev Ev := KF.Env → Store → R D
/-- a value, or its truth -/
def SV (L : Lk) (W : WX) (Z : ZP) (X : Cx) (a : Expr) (f : Bool → Ev) : Prop := PE X a (tD L W Z (f false)) ∧ PT X a (tBb L W Z fun env S => (f true env S).bind asB)
theorem tE.congr {α β : Type} {Rl : Hp → Mp → α → β → Prop} {f f' : KF.Env → Store → R α} {σ : L2.St} {H : Hp} {Q : β → Hp → Prop} (h : ∀ env S, f env S = f' env S) (w : tE L W Z Rl f σ H Q) : tE L W Z Rl f' σ H Q := by
  have : f = f' := by funext env S; exact h env S
  rw [← this]; exact w
theorem tst_true {r : R D} : (tst g true r).bind asB = r.bind (asT g) := by
  show ((r.bind (asT g)).bind fun b S => R.ok (D.bl b) S).bind asB = _
  cases r with
  | ok d S =>
    show ((asT g d S).bind fun b S => R.ok (D.bl b) S).bind asB = asT g d S
    cases asT g d S <;> rfl
  | exc _ _ _ => rfl
  | bad => rfl
/-- a value's truth as a test -/
theorem e_tst (G : Good t L g W Z X c) {f0 : Ev} (h : PE X a (tD L W Z f0)) (hp : plainT a = true) : SV L W Z X a (fun tm env S => tst g tm (f0 env S)) := by
  refine ⟨h, ⟨fun pins s σ H Q I w => ?_⟩⟩
  have w2 : tBb L W Z (fun env S => (f0 env S).bind (asT g)) σ H Q := tE.congr (fun env S => tst_true) w
  have w3 := tE.seq (Rl := RelD L) G.zm (g := fun env d S1 => asT g d S1) w2
  refine isTrue_plain (thn (h.run pins s σ H _ I w3) fun u s1 ⟨v, H1, I1, ru, env, S1, m1, d, he, hs, r, k⟩ => ?_) (plainT_ok hp _)
  exact asT_run G (.inl rfl) I1 he.2.2.2 hs r ru k
theorem vis_ok (G : Good t L g W Z X c) {x : Str} (h2 : visB c.sc x = true) : Vis X.env.scope x := by
  rw [G.sc]
  unfold visB at h2
  split at h2
  · exact .inl (by assumption)
  · exact .inr (.inl (by assumption))
  · exact .inr (.inr (by assumption))
  · cases h2
theorem dun_ok {x : Str} (h3 : dunB x = true) : (x == ("__debug__" : Str)) = false ∧ (x == ("__classdict__" : Str)) = false := by
  unfold dunB at h3
  simpa only [Bool.and_eq_true, Bool.not_eq_true'] using h3
theorem e_name (G : Good t L g W Z X c) {i : Nat} {x : Str} {p : Pos} (h1 : c.N[i]? = some x) (h2 : visB c.sc x = true) (h3 : dunB x = true) : PE X (.Name x p) (tD L W Z fun env S => lift ((env[i]?).join) S) := by
  obtain ⟨d1, d2⟩ := dun_ok h3
  refine (pe_var (i := i) (by rw [G.N]; exact h1) (vis_ok G h2) d1 d2).imp fun σ H Q ⟨env, S, m, he, hs, k⟩ => ?_
  have k : Cont L W σ (RelD L) Q H m (lift ((env[i]?).join) S) := k
  cases q : env[i]? with
  | none => rw [q] at k; exact k.elim
  | some o =>
    cases o with
    | none => rw [q] at k; exact k.elim
    | some d =>
      rw [q] at k
      obtain ⟨v, e1, r⟩ := he.2.1 i d q
      exact ⟨v, e1, k.here hs r⟩
theorem e_const (h : PE X a (tC v)) {d : D} (r : ∀ H m, RelD L H m d v) : PE X a (tD L W Z fun _ S => .ok d S) :=
  h.imp fun σ H Q ⟨env, S, m, he, hs, k⟩ => k.here hs (r H m)
theorem gl_of (G : Good t L g W Z X c) {x : Str} (h : glB c.sc x = true) : Gl X x := by
  show X.env.scope.names.lookup x = _
  rw [G.sc]
  exact of_decide_eq_true h
theorem e_glob (G : Good t L g W Z X c) {i : Nat} {x : Str} {p : Pos} (h1 : t.glN[i]? = some x) (h2 : glB c.sc x = true) (h3 : dunB x = true) : PE X (.Name x p) (tD L W Z fun env S => lift (g.glob i) S) := by
  obtain ⟨d1, d2⟩ := dun_ok h3
  cases q : g.glob i with
  | none =>
    refine ⟨fun pins s σ H Q I w => ?_⟩
    obtain ⟨env, S, m, he, hs, k⟩ := w
    exact k.elim
  | some d =>
    obtain ⟨v, u, e1, e2, e3⟩ := G.glob i x d h1 q
    refine (pe_glob (gl_of G h2) e1 e2 d1).imp fun σ H Q ⟨env, S, m, he, hs, k⟩ => ?_
    exact k.here hs (e3 H m)
theorem blt_of (G : Good t L g W Z X c) {x y : Str} (h : bltB t c x y = true) : x = y ∧ Gl X y ∧ X.mg y = none := by
  unfold bltB at h
  simp only [Bool.and_eq_true, decide_eq_true_eq] at h
  obtain ⟨rfl, h2, h3⟩ := h
  exact ⟨rfl, gl_of G h2, G.free x (by simpa using h3)⟩
theorem calm_of {c : Cc} (h : calmB c = true) : c.suite = none := by
  unfold calmB at h
  cases q : c.suite with
  | none => rfl
  | some i => rw [q] at h; cases h
/-- two parts by a rule on values -/
theorem e_two (G : Good t L g W Z X c) {fa fb : Ev} {gg : Store → D → D → Option D} {Q : VK} {σ : L2.St} {H : Hp} (w : tD L W Z (fun env S => (fa env S).bind fun x S1 => (fb env S1).bind fun y S2 => lift (gg S2 x y) S2) σ H Q) :
    tOp (rO L gg) (tD L W Z fa) (tD L W Z fb) σ H Q := by
  refine (tE.seq (Rl := RelD L) G.zm (g := fun env x S1 => (fb env S1).bind fun y S2 => lift (gg S2 x y) S2) w).imp fun v H1 ⟨env, S1, m1, d, he, hs, r, k⟩ => ?_
  refine ⟨env, S1, m1, he, hs, k.bind.imp fun v2 H2 ⟨m2, d2, S2, e2, s2, r2, k2⟩ => ?_⟩
  cases q : gg S2 d d2 with
  | none => rw [q] at k2; exact k2.elim
  | some z =>
    rw [q] at k2
    exact ⟨d, d2, z, m2, S2, s2, r.mono e2.mono, r2, q, k2⟩
theorem e_op (G : Good t L g W Z X c) {o : O2} {fa fb : Ev} {p : Pos} (ha : PE X a (tD L W Z fa)) (hb : PE X b (tD L W Z fb)) :
    PE X (.BinOp a o.py b p) (tD L W Z fun env S => (fa env S).bind fun x S1 => (fb env S1).bind fun y S2 => lift (dop2 S2 o x y) S2) :=
  (pe_op (op_all (L := L) G.K o) ha hb).imp fun σ H Q w => e_two G (gg := fun S => dop2 S o) w
theorem e_neg (G : Good t L g W Z X c) {fa : Ev} {p : Pos} (ha : PE X a (tD L W Z fa)) :
    PE X (.UnaryOp .USub a p) (tD L W Z fun env S => (fa env S).bind fun x S1 => lift (x.isInt.map fun i => D.int (-i)) S1) := by
  refine (pe_un un_neg ha).imp fun σ H Q w => ?_
  refine (tE.seq (Rl := RelD L) G.zm (g := fun env x S1 => lift (x.isInt.map fun i => D.int (-i)) S1) w).imp fun v H1 ⟨env, S1, m1, d, he, hs, r, k⟩ => ?_
  cases d <;> first | (exact ⟨_, r, k.here hs rfl⟩) | exact k.elim
theorem e_ix (G : Good t L g W Z X c) {fa fb : Ev} {p : Pos} (ha : PE X a (tD L W Z fa)) (hb : PE X b (tD L W Z fb)) (hn : notSlice b = true) :
    PE X (.Subscript a b p) (tD L W Z fun env S => (fa env S).bind fun x S1 => (fb env S1).bind fun y S2 => lift (dix S2 x y) S2) :=
  (pe_ix (ix_all (L := L) G.K (by have := G.un; omega)) ha hb (notSlice_ix hn)).imp fun σ H Q w => e_two G w
/-! ### comparisons -/
theorem e_cmp (G : Good t L g W Z X c) {o : C2} {fa fb : Ev} {p : Pos} (ha : PE X a (tD L W Z fa)) (hb : PE X b (tD L W Z fb)) (hn : notSet b = true) :
    SV L W Z X (.Compare a [o.py] [b] p) (fun _ env S => (fa env S).bind fun x S1 => (fb env S1).bind fun y S2 => cmpV g o x y S2) := by
  have step : ∀ {pins : List (Addr × Obj)} {s : Shared} {σ : L2.St} {H : Hp} {Q : VK}, Inv X pins σ H s → tD L W Z (fun env S => (fa env S).bind fun x S1 => (fb env S1).bind fun y S2 => cmpV g o x y S2) σ H Q →
      wpAny (model X.prog X.w) X.A (eval a X.env) (fun v s₁ => wpAny (model X.prog X.w) X.A (eval b X.env) (fun u s₂ => wpAny (model X.prog X.w) X.A (compareOp o.py v u) (EP X pins σ Q) X.xe s₂) X.xe s₁) X.xe s := by
    intro pins s σ H Q I w
    have w1 := tE.seq (Rl := RelD L) G.zm (g := fun env x S1 => (fb env S1).bind fun y S2 => cmpV g o x y S2) w
    refine thn (ha.run pins s σ H _ I w1) fun u s1 ⟨v, H1, I1, ru, env, S1, m1, d, he, hs, r, k⟩ => ?_
    refine thn (hb.run pins s1 σ H1 _ I1 ⟨env, S1, m1, he, hs, k.bind (Rl := RelD L)⟩) fun u2 s2 ⟨v2, H2, I2, ru2, m2, d2, S2, e2, s2', r2, k2⟩ => ?_
    exact cmpV_run G I2 (e2.T.trans he.2.2.2) s2' (r.mono e2.mono) ru r2 ru2 k2
  refine ⟨⟨fun pins s σ H Q I w => wpAny_Compare1 (step I w) (notSet_behind hn)⟩, ⟨fun pins s σ H Q I w => ?_⟩⟩
  have w' : tD L W Z (fun env S => (fa env S).bind fun x S1 => (fb env S1).bind fun y S2 => cmpV g o x y S2) σ H fun x H1 => ∃ k, x = .bl k ∧ Q k H1 := by
    refine (tE.seq (Rl := RelD L) G.zm (g := fun env d S1 => asB d S1) w).imp fun v H1 ⟨env, S1, m1, d, he, hs, r, k⟩ => ?_
    cases d with
    | bl b => exact ⟨b, r, k.here hs rfl⟩
    | _ => exact k.elim
  refine wpAny_isTrue_Compare1 (wpAny_mono (step I w') (fun v s1 h1 => wpAny_mono h1 (fun u s2 h2 => thn h2 fun z s3 ⟨zv, H3, I3, r3, kk, e3, q3⟩ => ?_) fun _ _ e => e) fun _ _ e => e) (notSet_behind hn)
  subst e3
  cases r3
  exact wpAny_truthy_bool ⟨H3, I3, q3⟩
theorem tb_of (zm : ZMono Z) {f : Ev} {σ : L2.St} {H : Hp} {Q : Bool → Hp → Prop} (w : tBb L W Z (fun env S => (f env S).bind asB) σ H Q) : tD L W Z f σ H fun x H1 => ∃ k, x = .bl k ∧ Q k H1 := by
  refine (tE.seq (Rl := RelD L) zm (g := fun env d S1 => asB d S1) w).imp fun v H1 ⟨env, S1, m1, d, he, hs, r, k⟩ => ?_
  cases d with
  | bl b =>
    have r : v = .bl b := r
    exact ⟨b, r, k.here hs rfl⟩
  | _ => exact k.elim
theorem e_isR (G : Good t L g W Z X c) {ng : Bool} {fa : Ev} {Q : VK} {σ : L2.St} {H : Hp} (w : tD L W Z (fun env S => (fa env S).bind fun x S1 => R.ok (D.bl (isnB ng x)) S1) σ H Q) :
    tOp (rIs L ng) (tD L W Z fa) (tC .non) σ H Q := by
  refine (tE.seq (Rl := RelD L) G.zm (g := fun env x S1 => R.ok (D.bl (isnB ng x)) S1) w).imp fun v H1 ⟨env, S1, m1, d, he, hs, r, k⟩ => ?_
  exact ⟨d, m1, S1, hs, r, rfl, k⟩
theorem e_is (G : Good t L g W Z X c) {ng : Bool} {fa : Ev} {p p2 : Pos} {j : Nat} (ha : PE X a (tD L W Z fa)) :
    SV L W Z X (.Compare a [if ng = true then .IsNot else .Is] [.Constant .none j p2] p) (fun _ env S => (fa env S).bind fun x S1 => R.ok (D.bl (isnB ng x)) S1) :=
  ⟨(pe_cmpR (op_isAll (L := L) ng) ha pe_non (by cases ng <;> rfl)).imp fun σ H Q w => e_isR G w,
   (pt_cmpR (op_isAll (L := L) ng) ha pe_non (by cases ng <;> rfl)).imp fun σ H Q w => e_isR G (tb_of G.zm w)⟩
/-- a op1 b op2 c -/
theorem e_chn (G : Good t L g W Z X c) {o o' : C2} {fa fb fc : Ev} {d : Expr} {p : Pos} (ha : PE X a (tD L W Z fa)) (hb : PE X b (tD L W Z fb)) (hd : PE X d (tD L W Z fc)) (hm : lastMarks [o.py, o'.py] [b, d] = false) :
    SV L W Z X (.Compare a [o.py, o'.py] [b, d] p) (fun _ env S => (fa env S).bind fun x S1 => (fb env S1).bind fun y S2 => ((cmpV g o x y S2).bind asB).bind fun t S3 => if t = true then (fc env S3).bind fun z S4 => cmpV g o' y z S4 else .ok (.bl false) S3) := by
  let ff : Ev := fun env S => (fa env S).bind fun x S1 => (fb env S1).bind fun y S2 => ((cmpV g o x y S2).bind asB).bind fun t S3 => if t = true then (fc env S3).bind fun z S4 => cmpV g o' y z S4 else .ok (.bl false) S3
  have step : ∀ {pins : List (Addr × Obj)} {s : Shared} {σ : L2.St} {H : Hp} {Q : VK}, Inv X pins σ H s → tD L W Z ff σ H Q →
      wpAny (model X.prog X.w) X.A (eval a X.env) (fun v s₁ => wpAny (model X.prog X.w) X.A (eval b X.env) (fun u s₂ => wpAny (model X.prog X.w) X.A (compareOp o.py v u) (fun z s₃ => ∃ k : Bool, z = .bool k ∧
        (if k = true then wpAny (model X.prog X.w) X.A (eval d X.env) (fun u2 s₄ => wpAny (model X.prog X.w) X.A (compareOp o'.py u u2) (EP X pins σ Q) X.xe s₄) X.xe s₃ else EP X pins σ Q (.bool false) s₃)) X.xe s₂) X.xe s₁) X.xe s := by
    intro pins s σ H Q I w
    have w1 := tE.seq (Rl := RelD L) G.zm (g := fun env x S1 => (fb env S1).bind fun y S2 => ((cmpV g o x y S2).bind asB).bind fun t S3 => if t = true then (fc env S3).bind fun z S4 => cmpV g o' y z S4 else .ok (.bl false) S3) w
    refine thn (ha.run pins s σ H _ I w1) fun u s1 ⟨v, H1, I1, ru, env, S1, m1, x, he, hs, r, k⟩ => ?_
    refine thn (hb.run pins s1 σ H1 _ I1 ⟨env, S1, m1, he, hs, k.bind (Rl := RelD L)⟩) fun u2 s2 ⟨v2, H2, I2, ru2, m2, y, S2, e2, s2', r2, k2⟩ => ?_
    rw [R.bind_assoc] at k2
    refine thn (cmpV_run G I2 (e2.T.trans he.2.2.2) s2' (r.mono e2.mono) ru r2 ru2 (k2.bind (Rl := RelD L))) fun z s3 ⟨v3, H3, I3, ru3, m3, dz, S3, e3, s3', r3, k3⟩ => ?_
    cases dz with
    | bl kk =>
      have r3 : v3 = .bl kk := r3
      subst r3
      cases ru3
      refine ⟨kk, rfl, ?_⟩
      have he3 := (he.mono G.zm e2.mono).mono G.zm e3.mono
      cases kk with
      | false =>
        rw [if_neg Bool.false_ne_true]
        exact ⟨.bl false, H3, I3, rfl, Cont.here (L := L) (W := W) (σ := σ) (Rl := RelD L) (m := m3) (d := D.bl false) (S := S3) k3 s3' rfl⟩
      | true =>
        rw [if_pos rfl]
        have k3 : Cont L W σ (RelD L) Q H3 m3 ((fc env S3).bind fun z S4 => cmpV g o' y z S4) := k3
        refine thn (hd.run pins s3 σ H3 _ I3 ⟨env, S3, m3, he3, s3', k3.bind (Rl := RelD L)⟩) fun u4 s4 ⟨v4, H4, I4, ru4, m4, dz, S4, e4, s4', r4, k4⟩ => ?_
        exact cmpV_run G I4 (e4.T.trans he3.2.2.2) s4' ((r2.mono e3.mono).mono e4.mono) ru2 r4 ru4 k4
    | _ => exact k3.elim
  refine ⟨⟨fun pins s σ H Q I w => ?_⟩, ⟨fun pins s σ H Q I w => ?_⟩⟩
  · refine Compare_chain (wpAny_mono (step I w) (fun v s1 h1 => chain_link (wpAny_mono h1 (fun u s2 h2 => wpAny_mono h2 (fun z s3 ⟨k, ez, h3⟩ => ?_) fun _ _ e => e) fun _ _ e => e)) fun _ _ e => e) hm
    subst ez
    refine wpAny_truthy_bool ?_
    cases k with
    | false => exact ite_ff h3
    | true => exact ite_tt (chain_last h3)
  · refine isTrue_chain (wpAny_mono (step I (tb_of G.zm (f := ff) w)) (fun v s1 h1 => test_link (wpAny_mono h1 (fun u s2 h2 => wpAny_mono h2 (fun z s3 ⟨k, ez, h3⟩ => ?_) fun _ _ e => e) fun _ _ e => e)) fun _ _ e => e) hm
    subst ez
    refine wpAny_truthy_bool ?_
    cases k with
    | false =>
      obtain ⟨zv, H3, I3, r3, k', e', q'⟩ := h3
      subst e'
      cases r3
      exact ite_ff ⟨H3, I3, q'⟩
    | true =>
      refine ite_tt (test_last (wpAny_mono h3 (fun u4 s4 h4 => thn h4 fun d' s5 ⟨z2, H5, I5, r5, k2, e2, q5⟩ => ?_) fun _ _ e => e))
      subst e2
      cases r5
      exact wpAny_truthy_bool ⟨H5, I5, q5⟩
/-! ### not, and, or, if else -/
theorem tb_seq (zm : ZMono Z) {γ δ : Type} {Rl2 : Hp → Mp → γ → δ → Prop} {f : KF.Env → Store → R Bool} {k : KF.Env → Bool → Store → R γ} {σ : L2.St} {H : Hp} {Q : δ → Hp → Prop} (w : tE L W Z Rl2 (fun env S => (f env S).bind fun x S1 => k env x S1) σ H Q) :
    tBb L W Z f σ H fun b H1 => tE L W Z Rl2 (fun env S => k env b S) σ H1 Q := by
  refine (tE.seq (Rl := fun _ _ (d : Bool) b => d = b) zm (g := fun env x S1 => k env x S1) w).imp fun v H1 ⟨env, S1, m1, d, he, hs, r, q⟩ => ?_
  have r : d = v := r
  subst r
  exact ⟨env, S1, m1, he, hs, q⟩
theorem te_ok {γ δ : Type} {Rl2 : Hp → Mp → γ → δ → Prop} {x : γ} {v : δ} {σ : L2.St} {H : Hp} {Q : δ → Hp → Prop} (h : tE L W Z Rl2 (fun _ S => .ok x S) σ H Q) (r : ∀ H m, Rl2 H m x v) : Q v H := by
  obtain ⟨env, S, m, he, hs, k⟩ := h
  exact k.here hs (r H m)
theorem te_if {γ δ : Type} {Rl2 : Hp → Mp → γ → δ → Prop} {f1 f2 : KF.Env → Store → R γ} {x : Bool} {σ : L2.St} {H : Hp} {Q : δ → Hp → Prop} (h : tE L W Z Rl2 (fun env S => if x = true then f1 env S else f2 env S) σ H Q) :
    if x = true then tE L W Z Rl2 f1 σ H Q else tE L W Z Rl2 f2 σ H Q := by
  cases x with
  | true => rw [if_pos rfl]; exact h
  | false => rw [if_neg Bool.false_ne_true]; exact h
theorem if_imp {x : Bool} {A B C D : Prop} (h : if x = true then A else B) (k1 : A → C) (k2 : B → D) : if x = true then C else D := by
  cases x with
  | true => exact k1 h
  | false => exact k2 h
theorem if_bind {α : Type} {x : Bool} {r1 r2 : R D} {f : D → Store → R α} : (if x = true then r1 else r2).bind f = if x = true then r1.bind f else r2.bind f := by
  cases x <;> rfl
theorem e_not (G : Good t L g W Z X c) {f : Bool → Ev} {p : Pos} (h : SV L W Z X a f) :
    SV L W Z X (.UnaryOp .Not a p) (fun tm env S => if tm = true then ((f true env S).bind asB).bind fun x S1 => R.ok (D.bl (!x)) S1 else ((f false env S).bind (asT g)).bind fun x S1 => R.ok (D.bl (!x)) S1) := by
  refine ⟨⟨fun pins s σ H Q I w => ?_⟩, (pt_not h.2).imp fun σ H Q w => ?_⟩
  · have w2 : tD L W Z (fun env S => (f false env S).bind fun d S1 => (asT g d S1).bind fun x S1 => R.ok (D.bl (!x)) S1) σ H Q := tE.congr (fun env S => by
      show ((f false env S).bind (asT g)).bind (fun x S1 => R.ok (D.bl (!x)) S1) = _
      rw [R.bind_assoc]) w
    have w3 := tE.seq (Rl := RelD L) G.zm (g := fun env d S1 => (asT g d S1).bind fun x S1 => R.ok (D.bl (!x)) S1) w2
    refine UnaryOp_ (thn (h.1.run pins s σ H _ I w3) fun u s1 ⟨v, H1, I1, ru, env, S1, m1, d, he, hs, r, k⟩ => not_of ?_)
    refine thn (asT_run G (.inl rfl) I1 he.2.2.2 hs r ru (k.bind (Rl := fun _ _ (d : Bool) b => d = b))) fun b s2 ⟨H2, I2, m2, d2, S2, e2, s2', r2, k2⟩ => ?_
    have r2 : d2 = b := r2
    subst r2
    exact ⟨.bl (!d2), H2, I2, rfl, k2.here s2' rfl⟩
  · have w2 : tBb L W Z (fun env S => ((f true env S).bind asB).bind fun x S1 => R.ok (!x) S1) σ H Q := tE.congr (fun env S => by
      show (((f true env S).bind asB).bind (fun x S1 => R.ok (D.bl (!x)) S1)).bind asB = _
      rw [R.bind_assoc]; rfl) w
    exact (tE.seq (Rl := fun _ _ (d : Bool) b => d = b) G.zm (g := fun env x S1 => R.ok (!x) S1) w2).imp fun v H1 ⟨env, S1, m1, d, he, hs, r, k⟩ => k.here hs (by rw [r])
def SW (L : Lk) (W : WX) (Z : ZP) (X : Cx) (a : Expr) (f : Bool → Ev) : Prop := PE X a (tD L W Z (f false)) ∧ PW X a (tBb L W Z fun env S => (f true env S).bind asB)
theorem e_and (G : Good t L g W Z X c) {f1 f2 : Bool → Ev} {e : Expr} {es : List Expr} {p : Pos} (h1 : SV L W Z X a f1) (h2 : SW L W Z X (.BoolOp .And (e :: es) p) f2) :
    SW L W Z X (.BoolOp .And (a :: e :: es) p) (fun tm env S => ((f1 tm env S).bind asB).bind fun x S1 => if x = true then f2 tm env S1 else .ok (.bl false) S1) := by
  refine ⟨(pe_and h1.1 h2.1).imp fun σ H Q w => ?_, (pw_and h1.2 h2.2).imp fun σ H Q w => ?_⟩
  · refine tb_of G.zm ?_
    refine (tb_seq G.zm w).imp fun b H1 w1 => ?_
    exact if_imp (te_if w1) id fun w2 => te_ok w2 fun _ _ => rfl
  · have w' : tBb L W Z (fun env S => ((f1 true env S).bind asB).bind fun x S1 => if x = true then (f2 true env S1).bind asB else .ok false S1) σ H Q := tE.congr (fun env S => by
      rw [R.bind_assoc]
      congr 1
      funext x S1
      cases x <;> rfl) w
    refine (tb_seq G.zm w').imp fun b H1 w1 => ?_
    exact if_imp (te_if w1) id fun w2 => te_ok w2 fun _ _ => rfl
theorem e_or (G : Good t L g W Z X c) {f1 f2 : Bool → Ev} {e : Expr} {es : List Expr} {p : Pos} (h1 : SV L W Z X a f1) (h2 : SW L W Z X (.BoolOp .Or (e :: es) p) f2) :
    SW L W Z X (.BoolOp .Or (a :: e :: es) p) (fun tm env S => ((f1 tm env S).bind asB).bind fun x S1 => if x = true then .ok (.bl true) S1 else f2 tm env S1) := by
  refine ⟨(pe_or h1.1 h2.1).imp fun σ H Q w => ?_, (pw_or h1.2 h2.2).imp fun σ H Q w => ?_⟩
  · refine tb_of G.zm ?_
    refine (tb_seq G.zm w).imp fun b H1 w1 => ?_
    exact if_imp (te_if w1) (fun w2 => te_ok w2 fun _ _ => rfl) id
  · have w' : tBb L W Z (fun env S => ((f1 true env S).bind asB).bind fun x S1 => if x = true then .ok true S1 else (f2 true env S1).bind asB) σ H Q := tE.congr (fun env S => by
      rw [R.bind_assoc]
      congr 1
      funext x S1
      cases x <;> rfl) w
    refine (tb_seq G.zm w').imp fun b H1 w1 => ?_
    exact if_imp (te_if w1) (fun w2 => te_ok w2 fun _ _ => rfl) id
theorem e_one {f : Bool → Ev} (h : SV L W Z X a f) {p : Pos} : SW L W Z X (.BoolOp .And [a] p) f ∧ SW L W Z X (.BoolOp .Or [a] p) f :=
  ⟨⟨pe_one h.1, pw_and1 h.2⟩, ⟨pe_one h.1, pw_or1 h.2⟩⟩
theorem pt_ifExp {c : Expr} {tc ta tb : TT} {p : Pos} (hc : PT X c tc) (ha : PT X a ta) (hb : PT X b tb) : PT X (.IfExp c a b p) (fun σ H Q => tc σ H fun x H1 => if x = true then ta σ H1 Q else tb σ H1 Q) := by
  refine ⟨fun pins s σ H Q I h => ?_⟩
  refine isTrue_IfExp (thn (hc.run pins s σ H _ I h) fun d s1 ⟨H1, I1, q1⟩ => ?_)
  cases d with
  | true => exact ha.run pins s1 σ H1 Q I1 q1
  | false => exact hb.run pins s1 σ H1 Q I1 q1
theorem e_ite (G : Good t L g W Z X c) {fc fa fb : Bool → Ev} {q : Expr} {p : Pos} (hc : SV L W Z X q fc) (ha : SV L W Z X a fa) (hb : SV L W Z X b fb) :
    SV L W Z X (.IfExp q a b p) (fun tm env S => ((fc true env S).bind asB).bind fun x S1 => if x = true then fa tm env S1 else fb tm env S1) := by
  refine ⟨(pe_ifExp hc.2 ha.1 hb.1).imp fun σ H Q w => ?_, (pt_ifExp hc.2 ha.2 hb.2).imp fun σ H Q w => ?_⟩
  · exact (tb_seq G.zm w).imp fun b H1 w1 => te_if w1
  · have w' : tBb L W Z (fun env S => ((fc true env S).bind asB).bind fun x S1 => if x = true then (fa true env S1).bind asB else (fb true env S1).bind asB) σ H Q := tE.congr (fun env S => by
      rw [R.bind_assoc]
      congr 1
      funext x S1
      cases x <;> rfl) w
    exact (tb_seq G.zm w').imp fun b H1 w1 => te_if w1
end
end KF

set_option Elab.async false
set_option linter.all false
set_option maxRecDepth 100000
set_option maxHeartbeats 4000000
/-! V7: soundness: arguments, displays, calls -/
namespace KF
open PySem PySem.Spec PyProof.Rows L2
section
variable {t : Tb} {L : Lk} {g : Cfg} {W : WX} {Z : ZP} {X : Cx} {c : Cc} {a b : Expr}
/-! ### arguments -/
theorem a_nil : PA X [] (tDs L W Z fun _ S => .ok [] S) := pa_nil.imp fun σ H Q h => te_ok h fun _ _ => rfl
theorem a_cons (G : Good t L g W Z X c) {f : Ev} {fs : KF.Env → Store → R (List D)} {e : Expr} {es : List Expr} (hn : notStar e = true) (he : PE X e (tD L W Z f)) (hr : PA X es (tDs L W Z fs)) :
    PA X (e :: es) (tDs L W Z fun env S => (f env S).bind fun x S1 => (fs env S1).bind fun xs S2 => .ok (x :: xs) S2) := by
  refine (pa_cons he hr (star_cons hn)).imp fun σ H Q w => ?_
  refine (tE.seq (Rl := RelD L) G.zm (g := fun env x S1 => (fs env S1).bind fun xs S2 => R.ok (x :: xs) S2) w).imp fun v H1 ⟨env, S1, m1, d, he, hs, r, k⟩ => ?_
  refine ⟨env, S1, m1, he, hs, k.bind.imp fun vs H2 ⟨m2, ds, S2, e2, s2, r2, k2⟩ => ?_⟩
  exact k2.here s2 ⟨v, vs, rfl, r.mono e2.mono, r2⟩
theorem a_star (G : Good t L g W Z X c) {f : Ev} {fs : KF.Env → Store → R (List D)} {e : Expr} {es : List Expr} {p : Pos} (he : PE X e (tD L W Z f)) (hr : PA X es (tDs L W Z fs)) :
    PA X (.Starred e p :: es) (tDs L W Z fun env S => (f env S).bind fun x S1 => (starD S1 x).bind fun ys S2 => (fs env S2).bind fun xs S3 => .ok (ys ++ xs) S3) := by
  refine (StX.pa_star he hr).imp fun σ H Q w => ?_
  refine (tE.seq (Rl := RelD L) G.zm (g := fun env x S1 => (starD S1 x).bind fun ys S2 => (fs env S2).bind fun xs S3 => R.ok (ys ++ xs) S3) w).imp fun v H1 ⟨env, S1, m1, d, he, hs, r, k⟩ => ?_
  unfold starD at k
  split at k
  · rename_i ys q
    obtain ⟨aa, vs, rfl, hr, hq⟩ := items_sq hs r q
    have k : Cont L W σ (RelDs L) Q H1 m1 ((fs env S1).bind fun xs S3 => R.ok (ys ++ xs) S3) := k
    refine ⟨aa, vs, rfl, by rw [G.K]; exact hq.symm, env, S1, m1, he, hs, k.bind.imp fun ws H2 ⟨m2, ds, S2, e2, s2, r2, k2⟩ => ?_⟩
    exact k2.here s2 ((RelDs.mono e2.mono _ _ hr).app r2)
  · exact k.elim
/-! ### displays -/
theorem e_tup (G : Good t L g W Z X c) {fs : KF.Env → Store → R (List D)} {es : List Expr} {k : Nat} {p : Pos} (h : PA X es (tDs L W Z fs)) :
    PE X (.Tuple es k p) (tD L W Z fun env S => (fs env S).bind fun ds S1 => if ds.length ≤ sizeLine then .ok (.tup ds) S1 else .bad) := by
  refine (pe_tup h).imp fun σ H Q w => ?_
  refine (tE.seq (Rl := RelDs L) G.zm (g := fun env ds S1 => if ds.length ≤ sizeLine then R.ok (D.tup ds) S1 else R.bad) w).imp fun vs H1 ⟨env, S1, m1, ds, he, hs, r, k⟩ => ?_
  by_cases hl : ds.length ≤ sizeLine
  · rw [if_pos hl] at k
    refine ⟨by rw [r.length]; exact hl, fun p hp => ?_⟩
    exact k _ m1 _ (Ext.new hp) (hs.new hp) ⟨p, _, rfl, TupA.new hs hp, RelDs.mono (Mono.new hp) _ _ r⟩
  · rw [if_neg hl] at k
    exact k.elim
theorem loc_new {H : Hp} {m : Mp} {S : Store} {p : Addr} {ob : Ob} {H' : Hp} (s : RelS L H m S) : RelD L H' (m.push p) (.loc S.length) (.ref p) := by
  refine ⟨p, rfl, ?_⟩
  show (m.locs ++ [p])[S.length]? = _
  rw [List.getElem?_append_right (by rw [s.len]; exact Nat.le_refl _)]
  simp [s.len]
theorem e_lst (G : Good t L g W Z X c) {fz : Bool} {fs : KF.Env → Store → R (List D)} {es : List Expr} {p : Pos} (h : PA X es (tDs L W Z fs)) :
    PE X (.List es p) (tD L W Z fun env S => (fs env S).bind fun ds S1 => finL fz ds S1) := by
  refine (pe_lst h).imp fun σ H Q w => ?_
  refine (tE.seq (Rl := RelDs L) G.zm (g := fun env ds S1 => finL fz ds S1) w).imp fun vs H1 ⟨env, S1, m1, ds, he, hs, r, k⟩ => ?_
  unfold finL at k
  by_cases hl : ds.length ≤ sizeLine
  · rw [if_pos hl] at k
    refine ⟨by rw [r.length]; exact hl, fun p hp => ?_⟩
    cases fz with
    | true =>
      rw [if_pos rfl] at k
      exact k _ m1 _ (Ext.new hp) (hs.new hp) ⟨p, _, rfl, LstA.new hs hp, RelDs.mono (Mono.new hp) _ _ r⟩
    | false =>
      rw [if_neg Bool.false_ne_true] at k
      exact k _ (m1.push p) _ (Ext.push hp) (hs.push hp r) (loc_new (ob := .lst ds) hs)
  · rw [if_neg hl] at k
    exact k.elim
/-! ### calls -/
theorem e_call (G : Good t L g W Z X c) {f : Nat} {n : Nat} {fs : KF.Env → Store → R (List D)} {x : Str} {e : Expr} {es : List Expr} {p p2 : Pos} (hc : calmB c = true) (hf : t.fnN[f]? = some (x, n)) (hg : glB c.sc x = true) (hd : dunB x = true) (hn : (e :: es).all notStar = true)
    (ha : PA X (e :: es) (tDs L W Z fs)) :
    PE X (.Call (.Name x p) (e :: es) [] p2) (tD L W Z fun env S => (fs env S).bind fun ds S1 => g.call f ds S1) := by
  obtain ⟨aa, e1, CO⟩ := G.call (calm_of hc) f x _ hf
  have hk := CO
  obtain ⟨_, _, _, _, hk, _⟩ := hk
  obtain ⟨d1, d2⟩ := dun_ok hd
  rw [List.all_cons, Bool.and_eq_true] at hn
  refine ⟨fun pins s σ H Q I w => ?_⟩
  have w2 := tE.seq (Rl := RelDs L) G.zm (g := fun env ds S1 => g.call f ds S1) w
  refine wpAny_Call_Name_kw (ld_glob I (gl_of G hg) e1 ?_ d1)
  refine PySem.W.callWith_K (h₀ := X.base) I.ok.mod.kin hk (thn (ha.run p2 pins s σ H _ I w2) fun us s1 ⟨vs, H1, I1, r, env, S1, m1, ds, he, hs, rd, k⟩ => ⟨I1.kIn, ?_⟩) (star_cons hn.1) (star_any hn.2)
  exact call_run (g := g) CO (.inl rfl) G.tk I1 he.2.2.2 hs rd r k
theorem e_call0 (G : Good t L g W Z X c) {f : Nat} {n : Nat} {x : Str} {p p2 : Pos} (hc : calmB c = true) (hf : t.fnN[f]? = some (x, n)) (hg : glB c.sc x = true) (hd : dunB x = true) :
    PE X (.Call (.Name x p) [] [] p2) (tD L W Z fun env S => g.call f [] S) := by
  obtain ⟨aa, e1, CO⟩ := G.call (calm_of hc) f x _ hf
  have hk := CO
  obtain ⟨_, _, _, _, hk, _⟩ := hk
  obtain ⟨d1, d2⟩ := dun_ok hd
  refine ⟨fun pins s σ H Q I w => ?_⟩
  obtain ⟨env, S, m, he, hs, k⟩ := w
  refine wpAny_Call_Name_kw (ld_glob I (gl_of G hg) e1 ?_ d1)
  exact PySem.W.callWith_K0 I.kIn hk (call_run (g := g) (ds := []) (vs := []) CO (.inl rfl) G.tk I he.2.2.2 hs rfl .nil k)
theorem bi_cases (b : Bi) : (∃ id, b.py = .builtin id ∧ bootBuiltins b.nm = some (.builtin id)) ∨ (∃ T, b.py = .type T ∧ bootBuiltins b.nm = some (.type T)) := by
  cases b
  · exact .inl ⟨_, rfl, by decide +kernel⟩
  · exact .inl ⟨_, rfl, by decide +kernel⟩
  · exact .inl ⟨_, rfl, by decide +kernel⟩
  · exact .inr ⟨_, rfl, by decide +kernel⟩
  · exact .inr ⟨_, rfl, by decide +kernel⟩
  · exact .inr ⟨_, rfl, by decide +kernel⟩
  · exact .inl ⟨_, rfl, by decide +kernel⟩
  · exact .inl ⟨_, rfl, by decide +kernel⟩
  · exact .inl ⟨_, rfl, by decide +kernel⟩
  · exact .inl ⟨_, rfl, by decide +kernel⟩
  · exact .inr ⟨_, rfl, by decide +kernel⟩
  · exact .inr ⟨_, rfl, by decide +kernel⟩
  · exact .inr ⟨_, rfl, by decide +kernel⟩
  · exact .inr ⟨_, rfl, by decide +kernel⟩
  · exact .inl ⟨_, rfl, by decide +kernel⟩
theorem bi_nm (b : Bi) : b.nm ≠ ("__name__" : Str) ∧ (b.nm == ("__debug__" : Str)) = false := by cases b <;> exact ⟨by decide +kernel, by decide +kernel⟩
/-- what a built-in gives -/
def biR (g : Cfg) (b : Bi) (ds : List D) (S : Store) : R D := match b, ds with
  | .bool, [d] => (asT g d S).bind fun t S2 => .ok (.bl t) S2
  | .bool, _ => .bad
  | .dict, ds => (match dDict S ds with
    | some (ks, vs) => finD false ks vs S
    | none => .bad)
  | .lstM, ds => (match dbi S .list ds with
    | some (.lst xs) => .ok (.loc S.length) (S ++ [.lst xs])
    | _ => .bad)
  | .srtM, ds => (match dbi S .sorted ds with
    | some (.lst xs) => .ok (.loc S.length) (S ++ [.lst xs])
    | _ => .bad)
  | b, ds => lift (dbi S b ds) S
theorem finD_go {H : Hp} {m : Mp} {S : Store} {ks vs : List D} {kvs : List (Key × V)} {Q : VK} {σ : L2.St} {p : Addr} (k : Cont L W σ (RelD L) Q H m (finD false ks vs S)) (hs : RelS L H m S) (hp : H p = none) (h3 : mapO fkey ks = some (kvs.map (·.1))) (hr : RelDs L H m vs (kvs.map (·.2))) :
    Q (.ref p) (upd H p (.dK kvs)) :=
  have k : Cont L W σ (RelD L) Q H m (.ok (.loc S.length) (S ++ [.dic false ks vs])) := k
  k _ (m.push p) _ (Ext.push hp) (hs.pushO (ob := .dic false ks vs) hp ⟨_, _, upd_same, ⟨kvs, rfl, h3, rfl⟩, RelDs.mono (Mono.push hp) _ _ hr⟩) (loc_new (ob := .dic false ks vs) hs)
theorem bi_run (G : Good t L g W Z X c) (hc : c.suite = none) {pins : List (Addr × Obj)} {σ : L2.St} {H : Hp} {s : Shared} {m : Mp} {S : Store} {b : Bi} {ds : List D} {vs : List V} {us : List Value} {Q : VK} (I : Inv X pins σ H s) (hT : m.T = L.T) (hs : RelS L H m S)
    (r : RelDs L H m ds vs) (ru : Vals vs us) (k : Cont L W σ (RelD L) Q H m (biR g b ds S)) : wpAny (model X.prog X.w) X.A (call b.py us) (EP X pins σ Q) X.xe s := by
  have plain : Cont L W σ (RelD L) Q H m (lift (dbi S b ds) S) → wpAny (model X.prog X.w) X.A (call b.py us) (EP X pins σ Q) X.xe s := by
    intro k
    cases q : dbi S b ds with
    | none => rw [q] at k; exact k.elim
    | some z =>
      rw [q] at k
      exact call_bi (L := L) G.K (G.calm hc) b pins s σ H vs us Q I ru ⟨ds, z, m, S, hs, r, q, k⟩
  have hbool : ∀ {ds : List D}, RelDs L H m ds vs → Cont L W σ (RelD L) Q H m (biR g .bool ds S) → wpAny (model X.prog X.w) X.A (call (Bi.py .bool) us) (EP X pins σ Q) X.xe s := by
    intro ds r k
    cases ds with
    | nil => exact k.elim
    | cons d ds =>
      cases ds with
      | cons _ _ => exact k.elim
      | nil =>
        have k : Cont L W σ (RelD L) Q H m ((asT g d S).bind fun t S2 => .ok (.bl t) S2) := k
        obtain ⟨v, rfl, r1⟩ := one_of r
        obtain ⟨u, rfl, ru1⟩ := vals1 ru
        refine call_boolAny (thn (asT_run G (.inr (.inr rfl)) I hT hs r1 ru1 (k.bind (Rl := fun _ _ (d : Bool) b => d = b))) fun bb s2 ⟨H2, I2, m2, d2, S2, e2, s2', r2, k2⟩ => ?_)
        have r2 : d2 = bb := r2
        subst r2
        exact ⟨.bl d2, H2, I2, rfl, k2.here s2' rfl⟩
  have hdict : Cont L W σ (RelD L) Q H m (biR g .dict ds S) → wpAny (model X.prog X.w) X.A (call (Bi.py .dict) us) (EP X pins σ Q) X.xe s := by
    clear k
    intro k0
    have k : Cont L W σ (RelD L) Q H m (match dDict S ds with
      | some (ks, vs) => finD false ks vs S
      | none => .bad) := k0
    clear k0
    split at k
    · rename_i ks vs' q
      unfold dDict at q
      split at q
      · obtain ⟨v, rfl, r1⟩ := one_of r
        split at q
        · rename_i q2
          cases q
          obtain ⟨a, us', rfl, ⟨o, h1, kvs, rfl, h3, rfl⟩, hr⟩ := dic_rd hs r1 q2
          exact call_dictD pins s σ H _ us Q I ru ⟨a, kvs, rfl, h1, fun p hp => finD_go k hs hp h3 hr⟩
        · cases q
      · cases q
    · exact k.elim
  have hM : ∀ b : Bi, (b = .list ∨ b = .sorted) → Cont L W σ (RelD L) Q H m (match dbi S b ds with
      | some (.lst xs) => .ok (.loc S.length) (S ++ [.lst xs])
      | _ => .bad) → wpAny (model X.prog X.w) X.A (call (Bi.py b) us) (EP X pins σ Q) X.xe s := by
    intro b hb k
    split at k
    · rename_i xs q
      exact call_biM (L := L) G.K (G.calm hc) b hb pins s σ H vs us Q I ru ⟨ds, xs, m, S, hs, r, q, fun p ws hp rw_ => k _ (m.push p) _ (Ext.push hp) (hs.pushO (ob := .lst xs) hp ⟨_, upd_same, RelDs.mono (Mono.push hp) _ _ rw_⟩) (loc_new (ob := .lst xs) hs)⟩
    · exact k.elim
  cases b
  case bool => exact hbool r k
  case dict => exact hdict k
  case lstM => exact hM .list (.inl rfl) k
  case srtM => exact hM .sorted (.inr rfl) k
  all_goals exact plain k
theorem e_bi (G : Good t L g W Z X c) {b : Bi} {fs : KF.Env → Store → R (List D)} {x : Str} {e : Expr} {es : List Expr} {p p2 : Pos} (hc : calmB c = true) (hb : bltB t c x b.nm = true) (hn : (e :: es).all notStar = true) (ha : PA X (e :: es) (tDs L W Z fs)) :
    PE X (.Call (.Name x p) (e :: es) [] p2) (tD L W Z fun env S => (fs env S).bind fun ds S1 => biR g b ds S1) := by
  obtain ⟨rfl, h1, h2⟩ := blt_of G hb
  obtain ⟨n1, n2⟩ := bi_nm b
  rw [List.all_cons, Bool.and_eq_true] at hn
  refine ⟨fun pins s σ H Q I w => ?_⟩
  -- the frame's slots are those of this state
  have hcb : ∀ (pins : List (Addr × Obj)) (s : Shared) (H : Hp) (vs : List V) (us : List Value) (Q : VK), Inv X pins σ H s → Vals vs us → (∃ ds S m, m.T = L.T ∧ RelS L H m S ∧ RelDs L H m ds vs ∧ Cont L W σ (RelD L) Q H m (biR g b ds S)) →
      wpAny (model X.prog X.w) X.A (call b.py us) (EP X pins σ Q) X.xe s := fun pins s H vs us Q I ru ⟨ds, S, m, hT, hs, rd, k⟩ => bi_run G (calm_of hc) I hT hs rd ru k
  have w2 := tE.seq (Rl := RelDs L) G.zm (g := fun env ds S1 => biR g b ds S1) w
  have fin : ∀ {us : List Value} {s1 : Shared}, AP X pins σ (fun vs H1 => ∃ env S1 m1 ds, RelE L Z H1 m1 env σ ∧ RelS L H1 m1 S1 ∧ RelDs L H1 m1 ds vs ∧ Cont L W σ (RelD L) Q H1 m1 (biR g b ds S1)) us s1 → wpAny (model X.prog X.w) X.A (call b.py us) (EP X pins σ Q) X.xe s1 := by
    rintro us s1 ⟨vs, H1, I1, ru, env, S1, m1, ds, he, hs, rd, k⟩
    exact hcb _ _ _ _ _ _ I1 ru ⟨ds, S1, m1, he.2.2.2, hs, rd, k⟩
  rcases bi_cases b with ⟨id, q1, q2⟩ | ⟨T, q1, q2⟩
  · rw [q1] at fin
    refine wpAny_Call_Name_kw (ld_blt I h1 h2 q2 ?_ n1 n2)
    exact PyProof.Rows.callWith_builtin1 (thn (ha.run p2 pins s σ H _ I w2) fun us s1 q => fin q) (star_cons hn.1) (star_any hn.2)
  · rw [q1] at fin
    refine wpAny_Call_Name_kw (ld_blt I h1 h2 q2 ?_ n1 n2)
    exact PyProof.Rows.callWith_type1 (thn (ha.run p2 pins s σ H _ I w2) fun us s1 q => fin q) (star_cons hn.1) (star_any hn.2)
end
end KF

set_option Elab.async false
set_option linter.all false
set_option maxRecDepth 100000
set_option maxHeartbeats 4000000
/-! V7b: soundness: slices, fields, instances made, methods -/
namespace KF
open PySem PySem.Spec PyProof.Rows L2
section
variable {t : Tb} {L : Lk} {g : Cfg} {W : WX} {Z : ZP} {X : Cx} {c : Cc} {a b : Expr}
theorem rng_rel {H : Hp} {m : Mp} (k : Int) : ∀ l : List Nat, RelDs L H m (l.map fun (i : Nat) => D.int (k + (i : Int))) (l.map fun (i : Nat) => V.int (k + (i : Int)))
  | [] => rfl
  | i :: l => ⟨_, _, rfl, rfl, rng_rel k l⟩
theorem e_lrng (G : Good t L g W Z X c) {f : Ev} {x y : Str} {e : Expr} {p p2 p3 p4 : Pos} (hc : calmB c = true) (hb : bltB t c x "list" = true) (hb2 : bltB t c y "range" = true) (hn : notStar e = true) (he : PE X e (tD L W Z f)) :
    PE X (.Call (.Name x p) [.Call (.Name y p2) [e] [] p3] [] p4) (tD L W Z fun env S => (f env S).bind fun x S1 => match x with
    | .int n => if 0 ≤ n ∧ n ≤ 1000000 then .ok (.lst (rngD 0 n)) S1 else .bad
    | _ => .bad) := by
  obtain ⟨rfl, h1, h2⟩ := blt_of G hb
  obtain ⟨rfl, h3, h4⟩ := blt_of G hb2
  refine (pe_listRg (G.calm (calm_of hc)) h1 h2 (prg_1 h3 h4 he (star_cons hn)) (star_cons rfl)).imp fun σ H Q w => ?_
  refine (tE.seq (Rl := RelD L) G.zm (g := fun env x S1 => (match x with
    | .int n => if 0 ≤ n ∧ n ≤ 1000000 then R.ok (D.lst (rngD 0 n)) S1 else R.bad
    | _ => R.bad)) w).imp fun v H1 ⟨env, S1, m1, d, he, hs, r, k⟩ => ?_
  cases d <;> try exact k.elim
  rename_i n
  by_cases hn : 0 ≤ n ∧ n ≤ 1000000
  · dsimp only at k
    rw [if_pos hn] at k
    refine ⟨n, r, .of_le (Int.le_refl 0) (by omega) (by omega) hn.1, fun q hq => ?_⟩
    refine k _ m1 _ (Ext.new hq) (hs.new hq) ⟨q, _, rfl, LstA.new hs hq, ?_⟩
    have e : rgV 0 n = (List.range (n - 0).toNat).map fun (i : Nat) => V.int (0 + (i : Int)) := by unfold rgV; rfl
    rw [e]
    exact rng_rel 0 _
  · dsimp only at k
    rw [if_neg hn] at k
    exact k.elim
/-! ### slices -/
theorem RelDs.drop {H : Hp} {m : Mp} : ∀ (n : Nat) {xs : List D} {vs : List V}, RelDs L H m xs vs → RelDs L H m (xs.drop n) (vs.drop n)
  | 0, xs, vs, h => by simpa using h
  | n + 1, [], vs, h => by rw [show vs = [] from h]; rfl
  | n + 1, x :: xs, vs, h => by
    obtain ⟨v, r, rfl, _, h3⟩ := h
    exact RelDs.drop n h3
theorem RelDs.take {H : Hp} {m : Mp} : ∀ (n : Nat) {xs : List D} {vs : List V}, RelDs L H m xs vs → RelDs L H m (xs.take n) (vs.take n)
  | 0, xs, vs, h => by simp; rfl
  | n + 1, [], vs, h => by rw [show vs = [] from h]; rfl
  | n + 1, x :: xs, vs, h => by
    obtain ⟨v, r, rfl, h2, h3⟩ := h
    exact ⟨v, r.take n, rfl, h2, RelDs.take n h3⟩
theorem RelDs.cut {H : Hp} {m : Mp} {xs : List D} {vs : List V} (h : RelDs L H m xs vs) (lo hi : Option Int) : RelDs L H m (cutL xs lo hi) (cutV vs lo hi) := by
  unfold cutL cutV
  rw [h.length]
  exact (h.drop _).take _
theorem RelDs.rev {H : Hp} {m : Mp} : ∀ {xs : List D} {vs : List V}, RelDs L H m xs vs → RelDs L H m xs.reverse vs.reverse
  | [], vs, h => by rw [show vs = [] from h]; rfl
  | x :: xs, vs, h => by
    obtain ⟨v, r, rfl, h2, h3⟩ := h
    rw [List.reverse_cons, List.reverse_cons]
    exact (RelDs.rev h3).app (.one h2)
/-- a part of a slice -/
def prtV (b : Bool) (v : V) : Option (Option Int) := if b = true then some none else match v with
  | .int i => some (some i)
  | _ => none
theorem prt_rel {H : Hp} {m : Mp} {b : Bool} {d : D} {v : V} {o : Option Int} (r : RelD L H m d v) (h : prt b d = some o) : prtV b v = some o := by
  unfold prt at h
  unfold prtV
  cases b with
  | true => exact h
  | false =>
    rw [if_neg Bool.false_ne_true] at h ⊢
    cases d <;> try (cases h; done)
    rw [show v = _ from r]
    exact h
def tPt (L : Lk) (W : WX) (Z : ZP) (b : Bool) (f : Ev) : TO := fun σ H Q => tD L W Z f σ H fun v H1 => ∃ o, prtV b v = some o ∧ Q o H1
theorem part_none : PO X none (tPt L W Z true (fun _ S => .ok .non S)) := by
  refine ⟨fun pins s σ H Q I w => ?_⟩
  obtain ⟨env, S, m, he, hs, k⟩ := w
  obtain ⟨i, e, q⟩ := k.here hs (v := V.non) rfl
  cases e
  exact po_none.run pins s σ H Q I q
theorem part_some {f : Ev} {e : Expr} (he : PE X e (tD L W Z f)) : PO X (some e) (tPt L W Z false f) := by
  refine ⟨fun pins s σ H Q I w => (po_some he).run pins s σ H Q I (tE.imp (fun v H1 ⟨o, e, q⟩ => ?_) w)⟩
  unfold prtV at e
  rw [if_neg Bool.false_ne_true] at e
  cases v <;> try (cases e; done)
  cases e
  exact ⟨_, rfl, q⟩
def sliceR (L : Lk) : V → Option Int → Option Int → Hp → VK → Prop := fun x lo hi H Q => ∃ d z m S, RelS L H m S ∧ RelD L H m d x ∧ dslc S d lo hi = some z ∧ ∀ H' m' v, Ext H m H' m' → RelS L H' m' S → RelD L H' m' z v → Q v H'
theorem sl_all (hK : X.K = L.K) : SlR X (sliceR L) := by
  intro pins s σ H x v vl vu lo hi sl Q I rx hs0 pl pu h
  obtain ⟨d, z, m, S, hs, r, hz, k⟩ := h
  unfold dslc at hz
  have lst : ∀ {xs : List D}, lstOf S d = some xs → z = .lst (cutL xs lo hi) → ∃ T id, typeLookup (.type T) "__getitem__" = pure (some (.builtin id)) ∧ s.TypeIs v T ∧ wpAny (model X.prog X.w) X.A (getItem v (.ref sl)) (EP X pins σ Q) X.xe s := by
    intro xs e ez
    subst ez
    obtain ⟨a, vs, rfl, hr, hq⟩ := lst_sq hs r e
    exact sl_list pins s σ H _ v vl vu lo hi sl Q I rx hs0 pl pu ⟨a, vs, rfl, .inl hq, fun p hp => k _ m _ (Ext.new hp) (hs.new hp) ⟨p, _, rfl, LstA.new hs hp, RelDs.mono (Mono.new hp) _ _ (hr.cut lo hi)⟩⟩
  split at hz
  · rename_i xs
    cases hz
    obtain ⟨a, vs, rfl, ha, hr⟩ := id r
    refine sl_tupA pins s σ H _ v vl vu lo hi sl Q I rx hs0 pl pu ⟨a, vs, rfl, by rw [hK]; exact ha.sq, fun hw => ?_, fun _ p hp => ?_⟩
    · refine k H m _ (Ext.refl H m) hs ?_
      have e : cutL xs lo hi = xs := by
        rw [hr.length] at hw
        unfold cutL
        rw [hw.1, hw.2]
        simp
      rw [e]
      exact ⟨a, vs, rfl, ha, hr⟩
    · exact k _ m _ (Ext.new hp) (hs.new hp) ⟨p, _, rfl, TupA.new hs hp, RelDs.mono (Mono.new hp) _ _ (hr.cut lo hi)⟩
  · split at hz
    · rename_i y hl
      cases hz
      have r : x = .str y := r
      subst r
      exact sl_str pins s σ H _ v vl vu lo hi sl Q I rx hs0 pl pu ⟨y, rfl, hl, k H m _ (Ext.refl H m) hs (by
        show V.str _ = V.str _
        unfold cutS cutL
        have : y.cps.toList.length = y.length := by rw [Array.length_toList]; rfl
        rw [this])⟩
    · cases hz
  · split at hz
    · rename_i xs q
      exact lst q (Option.some.inj hz).symm
    · cases hz
theorem e_slc (G : Good t L g W Z X c) {b1 b2 : Bool} {fa fl fh : Ev} {e : Expr} {lo hi : Option Expr} {p p2 : Pos} (he : PE X e (tD L W Z fa)) (hl : PO X lo (tPt L W Z b1 fl)) (hh : PO X hi (tPt L W Z b2 fh)) :
    PE X (.Subscript e (.Slice lo hi none p2) p) (tD L W Z fun env S => (fa env S).bind fun x S1 => (fl env S1).bind fun y S2 => match prt b1 y with
      | some lo => (fh env S2).bind fun z S3 => (match prt b2 z with
        | some hi => lift (dslc S3 x lo hi) S3
        | none => .bad)
      | none => .bad) := by
  refine (pe_slice (sl_all (L := L) G.K) he hl hh).imp fun σ H Q w => ?_
  refine (tE.seq (Rl := RelD L) G.zm (g := fun env x S1 => (fl env S1).bind fun y S2 => match prt b1 y with
      | some lo => (fh env S2).bind fun z S3 => (match prt b2 z with
        | some hi => lift (dslc S3 x lo hi) S3
        | none => R.bad)
      | none => R.bad) w).imp fun v H1 ⟨env, S1, m1, x, hE, hs, r, k⟩ => ?_
  refine ⟨env, S1, m1, hE, hs, k.bind.imp fun v2 H2 ⟨m2, y, S2, e2, s2, r2, k2⟩ => ?_⟩
  split at k2
  · rename_i o1 q1
    refine ⟨o1, prt_rel r2 q1, env, S2, m2, (hE.mono G.zm e2.mono), s2, k2.bind.imp fun v3 H3 ⟨m3, z, S3, e3, s3, r3, k3⟩ => ?_⟩
    split at k3
    · rename_i o2 q2
      refine ⟨o2, prt_rel r3 q2, ?_⟩
      cases q3 : dslc S3 x o1 o2 with
      | none => rw [q3] at k3; exact k3.elim
      | some zz =>
        rw [q3] at k3
        exact ⟨x, zz, m3, S3, s3, (r.mono e2.mono).mono e3.mono, q3, k3⟩
    · exact k3.elim
  · exact k2.elim
theorem e_rev (G : Good t L g W Z X c) {fa : Ev} {e : Expr} {k : Nat} {p1 p2 p3 p : Pos} (he : PE X e (tD L W Z fa)) : PE X (.Subscript e (.Slice none none (some (.UnaryOp .USub (.Constant (.int 1) k p1) p2)) p3) p) (tD L W Z fun env S => (fa env S).bind fun x S1 => lift (drev S1 x) S1) := by
  refine (pe_revL he).imp fun σ H Q w => ?_
  refine (tE.seq (Rl := RelD L) G.zm (g := fun env x S1 => lift (drev S1 x) S1) w).imp fun v H1 ⟨env, S1, m1, x, hE, hs, r, k⟩ => ?_
  unfold drev at k
  split at k
  · rename_i xs q
    obtain ⟨a, vs, rfl, hr, hq⟩ := lst_sq hs r q
    exact ⟨a, vs, rfl, .inl hq, fun p hp => k _ m1 _ (Ext.new hp) (hs.new hp) ⟨p, _, rfl, LstA.new hs hp, RelDs.mono (Mono.new hp) _ _ hr.rev⟩⟩
  · exact k.elim
/-! ### fields -/
theorem placeOf_get {f : Str} : ∀ {l : List Str} {n i : Nat}, placeOf f l n = some i → n ≤ i ∧ l[i - n]? = some f
  | [], _, _, h => by cases h
  | x :: r, n, i, h => by
    unfold placeOf at h
    split at h
    · rename_i e
      cases h
      exact ⟨Nat.le_refl _, by simp [e]⟩
    · obtain ⟨h1, h2⟩ := placeOf_get h
      have e : i - n = (i - (n + 1)) + 1 := by omega
      exact ⟨by omega, by rw [e]; simpa using h2⟩
theorem RelF.get {H : Hp} {m : Mp} : ∀ {fs : List (Option D)} {us : List (Option V)} {i : Nat} {d : D}, RelF L H m fs us → fs[i]? = some (some d) → ∃ v, us[i]? = some (some v) ∧ RelD L H m d v
  | [], us, i, d, _, e => by simp at e
  | none :: r, us, 0, d, h, e => by simp at e
  | none :: r, us, i + 1, d, h, e => by
    obtain ⟨s, rfl, h2⟩ := h
    obtain ⟨v, a, b⟩ := RelF.get h2 (i := i) (by simpa using e)
    exact ⟨v, by simpa using a, b⟩
  | some x :: r, us, 0, d, h, e => by
    obtain ⟨v, s, rfl, h2, _⟩ := h
    simp at e; subst e
    exact ⟨v, by simp, h2⟩
  | some x :: r, us, i + 1, d, h, e => by
    obtain ⟨v, s, rfl, _, h3⟩ := h
    obtain ⟨w, a, b⟩ := RelF.get h3 (i := i) (by simpa using e)
    exact ⟨w, by simpa using a, b⟩
theorem relF_some {H : Hp} {m : Mp} : ∀ {ds : List D} {vs : List V}, RelDs L H m ds vs → RelF L H m (ds.map some) (vs.map some)
  | [], vs, h => by rw [show vs = [] from h]; rfl
  | x :: xs, vs, h => by
    obtain ⟨v, r, rfl, h2, h3⟩ := h
    exact ⟨v, r.map some, rfl, h2, relF_some h3⟩
/-- an instance and its fields, to be read -/
theorem fld_rd {S : Store} {H : Hp} {m : Mp} {d : D} {v : V} {k : Nat} {fs : List (Option D)} (s : RelS L H m S) (r : RelD L H m d v) (h : fldsOf S d = some (k, fs)) : ∃ a us, v = .ref a ∧ InsH L H k a us ∧ RelF L H m fs us := by
  cases d with
  | ins c fs' =>
    cases h
    obtain ⟨a, us, e, _, _, h4, h5⟩ := r
    exact ⟨a, _, e, h4, relF_some h5⟩
  | loc n =>
    obtain ⟨a, rfl, ha⟩ := r
    unfold fldsOf at h
    dsimp only at h
    split at h
    · rename_i q
      cases h
      obtain ⟨b, e1, us, e2, e3⟩ := s.at_ n _ q
      rw [ha] at e1; cases e1
      exact ⟨a, us, rfl, e2, e3⟩
    · cases h
  | _ => cases h
theorem cls_lt (G : Good t L g W Z X c) {k : Nat} {f : Str} (h : f ∈ L.cf k) : k < t.clN.length := by
  rcases Nat.lt_or_ge k t.clN.length with z | z
  · exact z
  · rw [G.big k z] at h; cases h
theorem field_rd (G : Good t L g W Z X c) {S : Store} {H : Hp} {m : Mp} {d z : D} {v : V} {f : Str} (s : RelS L H m S) (r : RelD L H m d v) (h : fieldOf g S d f = some z) :
    ∃ a k dx as w, v = .ref a ∧ k < t.clN.length ∧ f ∈ L.cf k ∧ H a = some (.ins (L.ca k) dx as) ∧ as.lookup f = some w ∧ RelD L H m z w := by
  unfold fieldOf at h
  split at h
  · rename_i k fs q
    split at h
    · rename_i i q2
      obtain ⟨a, us, rfl, ⟨dx, as, h1, h2, h3, h4⟩, hF⟩ := fld_rd s r q
      rw [G.cf] at q2
      obtain ⟨_, g2⟩ := placeOf_get q2
      rw [Nat.sub_zero] at g2
      have hm : f ∈ L.cf k := List.mem_of_getElem? g2
      cases q3 : fs[i]? with
      | none => rw [q3] at h; cases h
      | some o =>
        rw [q3] at h
        have h : o = some z := h
        subst h
        obtain ⟨w, e1, e2⟩ := hF.get q3
        exact ⟨a, k, dx, as, w, rfl, cls_lt G hm, hm, h1, by rw [h3 i f g2, e1]; rfl, e2⟩
    · cases h
  · cases h
theorem e_at (G : Good t L g W Z X c) {fa : Ev} {f : Str} {e : Expr} {p : Pos} (hb : plainBase e = true) (he : PE X e (tD L W Z fa)) : PE X (.Attribute e f p) (tD L W Z fun env S => (fa env S).bind fun x S1 => lift (fieldOf g S1 x f) S1) := by
  refine (pe_fld he (plainBase_ok hb f _ _)).imp fun σ H Q w => ?_
  refine (tE.seq (Rl := RelD L) G.zm (g := fun env x S1 => lift (fieldOf g S1 x f) S1) w).imp fun v H1 ⟨env, S1, m1, x, hE, hs, r, k⟩ => ?_
  cases q : fieldOf g S1 x f with
  | none => rw [q] at k; exact k.elim
  | some z =>
    rw [q] at k
    obtain ⟨a, kk, dx, as, w, rfl, hk, hm, h1, h2, h3⟩ := field_rd G hs r q
    have C := (G.cls kk _ (List.getElem?_eq_getElem hk)).2
    exact ⟨a, _, dx, as, w, rfl, h1, C.cls, C.no f hm, h2, k.here hs h3⟩
/-! ### an instance is made -/
theorem insH_new {H : Hp} {k : Nat} {x dx : Addr} : InsH L (upd (upd H dx (.own x)) x (.ins (L.ca k) dx [])) k x ((L.cf k).map fun _ => none) := by
  refine ⟨dx, [], upd_same, by simp, fun i f h => ?_, fun _ _ => rfl, List.nodup_nil⟩
  rw [List.getElem?_map, h]
  rfl
theorem relF_none {H : Hp} {m : Mp} : ∀ l : List Str, RelF L H m (l.map fun _ => none) (l.map fun _ => none)
  | [] => rfl
  | _ :: r => ⟨_, rfl, relF_none r⟩
/-- C(..): what may come out at these slots -/
theorem run_makeS {CX : CXT} {k : Nat} {f C : Addr} {fd : FuncData} {ps : List Str} {sp : Sp} {E : XK} {pins : List (Addr × Obj)} {σ : L2.St} {H : Hp} {s : Shared} {Q : VK} {us : List Value} {vs : List V} (M : Mk X.K C f) (F : FnOk X.prog X.w X.K X.mg X.base CX k f fd ps sp) (hr : Room (k + 1) X.A) (hb : Binds X.K fd ps [])
    (hx : PassesAt CX X σ E) (I : Inv X pins σ H s) (r : Vals vs us)
    (h : ∀ x dx, H x = none → H dx = none → dx ≠ x → sp (.ref x :: vs) (upd (upd H dx (.own x)) x (.ins C dx [])) (fun v H2 => v = .non ∧ Q (.ref x) H2) E) :
    wpAny (model X.prog X.w) X.A (call (.ref C) us) (EP X pins σ Q) X.xe s := by
  have hq := h (s.heap.objs.size + 1) s.heap.objs.size (I.hok.fresh (Nat.le_succ _)) (I.hok.fresh (Nat.le_refl _)) (Nat.ne_of_lt (Nat.lt_succ_self _))
  have I2 := Inv.made (C := C) I
  have r2 : Vals (V.ref (s.heap.objs.size + 1) :: vs) (Value.ref (s.heap.objs.size + 1) :: us) := .cons rfl r
  have hl : (Value.ref (s.heap.objs.size + 1) :: us).length = ps.length := by
    have e := r2.length
    rw [F.len _ _ _ _ hq] at e
    exact e.symm
  have b := hb { s with heap := (s.heap.push PySem.W.emptyDict).push (PySem.W.instObj C s.heap.objs.size) } (Value.ref (s.heap.objs.size + 1) :: us) I2.kIn (by rw [List.append_nil]; exact hl)
  rw [List.append_nil] at b
  refine wpAny_call (make_map (f := f) I.kIn M.makes M.init (beq_iff_eq.mp M.fn) (codeAny_mono (F.run _ X.stack _ _ ⟨Value.ref (s.heap.objs.size + 1) :: us, []⟩ (Value.ref (s.heap.objs.size + 1) :: us) _ _ E (hr.make C us [])
    (I2.env0.make C us []) b r2 hq) fun r s' hq' => ?_))
  cases r with
  | error e => exact hx pins _ _ e s' I2 hq'
  | ok fl =>
    cases fl with
    | ret u =>
      obtain ⟨v, H', I3, rv, ev, q3⟩ := I2.after hq'
      subst ev
      exact ⟨rv, ⟨V.ref (s.heap.objs.size + 1), H', I3, rfl, q3⟩⟩
    | next => exact False.elim hq'
    | brk => exact False.elim hq'
    | cont => exact False.elim hq'
/-- C(..): its __init__ is called -/
theorem mk_run (G : Good t L g W Z X c) {k : Nat} {x : Str} (hx : t.clN[k]? = some x) {f : Nat} (hf : g.mth k "__init__" = some f) {pins : List (Addr × Obj)} {σ : L2.St} {H1 : Hp} {s1 : Shared} {Q : VK} {us : List Value} {vs : List V} {m1 : Mp} {S1 : Store} {ds : List D}
    (I1 : Inv X pins σ H1 s1) (r : Vals vs us) (hT : m1.T = L.T) (hs : RelS L H1 m1 S1) (rd : RelDs L H1 m1 ds vs) (k1 : Cont L W σ (RelD L) Q H1 m1 (newO g k f ds S1)) : wpAny (model X.prog X.w) X.A (call (.ref (L.ca k)) us) (EP X pins σ Q) X.xe s1 := by
  obtain ⟨e1, C⟩ := G.cls k x hx
  obtain ⟨_, _, aa, hm, CO⟩ := G.mth k _ f hf
  obtain ⟨fd, ps, kk, n, h1, h2, h3, h4, h5, h6⟩ := CO
  unfold newO at k1
  refine run_makeS ⟨C.mks, hm.at_, hm.fn, C.kp⟩ h5 (h4.mono (by omega)) h2 (passAt G.tk σ) I1 r (fun xx dx hxx hdx hne => ?_)
  have hxx' : upd H1 dx (.own xx) xx = none := by rw [upd_ne hne.symm]; exact hxx
  have ex : Ext H1 m1 (upd (upd H1 dx (.own xx)) xx (.ins (L.ca k) dx [])) (m1.push xx) := (Ext.new hdx).trans (Ext.push hxx')
  have hs' : RelS L (upd (upd H1 dx (.own xx)) xx (.ins (L.ca k) dx [])) (m1.push xx) (S1 ++ [newI g k]) := by
    refine (hs.new hdx).pushO hxx' ⟨_, insH_new, ?_⟩
    rw [G.cf]
    exact relF_none _
  have hself : RelD L (upd (upd H1 dx (.own xx)) xx (.ins (L.ca k) dx [])) (m1.push xx) (.loc S1.length) (.ref xx) := loc_new (ob := newI g k) hs
  have hl : (D.loc S1.length :: ds).length = n := by
    by_cases z : (D.loc S1.length :: ds).length = n
    · exact z
    · rw [h6 _ _ z] at k1; exact k1.elim
  refine ⟨by rw [List.length_cons, rd.length]; exact hl, .loc S1.length :: ds, S1 ++ [newI g k], m1.push xx, ex.T.trans hT, hs', ⟨_, _, rfl, hself, RelDs.mono ex.mono _ _ rd⟩, ?_⟩
  refine Cont.toE (W := W) (σ := σ) ((Cont.ext ex k1).bind.imp fun v H2 ⟨m2, d, S2, e2, s2, r2, k2⟩ => ?_)
  cases d <;> try exact k2.elim
  have r2 : v = .non := r2
  exact ⟨r2, k2.here s2 (hself.mono e2.mono)⟩
theorem e_mk (G : Good t L g W Z X c) {k : Nat} {fs : KF.Env → Store → R (List D)} {x : Str} {e : Expr} {es : List Expr} {p p2 : Pos} (hx : t.clN[k]? = some x) (hg : glB c.sc x = true) (hd : dunB x = true) (hn : (e :: es).all notStar = true) (ha : PA X (e :: es) (tDs L W Z fs)) :
    PE X (.Call (.Name x p) (e :: es) [] p2) (tD L W Z fun env S => (fs env S).bind fun ds S1 => mkR g k ds S1) := by
  obtain ⟨d1, d2⟩ := dun_ok hd
  rw [List.all_cons, Bool.and_eq_true] at hn
  obtain ⟨e1, C⟩ := G.cls k x hx
  refine ⟨fun pins s σ H Q I w => ?_⟩
  have w2 := tE.seq (Rl := RelDs L) G.zm (g := fun env ds S1 => mkR g k ds S1) w
  refine wpAny_Call_Name_kw (ld_glob I (gl_of G hg) e1 ?_ d1)
  refine PySem.W.callWith_K (h₀ := X.base) I.ok.mod.kin C.kp (thn (ha.run p2 pins s σ H _ I w2) fun us s1 ⟨vs, H1, I1, r, env, S1, m1, ds, he, hs, rd, k1⟩ => ⟨I1.kIn, ?_⟩) (star_cons hn.1) (star_any hn.2)
  have hT : m1.T = L.T := he.2.2.2
  unfold mkR at k1
  split at k1
  · rename_i f hf
    split at k1
    · split at k1
      · rename_i hl
        have k2 := gc_ex (S := []) (shut_S hs) (fr_cont hs gc_emp k1)
        exact thn (mk_run G hx hf I1 r (show m1.shut.T = L.T from hT) (shut_S hs) (shut_Ds ds vs hl rd) k2) fun v s2 h => lkd_ep h
      · exact thn (mk_run G hx hf I1 r hT hs rd (gc_ex hs k1)) fun v s2 h => lkd_ep h
    · exact mk_run G hx hf I1 r hT hs rd k1
  · exact k1.elim
end
end KF

set_option Elab.async false
set_option linter.all false
set_option maxRecDepth 100000
set_option maxHeartbeats 4000000
/-! V7c: soundness: methods -/
namespace KF
open PySem PySem.Spec PyProof.Rows L2
section
variable {t : Tb} {L : Lk} {g : Cfg} {W : WX} {Z : ZP} {X : Cx} {c : Cc} {a b : Expr}
theorem star_all {env : PySem.Env} {pos : Pos} : ∀ {es : List Expr}, es.all notStar = true → (backTo pos (starEach es env)).all (fun x => !x.1) = true
  | [], _ => rfl
  | e :: es, h => by
    rw [List.all_cons, Bool.and_eq_true] at h
    rw [star_cons h.1]
    exact star_all (es := es) h.2
theorem few_ok {env : PySem.Env} {pos : Pos} {es : List Expr} (hn : es.all notStar = true) (hl : es.length < 20) : methodCallForm (es.length + ([] : List Keyword).length) (backTo pos (starEach es env)) (backToKw pos (keywordEach [] env)) = true := by
  unfold methodCallForm
  rw [star_all hn]
  show (true && true && decide (es.length + 0 + 0 < 30)) = true
  simp
  omega
theorem tree_mt {o : Expr} {m : Str} {apos pos : Pos} {args : List Expr} {env : PySem.Env} (hb : plainBase o = true) (hn : args.all notStar = true) (hl : args.length < 20) (hline : (apos.endLine == pos.line) = true) : ∃ pl : Sem Bool, eval (.Call (.Attribute o m apos) args [] pos) env = (do
      let ov ← eval o env
      standAt apos.atName
      let (f, first) ← holding [ov] (getMethod ov m pl)
      callWith pos f first (backTo pos (starEach args env)) (backToKw pos (keywordEach [] env))) := by
  refine ⟨(do return (← importBound o env).getD true), ?_⟩
  rw [arm_eval_Call, plainBase_ok hb]
  unfold methodCall
  rw [few_ok hn hl]
  unfold calleeOf methodCallPos
  simp only [hline, Bool.not_true, Bool.false_or, if_true]
  rfl
/-- what stands between an instance and its method -/
theorem mt_core (G : Good t L g W Z X c) {fa : Ev} {kf : Nat → D → KF.Env → Store → R D} {m : Str} {o : Expr} {es : List Expr} {ap p : Pos} (hb : plainBase o = true) (hline : (ap.endLine == p.line) = true) (hl : es.length < 20) (hn : es.all notStar = true) (ho : PE X o (tD L W Z fa))
    (hc : ∀ {pins : List (Addr × Obj)} {s : Shared} {σ : L2.St} {H1 : Hp} {Q : VK} {env : KF.Env} {S1 : Store} {m1 : Mp} {x : D} {f : Nat} {aa aI : Addr}, Inv X pins σ H1 s → RelE L Z H1 m1 env σ → RelS L H1 m1 S1 → RelD L H1 m1 x (.ref aI) → PySem.W.keepIn X.K (.ref aa) = true → CallOk L g X f aa → Cont L W σ (RelD L) Q H1 m1 (kf f x env S1) →
      wpAny (model X.prog X.w) X.A (callWith p (.ref aa) [.ref aI] (backTo p (starEach es X.env)) (backToKw p (keywordEach [] X.env))) (EP X pins σ Q) X.xe s) :
    PE X (.Call (.Attribute o m ap) es [] p) (tD L W Z fun env S => (fa env S).bind fun x S1 => match (clsOf S1 x).bind fun k => g.mth k m with
    | some f => kf f x env S1
    | none => .bad) := by
  obtain ⟨pl, ht⟩ := tree_mt (o := o) (m := m) (apos := ap) (pos := p) (args := es) (env := X.env) hb hn hl hline
  refine ⟨fun pins s σ H Q I w => ?_⟩
  have w1 := tE.seq (Rl := RelD L) G.zm (g := fun env x S1 => match (clsOf S1 x).bind fun k => g.mth k m with
    | some f => kf f x env S1
    | none => R.bad) w
  refine PySem.W.methodCall_KW (pl := pl) (thn (ho.run pins s σ H _ I w1) fun u s1 ⟨v, H1, I1, ru, env, S1, m1, x, he, hs, r, k⟩ => ?_) ht
  split at k
  · rename_i f hf
    obtain ⟨kk, hx, hf⟩ := Option.bind_eq_some_iff.mp hf
    obtain ⟨hk, hm, aa, M, CO⟩ := G.mth kk m f hf
    obtain ⟨aI, us, rfl, ⟨dx, as, h1, _, _, h4⟩⟩ := ins_rd hs r hx
    cases ru
    have C := (G.cls kk _ (List.getElem?_eq_getElem hk)).2
    exact getmeth_ok I1 h1 C.cls M (h4.1 m hm) (hc I1 he hs r M.kp CO k)
  · exact k.elim
theorem e_mt (G : Good t L g W Z X c) {fa : Ev} {fs : KF.Env → Store → R (List D)} {m : Str} {o e : Expr} {es : List Expr} {ap p : Pos} (hb : plainBase o = true) (hline : (ap.endLine == p.line) = true) (hl : (e :: es).length < 20) (hn : (e :: es).all notStar = true) (ho : PE X o (tD L W Z fa)) (ha : PA X (e :: es) (tDs L W Z fs)) :
    PE X (.Call (.Attribute o m ap) (e :: es) [] p) (tD L W Z fun env S => (fa env S).bind fun x S1 => match (clsOf S1 x).bind fun k => g.mth k m with
    | some f => (fs env S1).bind fun ds S2 => g.call f (x :: ds) S2
    | none => .bad) := by
  refine mt_core G (kf := fun f x env S1 => (fs env S1).bind fun ds S2 => g.call f (x :: ds) S2) hb hline hl hn ho ?_
  intro pins s1 σ H1 Q env S1 m1 x f aa aI I1 he hs r hk CO k
  rw [List.all_cons, Bool.and_eq_true] at hn
  refine PySem.W.callWith_K (first := [.ref aI]) (h₀ := X.base) I1.ok.mod.kin hk (thn (ha.run p pins s1 σ H1 _ I1 ⟨env, S1, m1, he, hs, k.bind (Rl := RelDs L)⟩) fun us s2 ⟨vs, H2, I2, rv, m2, ds, S2, e2, s2', rd, k2⟩ => ⟨I2.kIn, ?_⟩) (star_cons hn.1) (star_any hn.2)
  exact call_run (g := g) (ds := x :: ds) (vs := .ref aI :: vs) CO (.inl rfl) G.tk I2 (e2.T.trans he.2.2.2) s2' ⟨_, _, rfl, r.mono e2.mono, rd⟩ (.cons rfl rv) k2
theorem e_mt0 (G : Good t L g W Z X c) {fa : Ev} {m : Str} {o : Expr} {ap p : Pos} (hb : plainBase o = true) (hline : (ap.endLine == p.line) = true) (ho : PE X o (tD L W Z fa)) :
    PE X (.Call (.Attribute o m ap) [] [] p) (tD L W Z fun env S => (fa env S).bind fun x S1 => match (clsOf S1 x).bind fun k => g.mth k m with
    | some f => g.call f [x] S1
    | none => .bad) := by
  refine mt_core G (kf := fun f x env S1 => g.call f [x] S1) hb hline (by simp) rfl ho ?_
  intro pins s1 σ H1 Q env S1 m1 x f aa aI I1 he hs r hk CO k
  exact PySem.W.callWith_K0 (first := [.ref aI]) I1.kIn hk (call_run (g := g) (ds := [x]) (vs := [.ref aI]) CO (.inl rfl) G.tk I1 he.2.2.2 hs (.one r) (.cons rfl .nil) k)
/-! ### methods of lists, dicts, texts -/
/-- an object without attributes of its own -/
structure BmAt (h : Shared) (v : Value) (T : String) : Prop where
  ty : h.TypeIs v T
  nd : ∀ a, v = .ref a → ∃ o, h.heap.get? a = some o ∧ o.dict = none
theorem bm_lst {pins : List (Addr × Obj)} {σ : L2.St} {H : Hp} {s : Shared} {a : Addr} {xs : List V} (I : Inv X pins σ H s) (h : Rd H a (.lst xs)) : BmAt s (.ref a) "list" := by
  obtain ⟨its, n, _, e⟩ := rdL I h
  refine ⟨⟨_, e, rfl⟩, fun a' ea => ?_⟩
  cases ea
  exact ⟨_, e, rfl⟩
theorem bm_dic {pins : List (Addr × Obj)} {σ : L2.St} {H : Hp} {s : Shared} {a : Addr} {kvs : List (Key × V)} (I : Inv X pins σ H s) (h : Rd H a (.dK kvs)) : BmAt s (.ref a) "dict" := by
  obtain ⟨_, _, vs, _, o, es, ep, e, ex, _⟩ := dk_rd I.hok h
  refine ⟨⟨o, e, ex.1⟩, fun a' ea => ?_⟩
  cases ea
  exact ⟨o, e, ex.2.1⟩
theorem bm_str {s : Shared} {x : Str} {tk : Tok} : BmAt s (.str x tk) "str" := ⟨typeIs_str _ _ _, fun a e => nomatch e⟩
/-- which built-in it is -/
inductive BmI : Bm → String → String → Prop
  | app : BmI .app "list" "list.append"
  | pop : BmI .pop "list" "list.pop"
  | get : BmI .get "dict" "dict.get"
  | join : BmI .join "str" "str.join"
theorem BmI.ok {m : Bm} {T id : String} (h : BmI m T id) : PlainAttrs T ∧ Slot T m.nm id ∧ typeOf (.builtin id) = pure (.type "method_descriptor") := by
  cases h with
  | app => exact ⟨PySem.F.plainAttrs_list, PySem.F.slot_list_append, PySem.F.type_list_append⟩
  | pop => exact ⟨PySem.F.plainAttrs_list, PySem.F.slot_list_pop, PySem.F.type_list_pop⟩
  | get => exact ⟨PySem.F.plainAttrs_dict, PySem.F.slot_dict_get, PySem.F.type_dict_get⟩
  | join => exact ⟨PySem.F.plainAttrs_str, PySem.F.slot_str_join, PySem.F.type_str_join⟩
theorem bm_type {m : Bm} {S : Store} {H : Hp} {mp : Mp} {x : D} {v : V} {u : Value} {pins : List (Addr × Obj)} {σ : L2.St} {s : Shared} (I : Inv X pins σ H s) (hm : m = .app ∨ m = .pop ∨ m = .get ∨ m = .join) (hs : RelS L H mp S) (r : RelD L H mp x v) (ru : RelV v u) (h : bmK S m x = true) :
    ∃ T id, BmI m T id ∧ BmAt s u T := by
  rcases hm with rfl | rfl | rfl | rfl
  · obtain ⟨xs, e⟩ := Option.isSome_iff_exists.mp (show (lstOf S x).isSome = true from h)
    obtain ⟨a, vs, rfl, _, hq⟩ := lst_sq hs r e
    cases ru
    exact ⟨_, _, .app, bm_lst I hq⟩
  · obtain ⟨xs, e⟩ := Option.isSome_iff_exists.mp (show (lstOf S x).isSome = true from h)
    obtain ⟨a, vs, rfl, _, hq⟩ := lst_sq hs r e
    cases ru
    exact ⟨_, _, .pop, bm_lst I hq⟩
  · have h : (match dicOf S x with | some (false, _, _) => true | _ => false) = true := h
    split at h
    · rename_i q
      obtain ⟨a, us, rfl, ⟨uu, h1, kvs, rfl, h3, rfl⟩, _⟩ := dic_rd hs r q
      cases ru
      exact ⟨_, _, .get, bm_dic I h1⟩
    · cases h
  · cases x <;> try (cases h; done)
    have r : v = .str _ := r
    subst r
    obtain ⟨tk, rfl⟩ := ru
    exact ⟨_, _, .join, bm_str⟩
/-- the built-in's call -/
theorem bm_call (hK : X.K = L.K) (hu : X.A.units + 1 < cLine) {m : Bm} {T id : String} (hi : BmI m T id) {S : Store} {H : Hp} {mp : Mp} {x : D} {v : V} {u : Value} {ds : List D} {vs : List V} {us : List Value} {pins : List (Addr × Obj)} {σ : L2.St} {s : Shared} {Q : VK} (I : Inv X pins σ H s) (hs : RelS L H mp S) (r : RelD L H mp x v) (ru : RelV v u)
    (rd : RelDs L H mp ds vs) (rv : Vals vs us) (k : Cont L W σ (RelD L) Q H mp (bmut S m x ds)) : wpAny (model X.prog X.w) X.A (call (.builtin id) (u :: us)) (EP X pins σ Q) X.xe s := by
  have lifts : ∀ {o : Option D}, Cont L W σ (RelD L) Q H mp (lift o S) → ∃ z, o = some z ∧ ∀ v, RelD L H mp z v → Q v H := by
    intro o k
    cases o with
    | none => exact k.elim
    | some z => exact ⟨z, rfl, fun v r => k.here hs r⟩
  cases hi with
  | app =>
    replace k : Cont L W σ (RelD L) Q H mp (bmApp S x ds) := k
    unfold bmApp at k
    split at k
    · rename_i y
      obtain ⟨y', rfl, ry⟩ := one_of rd
      split at k
      · rename_i n
        obtain ⟨a, rfl, ha⟩ := id r
        split at k
        · rename_i xs q
          split at k
          · rename_i hz
            obtain ⟨b, e1, ws, e2, e3⟩ := hs.at_ n _ q
            rw [ha] at e1; cases e1
            refine mt_append pins s σ H _ _ u us Q I ru rv ⟨a, ws, y', rfl, rfl, e2, by rw [e3.length]; exact hz, ?_⟩
            exact k _ mp .non (Ext.put hs (List.mem_of_getElem? ha) (hs.notTbl ha) (nf_of e2 rfl)) (hs.putL ha (e3.app (.one ry))) rfl
          · exact k.elim
        · exact k.elim
      · exact k.elim
    · exact k.elim
  | pop =>
    replace k : Cont L W σ (RelD L) Q H mp (bmPop S x ds) := k
    unfold bmPop at k
    split at k
    · have rd : vs = [] := rd
      subst rd
      cases rv
      split at k
      · rename_i n
        obtain ⟨a, rfl, ha⟩ := id r
        split at k
        · rename_i xs q
          obtain ⟨b, e1, ws, e2, e3⟩ := hs.at_ n _ q
          rw [ha] at e1; cases e1
          split at k
          · rename_i y rr hrev
            have hx : xs = rr.reverse ++ [y] := by
              have := congrArg List.reverse hrev
              simpa using this
            have hlen : ws.length = xs.length := e3.length
            have hd : xs[xs.length - 1]? = some y := by rw [hx]; simp
            obtain ⟨yv, g1, g2⟩ := e3.get hd
            refine mt_pop pins s σ H _ _ u [] Q I ru .nil ⟨a, ws, yv, rfl, rfl, e2, by rw [hlen]; exact g1, ?_⟩
            refine k _ mp yv (Ext.put hs (List.mem_of_getElem? ha) (hs.notTbl ha) (nf_of e2 rfl)) (hs.putL ha ?_) (g2.mono (Mono.put (List.mem_of_getElem? ha)))
            have e4 : rr.reverse = xs.take (xs.length - 1) := by rw [hx]; simp
            rw [e4, List.dropLast_eq_take, hlen]
            exact e3.take _
          · exact k.elim
        · exact k.elim
      · exact k.elim
    · exact k.elim
  | get =>
    obtain ⟨z, hz, fin⟩ := lifts (show Cont L W σ (RelD L) Q H mp (lift (dGet S x ds) S) from k)
    unfold dGet at hz
    split at hz
    · rename_i kk
      obtain ⟨kv, rfl, rk⟩ := one_of rd
      obtain ⟨ku, rfl, rku⟩ := vals1 rv
      split at hz
      · rename_i ks vs q
        split at hz
        · rename_i hk
          cases hz
          obtain ⟨key, hk⟩ := Option.isSome_iff_exists.mp hk
          obtain ⟨a, o, rfl, gg, e1, e2⟩ := dic_get hs r q hk rk
          cases ru
          refine d_get1 hu I gg rku fun w' s3 I3 rw' => ⟨_, H, I3, rw', fin _ ?_⟩
          cases ql : lookD kk ks vs with
          | none =>
            rw [ql] at e1
            cases o with
            | none => rfl
            | some _ => cases e1
          | some zz =>
            obtain ⟨w, rfl, rw''⟩ := e2 zz ql
            exact rw''
        · cases hz
      · cases hz
    · rename_i kk dd
      obtain ⟨kv, dv, rfl, rk, rdd⟩ := two_of rd
      obtain ⟨ku, du, rfl, rku, rdu⟩ := vals2 rv
      split at hz
      · rename_i ks vs q
        split at hz
        · rename_i hk
          cases hz
          obtain ⟨key, hk⟩ := Option.isSome_iff_exists.mp hk
          obtain ⟨a, o, rfl, gg, e1, e2⟩ := dic_get hs r q hk rk
          cases ru
          refine d_get2 hu I gg rku rdu fun w' s3 I3 rw' => ⟨_, H, I3, rw', fin _ ?_⟩
          cases ql : lookD kk ks vs with
          | none =>
            rw [ql] at e1
            cases o with
            | none => exact rdd
            | some _ => cases e1
          | some zz =>
            obtain ⟨w, rfl, rw''⟩ := e2 zz ql
            exact rw''
        · cases hz
      · cases hz
    · cases hz
  | join =>
    obtain ⟨z, hz, fin⟩ := lifts (show Cont L W σ (RelD L) Q H mp (lift (dJoin S x ds) S) from k)
    unfold dJoin at hz
    split at hz
    · rename_i y
      obtain ⟨yv, rfl, ry⟩ := one_of rd
      split at hz
      · rename_i zz
        split at hz
        · rename_i xs q
          split at hz
          · rename_i zs q2
            split at hz
            · rename_i hl
              cases hz
              obtain ⟨a, vs, rfl, hr, hq⟩ := items_sq hs ry q
              have r : v = .str _ := r
              subst r
              rw [hr.ofStrs q2] at hq
              exact mt_join pins s σ H _ _ u us Q I ru rv ⟨_, a, zs, rfl, rfl, by rw [hK]; exact hq, by omega, fin _ rfl⟩
            · cases hz
          · cases hz
        · cases hz
      · cases hz
    · cases hz
theorem bm_core (G : Good t L g W Z X c) {fa : Ev} {kf : D → KF.Env → Store → R D} {m : Bm} (hm : m = .app ∨ m = .pop ∨ m = .get ∨ m = .join) {o : Expr} {es : List Expr} {ap p : Pos} (hb : plainBase o = true) (hline : (ap.endLine == p.line) = true) (hl : es.length < 20) (hn : es.all notStar = true) (ho : PE X o (tD L W Z fa))
    (hc : ∀ {pins : List (Addr × Obj)} {s : Shared} {σ : L2.St} {H1 : Hp} {Q : VK} {env : KF.Env} {S1 : Store} {m1 : Mp} {x : D} {v : V} {u : Value} {T id : String}, Inv X pins σ H1 s → RelE L Z H1 m1 env σ → RelS L H1 m1 S1 → RelD L H1 m1 x v → RelV v u → BmI m T id → Cont L W σ (RelD L) Q H1 m1 (kf x env S1) →
      wpAny (model X.prog X.w) X.A (evalArgs (.builtin id) true (backTo p (starEach es X.env)) []) (fun a s₁ => wpAny (model X.prog X.w) X.A (call (.builtin id) ([u] ++ a.pos) a.kw) (EP X pins σ Q) X.xe s₁) X.xe s) :
    PE X (.Call (.Attribute o m.nm ap) es [] p) (tD L W Z fun env S => (fa env S).bind fun x S1 => if bmK S1 m x = true then kf x env S1 else .bad) := by
  refine ⟨fun pins s σ H Q I w => ?_⟩
  have w1 := tE.seq (Rl := RelD L) G.zm (g := fun env x S1 => if bmK S1 m x = true then kf x env S1 else R.bad) w
  have hfew : ((backTo p (starEach es X.env)).all (fun x => !x.1) && (backToKw p (keywordEach [] X.env)).all (fun x => x.1.isSome) && decide (es.length + ([] : List Keyword).length + (if ([] : List Keyword).isEmpty then 0 else 1) < 30)) = true := by
    rw [star_all hn]
    show (true && true && decide (es.length + 0 + 0 < 30)) = true
    simp
    omega
  refine wpAny_Call_method_late (plainBase_ok hb m.nm _ _) hfew hline rfl (thn (ho.run pins s σ H _ I w1) fun u s1 ⟨v, H1, I1, ru, env, S1, m1, x, he, hs, r, k⟩ => ?_)
  split at k
  · rename_i hbk
    obtain ⟨T, id, hi, hat⟩ := bm_type I1 hm hs r ru hbk
    obtain ⟨f1, f2, f3⟩ := hi.ok
    refine ⟨T, id, f1, f2, f3, hat.ty, hat.nd, ?_⟩
    have hpl : ((backTo p (starEach es X.env)).any (·.1)) = false := star_any hn
    exact Calls.callWith_builtin hpl (hc I1 he hs r ru hi k)
  · exact k.elim
theorem e_bm (G : Good t L g W Z X c) {fa : Ev} {fs : KF.Env → Store → R (List D)} {m : Bm} (hm : m = .app ∨ m = .pop ∨ m = .get ∨ m = .join) {o e : Expr} {es : List Expr} {ap p : Pos} (hb : plainBase o = true) (hline : (ap.endLine == p.line) = true) (hl : (e :: es).length < 20) (hn : (e :: es).all notStar = true) (ho : PE X o (tD L W Z fa)) (ha : PA X (e :: es) (tDs L W Z fs)) :
    PE X (.Call (.Attribute o m.nm ap) (e :: es) [] p) (tD L W Z fun env S => (fa env S).bind fun x S1 => if bmK S1 m x = true then (fs env S1).bind fun ds S2 => bmut S2 m x ds else .bad) := by
  refine bm_core G (kf := fun x env S1 => (fs env S1).bind fun ds S2 => bmut S2 m x ds) hm hb hline hl hn ho ?_
  intro pins s1 σ H1 Q env S1 m1 x v u T id I1 he hs r ru hi k
  have hA := ha.run p pins s1 σ H1 _ I1 ⟨env, S1, m1, he, hs, k.bind (Rl := RelDs L)⟩
  rw [List.all_cons, Bool.and_eq_true] at hn
  rw [star_cons hn.1] at hA ⊢
  refine Calls.evalArgs_plain (thn hA fun us s2 ⟨vs, H2, I2, rv, m2, ds, S2, e2, s2', rd, k2⟩ => ?_)
  exact bm_call G.K (by have := G.un; omega) hi I2 s2' (r.mono e2.mono) ru rd rv k2
theorem e_bm0 (G : Good t L g W Z X c) {fa : Ev} {m : Bm} (hm : m = .app ∨ m = .pop ∨ m = .get ∨ m = .join) {o : Expr} {ap p : Pos} (hb : plainBase o = true) (hline : (ap.endLine == p.line) = true) (ho : PE X o (tD L W Z fa)) :
    PE X (.Call (.Attribute o m.nm ap) [] [] p) (tD L W Z fun env S => (fa env S).bind fun x S1 => if bmK S1 m x = true then bmut S1 m x [] else .bad) := by
  refine bm_core G (kf := fun x env S1 => bmut S1 m x []) hm hb hline (by simp) rfl ho ?_
  intro pins s1 σ H1 Q env S1 m1 x v u T id I1 he hs r ru hi k
  exact PySem.evalArgs_none (bm_call G.K (by have := G.un; omega) hi I1 hs r ru (show RelDs L H1 m1 [] [] from rfl) .nil k)
end
end KF

set_option Elab.async false
set_option linter.all false
set_option maxRecDepth 100000
set_option maxHeartbeats 4000000
/-! V7d: soundness: isinstance, an error's field, a dict written out -/
namespace KF
open PySem PySem.Spec PyProof.Rows L2
section
variable {t : Tb} {L : Lk} {g : Cfg} {W : WX} {Z : ZP} {X : Cx} {c : Cc} {a b : Expr}
/-! ### isinstance -/
theorem ty_boot {y : Ty} (h : ∀ k, y ≠ .cls k) : bootBuiltins y.py = some (.type y.ts) := by cases y <;> first | decide +kernel | exact absurd rfl (h _)
theorem ty_nm (y : Ty) : y.py ≠ ("__name__" : Str) ∧ (y.py == ("__debug__" : Str)) = false := by
  cases y <;> first | exact ⟨by decide +kernel, by decide +kernel⟩ | (show ("" : Str) ≠ _ ∧ (("" : Str) == _) = false; exact ⟨by decide +kernel, by decide +kernel⟩)
/-- a type as a value -/
def Ty.V (L : Lk) : Ty → V
  | .cls k => .ref (L.ca k)
  | y => .ty y.ts
def Ty.U (L : Lk) : Ty → Value
  | .cls k => .ref (L.ca k)
  | y => .type y.ts
theorem Ty.clsV (y : Ty) : ClsV (y.V L) (y.U L) := by cases y <;> first | exact .ty _ | exact .own _
/-- the classes of the text, among each other -/
structure KitOk (t : Tb) (L : Lk) (X : Cx) : Prop where
  own : ∀ k k', k < t.clN.length → k' < t.clN.length → PySem.W.kitOne X.K (.ref (L.ca k)) (.ref (L.ca k')) = some (k' == k)
  bas : ∀ k, k < t.clN.length → ∀ y : Ty, (∀ k', y ≠ .cls k') → PySem.W.kitOne X.K (.ref (L.ca k)) (.type y.ts) = some false
  bis : ∀ k, k < t.clN.length → ∀ T ∈ ["NoneType", "bool", "int", "str", "tuple", "list", "dict"], PySem.W.kitOne X.K (.type T) (.ref (L.ca k)) = some false
def Ty.in (t : Tb) : Ty → Prop
  | .cls k => k < t.clN.length
  | _ => True
theorem kit_kd (KO : KitOk t L X) {k : Kd} (hk : k.in t) {y : Ty} (hy : y.in t) : PySem.W.kitOne X.K (k.ts L) (y.U L) = some (y.hasK k) := by
  have b0 : ∀ {T U : String} {r : Bool}, kitB T U = some r → PySem.W.kitOne X.K (.type T) (.type U) = some r := fun h => kit_ty h
  cases k with
  | cls k' =>
    cases y with
    | cls k2 => exact KO.own k' k2 hk hy
    | _ => exact KO.bas k' hk _ (fun _ z => nomatch z)
  | _ =>
    cases y with
    | cls k2 => exact KO.bis k2 hy _ (by simp)
    | _ => exact b0 (by decide +kernel)
theorem kit_any (KO : KitOk t L X) {k : Kd} (hk : k.in t) : ∀ {ts : List Ty}, (∀ y ∈ ts, y.in t) → PySem.W.kitAny X.K (k.ts L) (ts.map fun y => y.U L) = some (ts.any fun y => y.hasK k)
  | [], _ => kitAny_nil
  | y :: ys, h => by
    rw [List.map_cons, List.any_cons]
    refine kitAny_cons (b := y.hasK k) (kit_kd KO hk (h y List.mem_cons_self)) (fun e => ?_) (fun e => ?_)
    · rw [e, Bool.false_or]; exact kit_any KO hk fun y hy => h y (List.mem_cons_of_mem _ hy)
    · rw [e, Bool.true_or]
theorem ty_pe (G : Good t L g W Z X c) {y : Ty} {x : Str} {p : Pos} (h : tyB t c y x = true) : PE X (.Name x p) (tC (y.V L)) ∧ y.in t := by
  have bas : ∀ {y : Ty}, (∀ k, y ≠ .cls k) → y.V L = .ty y.ts → bltB t c x y.py = true → PE X (.Name x p) (tC (y.V L)) := by
    intro y hy hV h
    obtain ⟨rfl, h3, h4⟩ := blt_of G h
    obtain ⟨n1, n2⟩ := ty_nm y
    rw [hV]
    exact pe_bltn (v := .ty y.ts) h3 h4 (ty_boot hy) rfl n1 n2
  cases y with
  | cls k =>
    have h : (decide (t.clN[k]? = some x) && (glB c.sc x && dunB x)) = true := h
    simp only [Bool.and_eq_true, decide_eq_true_eq] at h
    obtain ⟨h1, h2, h3⟩ := h
    obtain ⟨d1, d2⟩ := dun_ok h3
    exact ⟨pe_glob (gl_of G h2) (G.cls k x h1).1 rfl d1, (List.getElem?_eq_some_iff.mp h1).1⟩
  | _ => exact ⟨bas (fun k z => nomatch z) rfl h, trivial⟩
theorem pa_tys (G : Good t L g W Z X c) : ∀ {ts : List Ty} {es : List Expr}, tysB t c ts es = true → PA X es (fun σ H Q => Q (ts.map fun y => y.V L) H) ∧ ∀ y ∈ ts, y.in t
  | [], [], _ => ⟨pa_nil, fun _ h => nomatch h⟩
  | [], _ :: _, h => by cases h
  | y :: ys, [], h => by cases h
  | y :: ys, e :: es, h => by
    unfold tysB at h
    split at h
    · rename_i h0 _
      cases h0
    · rename_i y' ys' x p es' h1 h2
      cases h1; cases h2
      simp only [Bool.and_eq_true] at h
      obtain ⟨q1, q2⟩ := ty_pe G (p := p) h.1
      obtain ⟨q3, q4⟩ := pa_tys G h.2
      refine ⟨pa_cons q1 q3, fun z hz => ?_⟩
      rcases List.mem_cons.mp hz with e | hz
      · rw [e]; exact q2
      · exact q4 z hz
    · cases h
theorem e_isi (G : Good t L g W Z X c) (KO : KitOk t L X) {f : Ev} {ts : List Ty} {x : Str} {e y : Expr} {p p2 : Pos} (hb : bltB t c x "isinstance" = true) (hn : notStar e = true) (hi : isiB t c ts y = true) (he : PE X e (tD L W Z f)) :
    PE X (.Call (.Name x p) [e, y] [] p2) (tD L W Z fun env S => (f env S).bind fun x S1 => match x.kd S1 with
    | some k => if kdOk g k = true then .ok (.bl (ts.any fun t => t.hasK k)) S1 else .bad
    | none => .bad) := by
  obtain ⟨rfl, h1, h2⟩ := blt_of G hb
  have seq : ∀ σ H Q, tD L W Z (fun env S => (f env S).bind fun x S1 => match x.kd S1 with
    | some k => if kdOk g k = true then R.ok (D.bl (ts.any fun t => t.hasK k)) S1 else R.bad
    | none => R.bad) σ H Q →
      tD L W Z f σ H fun v H1 => ∃ m1 S1 d k, RelS L H1 m1 S1 ∧ RelD L H1 m1 d v ∧ d.kd S1 = some k ∧ k.in t ∧ ∀ H' m' v', Ext H1 m1 H' m' → RelS L H' m' S1 → RelD L H' m' (.bl (ts.any fun t => t.hasK k)) v' → Q v' H' := by
    intro σ H Q w
    refine (tE.seq (Rl := RelD L) G.zm (g := fun env x S1 => match x.kd S1 with
    | some k => if kdOk g k = true then R.ok (D.bl (ts.any fun t => t.hasK k)) S1 else R.bad
    | none => R.bad) w).imp fun v H1 ⟨env, S1, m1, d, he, hs, r, k⟩ => ?_
    split at k
    · rename_i kd hkd
      split at k
      · rename_i hko
        exact ⟨m1, S1, d, kd, hs, r, hkd, kd_in G hko, k⟩
      · exact k.elim
    · exact k.elim
  unfold isiB at hi
  split at hi
  · rename_i z q
    split at hi
    · rename_i y'
      obtain ⟨t1, t2⟩ := ty_pe G (p := q) hi
      refine (pe_callB call_isi h1 h2 (by decide +kernel) (pa_cons he (pa_cons t1 pa_nil) (star_cons hn)) (by decide +kernel) (by decide +kernel) (star_cons hn) (star_any (by rw [List.all_cons]; rfl))).imp fun σ H Q w => ?_
      refine (seq σ H Q w).imp fun v H1 ⟨m1, S1, d, kd, hs, r, hkd, hk, k⟩ => ?_
      refine ⟨v, y'.V L, kd.ts L, y'.U L, _, rfl, y'.clsV, tyx G hs r hkd hk, kit_kd KO hk t2, k H1 m1 _ (Ext.refl _ _) hs ?_⟩
      show V.bl _ = V.bl _
      rw [List.any_cons, List.any_nil, Bool.or_false]
    · cases hi
  · rename_i es k q
    rw [Bool.and_eq_true, decide_eq_true_eq] at hi
    obtain ⟨hlen, hi⟩ := hi
    obtain ⟨t1, t2⟩ := pa_tys G hi
    refine (pe_callB call_isiT h1 h2 (by decide +kernel) (pa_cons he (pa_cons (pe_tup t1) pa_nil) (star_cons hn)) (by decide +kernel) (by decide +kernel) (star_cons hn) (star_any (by rw [List.all_cons]; rfl))).imp fun σ H Q w => ?_
    refine (seq σ H Q w).imp fun v H1 ⟨m1, S1, d, kd, hs, r, hkd, hk, k⟩ => ?_
    have hz : (ts.map fun y => y.V L).length ≤ sizeLine := by rw [List.length_map, sizeLine_eq]; omega
    refine ⟨hz, fun q hq => ?_⟩
    have clsv : ∀ l : List Ty, Paired ClsV (l.map fun y => y.V L) (l.map fun y => y.U L) := fun l => by
      induction l with
      | nil => exact .nil
      | cons y l ih => exact .cons y.clsV ih
    exact ⟨v, q, _, kd.ts L, _, _, rfl, upd_same, clsv ts, tyx G (hs.new hq) (r.mono (Mono.new hq)) hkd hk, kit_any KO hk t2, k _ m1 _ (Ext.new hq) (hs.new hq) rfl⟩
  · cases hi
theorem zip_lookup {H : Hp} {m : Mp} {f : Str} {d : D} : ∀ {l : List (Str × D)} {l' : List (Str × V)}, Paired (fun p q => p.1 = q.1 ∧ RelD L H m p.2 q.2) l l' → l.lookup f = some d → ∃ v, l'.lookup f = some v ∧ RelD L H m d v
  | _, _, .nil, h => by cases h
  | (x, y) :: l, (x', y') :: l', .cons r t, h => by
    obtain ⟨e, r⟩ := r
    have e : x = x' := e
    subst e
    rw [List.lookup_cons] at h ⊢
    cases hb : f == x with
    | true =>
      rw [hb] at h
      cases h
      exact ⟨y', rfl, r⟩
    | false =>
      rw [hb] at h
      exact zip_lookup t h
theorem paired_zip {H : Hp} {m : Mp} : ∀ {ns : List Str} {fs : List D} {vs : List V}, RelDs L H m fs vs → Paired (fun (p : Str × D) (q : Str × V) => p.1 = q.1 ∧ RelD L H m p.2 q.2) (ns.zip fs) (ns.zip vs)
  | [], _, _, _ => by simp; exact .nil
  | n :: ns, [], vs, h => by rw [show vs = [] from h]; simp; exact .nil
  | n :: ns, x :: xs, vs, h => by
    obtain ⟨v, r, rfl, h1, h2⟩ := h
    exact .cons ⟨rfl, h1⟩ (paired_zip h2)
theorem paired_app {α β : Type} {F : α → β → Prop} : ∀ {l1 l2 : List α} {k1 k2 : List β}, Paired F l1 k1 → Paired F l2 k2 → Paired F (l1 ++ l2) (k1 ++ k2)
  | _, _, _, _, .nil, s => s
  | _, _, _, _, .cons r t, s => .cons r (paired_app t s)
theorem paired_rev {α β : Type} {F : α → β → Prop} : ∀ {l : List α} {k : List β}, Paired F l k → Paired F l.reverse k.reverse
  | _, _, .nil => .nil
  | _, _, .cons r t => by
    rw [List.reverse_cons, List.reverse_cons]
    exact paired_app (paired_rev t) (.cons r .nil)
theorem e_fx (G : Good t L g W Z X c) {i : Nat} {f : Str} {x : Str} {p p2 : Pos} (hc : c.suite = some i) (hx : c.N[i]? = some x) (hv : visB c.sc x = true) (hd : dunB x = true) :
    PE X (.Attribute (.Name x p) f p2) (tD L W Z fun _ S => lift (curX g f) S) := by
  obtain ⟨aa, oe, k, fs, dd, pn, X0, eX, hz, hf, hcur, T, hno, eZ⟩ := G.suite i hc
  unfold dunB at hd
  simp only [Bool.and_eq_true, Bool.not_eq_true'] at hd
  have hvis : Vis X.env.scope x := by
    rw [G.sc]
    unfold visB at hv
    split at hv
    · exact .inl (by assumption)
    · exact .inr (.inl (by assumption))
    · exact .inr (.inr (by assumption))
    · cases hv
  have hvar : PE X (.Name x p) (tVar i) := pe_var (by rw [G.N]; exact hx) hvis hd.1 hd.2
  by_cases hm : f ∈ L.ef k
  · have K0 : X0.K = L.K := by rw [← G.K, eX]
    have hvar2 := hvar
    rw [eX] at hvar2
    have h := pe_xf (pos := p2) (n := f) (T := show XfC X0.K (L.ea k) by rw [K0]; exact T) (show PySem.W.findIn X0.K (.ref (L.ea k)) f = some none by rw [K0]; exact hno f hm) hz hf hvar2
    rw [← eX] at h
    refine h.imp fun σ H Q ⟨env, S, m, he, hs, q⟩ => ?_
    have q : Cont L W σ (RelD L) Q H m (lift (curX g f) S) := q
    unfold curX at q
    rw [hcur] at q
    dsimp only at q
    rw [G.ef] at q
    have z := he.2.2.1
    rw [eZ] at z
    obtain ⟨z1, vs, z2, z3, z4, z5⟩ := z
    cases ql : ((L.ef k).zip fs).reverse.lookup f with
    | none => rw [ql] at q; exact q.elim
    | some d =>
      rw [ql] at q
      obtain ⟨v, lv, rv⟩ := zip_lookup (paired_rev (paired_zip (ns := L.ef k) z5)) ql
      exact ⟨.ref aa, z1, rfl, rfl, dd, _, v, rfl, z2, lv, q.here hs rv⟩
  · refine ⟨fun pins s σ H Q I w => ?_⟩
    obtain ⟨env, S, m, he, hs, q⟩ := w
    have q : Cont L W σ (RelD L) Q H m (lift (curX g f) S) := q
    unfold curX at q
    rw [hcur] at q
    dsimp only at q
    rw [G.ef] at q
    cases ql : ((L.ef k).zip fs).reverse.lookup f with
    | none => rw [ql] at q; exact q.elim
    | some d =>
      refine (hm ?_).elim
      have h1 := PySem.mem_of_lookup ql
      rw [List.mem_reverse] at h1
      exact (List.of_mem_zip h1).1
/-! ### a dict written out -/
def prV : List V → List (V × V)
  | a :: b :: r => (a, b) :: prV r
  | _ => []
section
variable {H : Hp} {m : Mp}
theorem mapO_len {α β : Type} {f : α → Option β} : ∀ {l : List α} {r : List β}, mapO f l = some r → r.length = l.length
  | [], r, h => by cases h; rfl
  | x :: l, r, h => by
    unfold mapO at h
    split at h
    · rename_i e1 e2
      cases h
      rw [List.length_cons, List.length_cons, mapO_len e2]
    · cases h
theorem mapO_app {α β : Type} {f : α → Option β} {y : α} {z : β} (hy : f y = some z) : ∀ {l : List α} {r : List β}, mapO f l = some r → mapO f (l ++ [y]) = some (r ++ [z])
  | [], r, h => by
    cases h
    show mapO f [y] = some [z]
    unfold mapO
    rw [hy]
    rfl
  | x :: l, r, h => by
    unfold mapO at h
    split at h
    · rename_i e1 e2
      cases h
      show mapO f (x :: (l ++ [y])) = _
      unfold mapO
      rw [e1, mapO_app hy e2]
      rfl
    · cases h
theorem any_key {k : D} {key : Key} (hk : fkey k = some key) : ∀ {ks : List D} {kvs : List (Key × V)}, mapO fkey ks = some (kvs.map (·.1)) → (ks.any fun q => keyEq k q) = kvs.any fun kv => decide (kv.1 = key)
  | [], kvs, h => by
    cases kvs with
    | nil => rfl
    | cons _ _ => simp [mapO] at h
  | q :: ks, kvs, h => by
    unfold mapO at h
    split at h
    · rename_i a as e1 e2
      cases kvs with
      | nil => simp at h
      | cons p kvs =>
        rw [List.map_cons] at h
        injection h with h
        injection h with h1 h2
        subst h1
        rw [List.any_cons, List.any_cons, keyEq_k hk e1, any_key hk (kvs := kvs) (by rw [e2, h2])]
        congr 1
        exact decide_eq_decide.mpr eq_comm
    · cases h
theorem rep_rel {k v : D} {key : Key} {vv : V} (hk : fkey k = some key) (hv : RelD L H m v vv) : ∀ {ks vs : List D} {kvs : List (Key × V)}, mapO fkey ks = some (kvs.map (·.1)) → RelDs L H m vs (kvs.map (·.2)) →
    RelDs L H m (repD k v ks vs) ((kvs.map fun kv => if kv.1 = key then (kv.1, vv) else kv).map (·.2))
  | [], vs, kvs, h, r => by
    cases kvs with
    | nil => rfl
    | cons _ _ => simp [mapO] at h
  | q :: ks, vs, kvs, h, r => by
    unfold mapO at h
    split at h
    · rename_i a as e1 e2
      cases kvs with
      | nil => simp at h
      | cons p kvs =>
        rw [List.map_cons] at h
        injection h with h
        injection h with h1 h2
        subst h1
        cases vs with
        | nil => have : (p :: kvs).map (·.2) = [] := r; simp at this
        | cons w vs =>
          obtain ⟨wv, ws, e, rw', rws⟩ := r
          rw [List.map_cons] at e
          injection e with e3 e4
          have ih := rep_rel hk hv (ks := ks) (vs := vs) (kvs := kvs) (by rw [e2, h2]) (by rw [e4]; exact rws)
          rw [List.map_cons, List.map_cons]
          unfold repD
          rw [keyEq_k hk e1]
          by_cases c : key = p.1
          · rw [if_pos (by simp [c]), if_pos c.symm]
            exact ⟨_, _, rfl, hv, ih⟩
          · rw [if_neg (by simp [c]), if_neg (fun z => c z.symm)]
            exact ⟨_, _, rfl, by rw [e3]; exact rw', ih⟩
    · cases h
theorem put_rel {k v : D} {key : Key} {vv : V} {ks vs : List D} {kvs : List (Key × V)} (hk : fkey k = some key) (hv : RelD L H m v vv) (h : mapO fkey ks = some (kvs.map (·.1))) (r : RelDs L H m vs (kvs.map (·.2))) :
    mapO fkey (putD k v ks vs).1 = some ((putK kvs key vv).map (·.1)) ∧ RelDs L H m (putD k v ks vs).2 ((putK kvs key vv).map (·.2)) := by
  unfold putD putK
  rw [any_key hk h]
  by_cases c : (kvs.any fun kv => decide (kv.1 = key)) = true
  · rw [if_pos c, if_pos c]
    refine ⟨?_, rep_rel hk hv h r⟩
    rw [List.map_map]
    have : (kvs.map ((fun x => x.1) ∘ fun kv => if kv.1 = key then (kv.1, vv) else kv)) = kvs.map (·.1) := by
      apply List.map_congr_left
      intro kv _
      show (if kv.1 = key then (kv.1, vv) else kv).1 = kv.1
      split <;> rfl
    rw [this]
    exact h
  · rw [if_neg c, if_neg c, List.map_append, List.map_append]
    exact ⟨mapO_app hk h, r.app (.one hv)⟩
theorem mergeP_rel : ∀ {ds : List D} {vs : List V} {acc r : List D × List D} {kvs : List (Key × V)}, mergeP ds acc = some r → mapO fkey acc.1 = some (kvs.map (·.1)) → RelDs L H m acc.2 (kvs.map (·.2)) → RelDs L H m ds vs →
    ∃ kps : List (Key × V), prV vs = kps.map (fun kv => (kV kv.1, kv.2)) ∧ ds.length = 2 * kps.length ∧ mapO fkey r.1 = some ((mergeK kvs kps).map (·.1)) ∧ RelDs L H m r.2 ((mergeK kvs kps).map (·.2))
  | [], vs, acc, r, kvs, h, h1, h2, rd => by
    have rd : vs = [] := rd
    subst rd
    cases h
    exact ⟨[], rfl, rfl, h1, h2⟩
  | [_], vs, acc, r, kvs, h, _, _, _ => by cases h
  | k :: v :: ds, vs, acc, r, kvs, h, h1, h2, rd => by
    unfold mergeP at h
    split at h
    · rename_i hk
      obtain ⟨key, hk⟩ := Option.isSome_iff_exists.mp hk
      obtain ⟨kv, _, rfl, rk, vv, vs, rfl, rv, rds⟩ := rd
      obtain ⟨p1, p2⟩ := put_rel hk rv h1 h2
      obtain ⟨kps, g1, g2, g3, g4⟩ := mergeP_rel h p1 p2 rds
      refine ⟨(key, vv) :: kps, ?_, by rw [List.length_cons, List.length_cons, List.length_cons, g2]; omega, g3, g4⟩
      show (kv, vv) :: prV vs = _
      rw [g1, fkey_v hk rk]
      rfl
    · cases h
end
/-- a dict written out -/
theorem e_dd (G : Good t L g W Z X c) {fz : Bool} {fs : KF.Env → Store → R (List D)} {keys : List (Option Expr)} {values : List Expr} {p : Pos} {trs : List (TE × TE)} (hall : keys.all (·.isSome) = true) (hl : keys.length = values.length) (h15 : keys.length ≤ 15)
    (h : PPs X p keys values trs) (ht : ∀ σ H (Q : List (V × V) → Hp → Prop), tDs L W Z fs σ H (fun vs H1 => Q (prV vs) H1) → tPairs trs σ H Q) (h0 : keys = [] → ∀ env S, fs env S = .ok [] S) :
    PE X (.Dict keys values p) (tD L W Z fun env S => (noexc (fs env S)).bind fun ds S1 => match mergeP ds ([], []) with
    | some r => if ds.length ≤ 30 then finD fz r.1 r.2 S1 else .bad
    | none => .bad) := by
  cases keys with
  | nil =>
    cases values with
    | cons _ _ => simp at hl
    | nil =>
      refine pe_dnewK.lkd.imp fun σ H Q ⟨env, S, m, he, hs, k⟩ => ?_
      intro q hq
      have k : Cont L W σ (RelD L) Q H m ((noexc (fs env S)).bind fun ds S1 => match mergeP ds ([], []) with
        | some r => if ds.length ≤ 30 then finD fz r.1 r.2 S1 else .bad
        | none => .bad) := k
      rw [h0 rfl] at k
      have k : Cont L W σ (RelD L) Q H m (finD fz [] [] S) := k
      cases fz
      · exact .here (finD_go (kvs := []) (ks := []) (vs := []) k hs hq rfl rfl)
      · have k : Cont L W σ (RelD L) Q H m (.ok (.dic false [] []) S) := k
        exact finD_z (kvs := []) (l1 := m.locs) k hq (Ext.new hq) (hs.hold hq ⟨fun _ z => (nomatch z), fun _ z => (nomatch z)⟩ rfl) (hs.nopr hq) upd_same rfl rfl
  | cons key0 keys =>
    refine (pe_disp h hall hl (by simp) h15).lkd.imp fun σ H Q ⟨env, S, m, he, hs, k⟩ => ?_
    intro q hq
    refine ht σ _ _ ?_
    have hql : q ∉ m.locs := hs.fresh hq
    have hqp : q ∉ m.pr := hs.nopr hq
    refine ⟨env, S, m.hold q, he.mono G.zm (Mono.hold hq), hs.hold hq ⟨fun _ z => (nomatch z), fun _ z => (nomatch z)⟩ rfl, ?_⟩
    have k : Cont L W σ (RelD L) Q H m ((noexc (fs env S)).bind fun ds S1 => match mergeP ds ([], []) with
      | some r => if ds.length ≤ 30 then finD fz r.1 r.2 S1 else .bad
      | none => .bad) := k
    cases qf : fs env S with
    | bad => rw [qf] at k; exact k.elim
    | exc _ _ _ => rw [qf] at k; exact k.elim
    | ok ds S1 =>
      rw [qf] at k
      have k : Cont L W σ (RelD L) Q H m (match mergeP ds ([], []) with
        | some r => if ds.length ≤ 30 then finD fz r.1 r.2 S1 else .bad
        | none => .bad) := k
      intro H1 m1 vs ex s1 rd
      have hq1 : H1 q = some (.dK []) := ex.keep q _ upd_same hql (fun ps z => nomatch z)
      refine ⟨hq1, ?_⟩
      split at k
      · rename_i r hr
        split at k
        · rename_i h30
          obtain ⟨kps, g1, g2, g3, g4⟩ := mergeP_rel (kvs := []) hr rfl (show RelDs L H1 m1 [] [] from rfl) rd
          refine ⟨kps, g1, by omega, ?_⟩
          obtain ⟨l1, p1, t1⟩ := m1
          have et : t1 = m.T := ex.T
          subst et
          have ep : p1 = q :: m.pr := ex.pr
          subst ep
          have hl1 : q ∉ l1 := fun z => s1.dis q z List.mem_cons_self
          have s2 : RelS L (upd H1 q (.dK (mergeK [] kps))) ⟨l1, q :: m.pr, m.T⟩ S1 := s1.turn List.mem_cons_self ⟨fun _ z => (nomatch z), fun _ z => (nomatch z)⟩ (nf_of hq1 rfl)
          have hv2 := RelDs.mono (Mono.turn (o := .dK (mergeK [] kps)) (p := q) List.mem_cons_self (nf_of hq1 rfl)) _ _ g4
          have hx2 : Ext H m (upd H1 q (.dK (mergeK [] kps))) ⟨l1, m.pr, m.T⟩ := by
            refine ⟨fun a o h1 h2 h3 => ?_, fun a ps h => ?_, ex.pre, fun a ha => ?_, rfl, rfl, fun a o u h => ?_⟩
            · rw [upd_ne (ne_of_none h1 hq)]
              exact ex.keep a o (by rw [upd_ne (ne_of_none h1 hq)]; exact h1) h2 h3
            · obtain ⟨qs, z⟩ := ex.tbl a ps (by rw [upd_ne (ne_of_none h hq)]; exact h)
              exact ⟨qs, by rw [upd_ne (ne_of_none h hq)]; exact z⟩
            · rcases ex.newl a ha with z | z
              · exact .inl z
              · refine .inr ?_
                by_cases e : a = q
                · rw [e]; exact hq
                · rw [upd_ne e] at z; exact z
            · rw [upd_ne (ne_of_none h hq)]
              exact ex.frz a o u (by rw [upd_ne (ne_of_none h hq)]; exact h)
          cases fz
          · have k : Cont L W σ (RelD L) Q H m (.ok (.loc S1.length) (S1 ++ [.dic false r.1 r.2])) := k
            have s3 := RelS.adoptO (m := ⟨l1, m.pr, m.T⟩) (p := q) (ob := .dic false r.1 r.2) s2 hqp ⟨_, _, upd_same, ⟨mergeK [] kps, rfl, g3, rfl⟩, RelDs.mono Mono.adopt _ _ hv2⟩
            have sl : l1.length = S1.length := s1.len
            refine .here (k _ ⟨l1 ++ [q], m.pr, m.T⟩ (.ref q) (hx2.adopt hq) s3 ⟨q, rfl, ?_⟩)
            show (l1 ++ [q])[S1.length]? = _
            rw [List.getElem?_append_right (by omega)]
            simp [sl]
          · have k : Cont L W σ (RelD L) Q H m (.ok (.dic false r.1 r.2) S1) := k
            exact finD_z (kvs := mergeK [] kps) k hq hx2 s2 hqp upd_same g3 hv2
        · exact k.elim
      · exact k.elim
end
end KF

set_option Elab.async false
set_option linter.all false
set_option maxRecDepth 100000
set_option maxHeartbeats 4000000
/-! V8: soundness: targets, what is walked, comprehensions -/
namespace KF
open PySem PySem.Spec PyProof.Rows L2
theorem wipe_get : ∀ (vs : List Nat) (σ : L2.St) (i : Nat), (wipe σ vs)[i]? = if i ∈ vs then (σ[i]?).map (fun _ => none) else σ[i]?
  | [], σ, i => by simp [wipe]
  | v :: vs, σ, i => by
    have ih := wipe_get vs σ i
    have hl := wipe_length σ vs
    show ((wipe σ vs).set v none)[i]? = _
    by_cases hv : v = i
    · subst hv
      rw [if_pos List.mem_cons_self]
      by_cases hi : v < σ.length
      · rw [List.getElem?_set_self (by rw [hl]; exact hi), List.getElem?_eq_getElem hi]; rfl
      · rw [List.getElem?_eq_none (by rw [List.length_set, hl]; omega), List.getElem?_eq_none (by omega)]; rfl
    · rw [List.getElem?_set_ne hv, ih]
      by_cases hm : i ∈ vs
      · rw [if_pos hm, if_pos (List.mem_cons_of_mem _ hm)]
      · rw [if_neg hm, if_neg (fun z => by rcases List.mem_cons.mp z with z | z; exact hv z.symm; exact hm z)]
theorem wipeE_get : ∀ (vs : List Nat) (σ : KF.Env) (i : Nat), (wipeE σ vs)[i]? = if i ∈ vs then (σ[i]?).map (fun _ => none) else σ[i]?
  | [], σ, i => by simp [wipeE]
  | v :: vs, σ, i => by
    have ih := wipeE_get vs σ i
    have hl : (wipeE σ vs).length = σ.length := by
      clear ih
      induction vs with
      | nil => rfl
      | cons w vs ih => show ((wipeE σ vs).set w none).length = _; rw [List.length_set, ih]
    show ((wipeE σ vs).set v none)[i]? = _
    by_cases hv : v = i
    · subst hv
      rw [if_pos List.mem_cons_self]
      by_cases hi : v < σ.length
      · rw [List.getElem?_set_self (by rw [hl]; exact hi), List.getElem?_eq_getElem hi]; rfl
      · rw [List.getElem?_eq_none (by rw [List.length_set, hl]; omega), List.getElem?_eq_none (by omega)]; rfl
    · rw [List.getElem?_set_ne hv, ih]
      by_cases hm : i ∈ vs
      · rw [if_pos hm, if_pos (List.mem_cons_of_mem _ hm)]
      · rw [if_neg hm, if_neg (fun z => by rcases List.mem_cons.mp z with z | z; exact hv z.symm; exact hm z)]
theorem wipeE_length (σ : KF.Env) : ∀ vs : List Nat, (wipeE σ vs).length = σ.length
  | [] => rfl
  | w :: vs => by show ((wipeE σ vs).set w none).length = _; rw [List.length_set, wipeE_length σ vs]
/-- but for some slots alike -/
def Alike (vs : List Nat) (σ σ' : L2.St) : Prop := σ.length = σ'.length ∧ ∀ i, i ∉ vs → σ[i]? = σ'[i]?
theorem Alike.refl (vs : List Nat) (σ : L2.St) : Alike vs σ σ := ⟨rfl, fun _ _ => rfl⟩
theorem Alike.trans {vs : List Nat} {a b c : L2.St} (h : Alike vs a b) (k : Alike vs b c) : Alike vs a c := ⟨h.1.trans k.1, fun i hi => (h.2 i hi).trans (k.2 i hi)⟩
theorem Alike.more {vs ws : List Nat} {a b : L2.St} (h : Alike vs a b) (k : ∀ i ∈ vs, i ∈ ws) : Alike ws a b := ⟨h.1, fun i hi => h.2 i fun z => hi (k i z)⟩
theorem Alike.wipe {vs : List Nat} {σ σ' : L2.St} (h : Alike vs σ σ') : wipe σ' vs = wipe σ vs := by
  apply List.ext_getElem?
  intro i
  rw [wipe_get, wipe_get]
  by_cases hi : i ∈ vs
  · rw [if_pos hi, if_pos hi]
    by_cases hl : i < σ.length
    · rw [List.getElem?_eq_getElem hl, List.getElem?_eq_getElem (by rw [← h.1]; exact hl)]; rfl
    · rw [List.getElem?_eq_none (by have := h.1; omega), List.getElem?_eq_none (by have := h.1; omega)]
  · rw [if_neg hi, if_neg hi, h.2 i hi]
theorem RelE.wipe {L : Lk} {Z : ZP} (zt : ∀ σ H m, Z σ H m) {H : Hp} {m : Mp} {env : KF.Env} {σ : L2.St} (h : RelE L Z H m env σ) (vs : List Nat) : RelE L Z H m (wipeE env vs) (L2.wipe σ vs) := by
  refine ⟨by rw [wipeE_length, wipe_length]; exact h.1, fun i d e => ?_, zt _ _ _, h.2.2.2⟩
  rw [wipeE_get] at e
  split at e
  · cases q : env[i]? with
    | none => rw [q] at e; cases e
    | some o => rw [q] at e; cases e
  · rename_i hi
    obtain ⟨v, e1, r⟩ := h.2.1 i d e
    exact ⟨v, by rw [wipe_get, if_neg hi]; exact e1, r⟩
/-! ### targets -/
def Tgs.len : Tgs → Nat
  | .nil => 0
  | .cons _ r => r.len + 1
mutual
def tGr (K : PySem.W.Frag) : Tg → TG
  | .n i => gName i
  | .t ts => gTup K ts.len (tGs K ts)
def tGs (K : PySem.W.Frag) : Tgs → TGs
  | .nil => gNil
  | .cons t r => gCons (tGr K t) (tGs K r)
end
section
variable {t : Tb} {L : Lk} {g : Cfg} {W : WX} {Z : ZP} {X : Cx} {c : Cc}
theorem fn_loc (G : Good t L g W Z X c) {x : Str} (h : locB c x = true) : Loc X.env.scope x ∧ (X.fn x = true ∨ X.env.scope.names.lookup x = some .local) := by
  unfold locB at h
  rw [L2.Loc, G.sc]
  split at h
  · rename_i q
    exact ⟨.inl q, .inr q⟩
  · rename_i q
    refine ⟨.inr q, .inl (G.fn x ?_)⟩
    cases q2 : c.own with
    | none => trivial
    | some s => rw [q2] at h; exact of_decide_eq_true h
  · cases h
theorem len_tgs (c : Cc) : ∀ {ts : Tgs} {es : List Expr}, chkTs c ts es = true → es.length = ts.len
  | .nil, es, h => by
    unfold chkTs at h
    cases es with
    | nil => rfl
    | cons _ _ => cases h
  | .cons t r, es, h => by
    unfold chkTs at h
    cases es with
    | nil => cases h
    | cons e es =>
      dsimp only at h
      rw [Bool.and_eq_true] at h
      rw [List.length_cons, len_tgs c h.2]; rfl
mutual
theorem g_ok (G : Good t L g W Z X c) (hc : X.calm = true) : ∀ (tg : Tg) (a : Expr), chkT c tg a = true → PG X a (tGr X.K tg)
  | .n i, a, h => by
    unfold chkT at h
    split at h
    · rename_i x p
      rw [Bool.and_eq_true, decide_eq_true_eq] at h
      obtain ⟨h1, h2⟩ := fn_loc G h.2
      exact pg_name (by rw [G.N]; exact G.nd) (by rw [G.N]; exact h.1) h1 h2
    · cases h
  | .t ts, a, h => by
    unfold chkT at h
    split at h
    · rename_i es k p
      rw [Bool.and_eq_true] at h
      exact pg_tup hc (g_oks G hc ts es h.2 h.1) (by rw [asgE_len h.1, len_tgs c h.2]) (asgE_star h.1)
    · cases h
theorem g_oks (G : Good t L g W Z X c) (hc : X.calm = true) : ∀ (ts : Tgs) (es : List Expr), chkTs c ts es = true → es.all notStar = true → PGs X es (tGs X.K ts)
  | .nil, es, h, _ => by
    unfold chkTs at h
    cases es with
    | nil => exact pgs_nil
    | cons _ _ => cases h
  | .cons t r, es, h, hn => by
    unfold chkTs at h
    cases es with
    | nil => cases h
    | cons e es =>
      dsimp only at h
      rw [Bool.and_eq_true] at h
      rw [List.all_cons, Bool.and_eq_true] at hn
      exact pgs_cons (g_ok G hc t e h.1) (g_oks G hc r es h.2 hn.2) (by rw [asgE_cons hn.1]; rfl)
end
end
section
variable {L : Lk} {Z : ZP} {H : Hp} {m : Mp}
theorem asgs_len : ∀ {ts : Tgs} {ds : List D} {env env' : KF.Env}, asgs ts ds env = some env' → ds.length = ts.len
  | .nil, ds, env, env', h => by
    cases ds with
    | nil => rfl
    | cons _ _ => unfold asgs at h; cases h
  | .cons t ts, ds, env, env', h => by
    cases ds with
    | nil => unfold asgs at h; cases h
    | cons d ds =>
      unfold asgs at h
      split at h
      · rw [List.length_cons, asgs_len h]; rfl
      · cases h
mutual
theorem g_sem (zt : ∀ σ H m, Z σ H m) : ∀ (tg : Tg) (d : D) (env env' : KF.Env) (σ : L2.St) (v : V) (Q : L2.St → Hp → Prop), asg tg d env = some env' → RelE L Z H m env σ → RelD L H m d v →
    (∀ σ', RelE L Z H m env' σ' → Alike tg.sl σ σ' → Q σ' H) → tGr L.K tg v σ H Q
  | .n i, d, env, env', σ, v, Q, h, he, r, k => by
    unfold asg at h
    split at h
    · rename_i hi
      cases h
      refine k _ ⟨by rw [List.length_set, List.length_set]; exact he.1, fun j e q => ?_, zt _ _ _, he.2.2.2⟩ ⟨by rw [List.length_set], fun j hj => ?_⟩
      · by_cases hij : i = j
        · subst hij
          rw [List.getElem?_set_self hi] at q
          cases q
          exact ⟨v, by rw [List.getElem?_set_self (by rw [← he.1]; exact hi)], r⟩
        · rw [List.getElem?_set_ne hij] at q
          obtain ⟨w, e1, r1⟩ := he.2.1 j e q
          exact ⟨w, by rw [List.getElem?_set_ne hij]; exact e1, r1⟩
      · have hij : i ≠ j := fun z => hj (by rw [z]; exact List.mem_singleton.mpr rfl)
        rw [List.getElem?_set_ne hij]
    · cases h
  | .t ts, d, env, env', σ, v, Q, h, he, r, k => by
    cases d <;> (try (unfold asg at h; cases h; done))
    rename_i ds
    unfold asg at h
    obtain ⟨a, vs, rfl, ha, rs⟩ := r
    have hl : ds.length = ts.len := asgs_len h
    exact ⟨a, vs, rfl, ha.sq, by rw [rs.length, hl], g_sems zt ts ds env env' σ vs Q h he rs k⟩
theorem g_sems (zt : ∀ σ H m, Z σ H m) : ∀ (ts : Tgs) (ds : List D) (env env' : KF.Env) (σ : L2.St) (vs : List V) (Q : L2.St → Hp → Prop), asgs ts ds env = some env' → RelE L Z H m env σ → RelDs L H m ds vs →
    (∀ σ', RelE L Z H m env' σ' → Alike ts.sl σ σ' → Q σ' H) → tGs L.K ts vs σ H Q
  | .nil, ds, env, env', σ, vs, Q, h, he, r, k => by
    cases ds with
    | nil =>
      unfold asgs at h
      cases h
      exact ⟨r, k _ he (Alike.refl _ _)⟩
    | cons _ _ => unfold asgs at h; cases h
  | .cons t ts, ds, env, env', σ, vs, Q, h, he, r, k => by
    cases ds with
    | nil => unfold asgs at h; cases h
    | cons d ds =>
      unfold asgs at h
      split at h
      · rename_i env1 q
        obtain ⟨v, w, rfl, r1, r2⟩ := r
        refine ⟨v, w, rfl, g_sem zt t d env env1 σ v _ q he r1 fun σ1 he1 a1 => ?_⟩
        refine g_sems zt ts ds env1 env' σ1 w Q h he1 r2 fun σ2 he2 a2 => k σ2 he2 ?_
        exact (a1.more fun i hi => List.mem_append_left _ hi).trans (a2.more fun i hi => List.mem_append_right _ hi)
      · cases h
end
end
/-! ### what is walked -/
structure WalkJ (J : L2.It) (vs : List V) (std : Hp → Prop) : Prop where
  go : ∀ i H, std H → i < vs.length → J.go i H
  stop : ∀ i H, std H → vs.length ≤ i → J.stop i H
  yld : ∀ i H x H', std H → i < vs.length → J.yld i H x H' → H' = H ∧ vs[i]? = some x
abbrev Wk := L2.It × List V × (Hp → Prop)
def RlI (L : Lk) : Hp → Mp → List D → Wk → Prop := fun H m ds p => RelDs L H m ds p.2.1 ∧ WalkJ p.1 p.2.1 p.2.2 ∧ p.2.2 H ∧ ∀ H2 m2, Mono H m H2 m2 → (∀ a o u, H a = some (.frz o u) → H2 a = some (.frz o u)) → p.2.2 H2
def tI (L : Lk) (W : WX) (Z : ZP) (f : KF.Env → Store → R (List D)) : TI := fun σ H R => tE L W Z (RlI L) f σ H fun p H' => R p.1 H'
theorem walk_list {K : PySem.W.Frag} {a : Addr} {vs : List V} : WalkJ (Itl K a) vs fun H => SqL K H a vs :=
  ⟨fun i H s h => ⟨vs, vs[i], s, by simp [h]⟩, fun i H s h => ⟨vs, s, h⟩, fun i H x H' s _ ⟨e, y⟩ => ⟨e, y vs s⟩⟩
theorem walk_tup {K : PySem.W.Frag} {a : Addr} {vs : List V} : WalkJ (Itt K a) vs fun H => SqT K H a vs :=
  ⟨fun i H s h => ⟨vs, vs[i], s, by simp [h]⟩, fun i H s h => ⟨vs, s, h⟩, fun i H x H' s _ ⟨e, y⟩ => ⟨e, y vs s⟩⟩
theorem walk_rng {a : Int} {n : Nat} : WalkJ (Itr a n) ((List.range n).map fun (i : Nat) => V.int (a + (i : Int))) fun _ => True := by
  refine ⟨fun i H _ h => ?_, fun i H _ h => ?_, fun i H x H' _ h ⟨e, y⟩ => ?_⟩
  · rw [List.length_map, List.length_range] at h; exact h
  · rw [List.length_map, List.length_range] at h; exact h
  · rw [List.length_map, List.length_range] at h
    exact ⟨e, by rw [List.getElem?_map, List.getElem?_range h, y]; rfl⟩
theorem walk_keys {d : Addr} {o : Obj} {kvs : List (Key × V)} : WalkJ (Itk d o kvs) (kvs.map fun kv => kV kv.1) fun H => H d = some (.frz o (.dK kvs)) := by
  refine ⟨fun i H s h => ⟨s, by simpa using h⟩, fun i H s h => ⟨s, by simpa using h⟩, fun i H x H' s h ⟨e, k, v, h1, h2⟩ => ⟨e, ?_⟩⟩
  rw [List.getElem?_map, h1, h2]; rfl
theorem walk_vals {d : Addr} {o : Obj} {kvs : List (Key × V)} : WalkJ (Itd d o kvs) (kvs.map (·.2)) fun H => H d = some (.frz o (.dK kvs)) := by
  refine ⟨fun i H s h => ⟨s, by simpa using h⟩, fun i H s h => ⟨s, by simpa using h⟩, fun i H x H' s h ⟨e, k, h1⟩ => ⟨e, ?_⟩⟩
  rw [List.getElem?_map, h1]; rfl
theorem walk_str {x : Str} : WalkJ (Its x) (x.cps.toList.map fun c => V.str ⟨#[c]⟩) fun _ => True := by
  refine ⟨fun i H _ h => ?_, fun i H _ h => ?_, fun i H v H' _ h ⟨e, c, h1, h2⟩ => ⟨e, ?_⟩⟩
  · rw [List.length_map, Array.length_toList] at h; exact h
  · rw [List.length_map, Array.length_toList] at h; exact h
  · rw [List.getElem?_map, Array.getElem?_toList, h1, h2]; rfl
theorem PI.imp {X : Cx} {tg e : Expr} {t t' : TI} (h : PI X tg e t) (k : ∀ σ H R, t' σ H R → t σ H R) : PI X tg e t' := ⟨fun pins s σ H R I w => h.run pins s σ H R I (k σ H R w)⟩
section
variable {t : Tb} {L : Lk} {g : Cfg} {W : WX} {Z : ZP} {X : Cx} {c : Cc}
theorem sgns_rel {H : Hp} {m : Mp} : ∀ l : List Nat, RelDs L H m (l.map fun c => D.str ⟨#[c]⟩) (l.map fun c => V.str ⟨#[c]⟩)
  | [] => rfl
  | i :: l => ⟨_, _, rfl, rfl, sgns_rel l⟩
/-- a locked dict -/
theorem lck_rd {S : Store} {H : Hp} {m : Mp} {d : D} {v : V} {ks vs : List D} (s : RelS L H m S) (r : RelD L H m d v) (h : lckOf S d = some (ks, vs)) :
    ∃ a o kvs, v = .ref a ∧ H a = some (.frz o (.dK kvs)) ∧ mapO fkey ks = some (kvs.map (·.1)) ∧ RelDs L H m vs (kvs.map (·.2)) := by
  unfold lckOf at h
  split at h
  · cases h
    obtain ⟨a, us, e, _, _, ⟨o, u, h1, kvs, rfl, h3, rfl⟩, h5⟩ := r
    exact ⟨a, o, kvs, e, h1, h3, h5⟩
  · rename_i n
    obtain ⟨a, rfl, ha⟩ := r
    split at h
    · rename_i q
      cases h
      obtain ⟨b, e1, o, u, us, e2, ⟨kvs, rfl, h3, rfl⟩, e4⟩ := s.at_ n _ q
      rw [ha] at e1; cases e1
      exact ⟨a, o, kvs, rfl, e2, h3, e4⟩
    · cases h
  · cases h
theorem i_val (G : Good t L g W Z X c) {tg a : Expr} {f : Ev} (he : PE X a (tD L W Z f)) : PI X tg a (tI L W Z fun env S => (f env S).bind seqIt) := by
  refine ⟨fun pins s σ H R I w => ?_⟩
  have w2 := tE.seq (Rl := RelD L) G.zm (g := fun _ d S1 => seqIt d S1) w
  refine thn (he.run pins s σ H _ I w2) fun v s1 ⟨x, H1, I1, r1, env, S1, m1, d, hE, hs, r, k⟩ => ?_
  have lst : ∀ {xs : List D} {a' : Addr} {vs : List V}, x = .ref a' → Rd H1 a' (.lst vs) → RelDs L H1 m1 xs vs → (∀ H2 m2, Mono H1 m1 H2 m2 → (∀ a o u, H1 a = some (.frz o u) → H2 a = some (.frz o u)) → Rd H2 a' (.lst vs)) → Cont L W σ (RlI L) (fun p H' => R p.1 H') H1 m1 (.ok xs S1) → wpAny (model X.prog X.w) X.A (pyIter v) (PIE X pins σ tg R) X.xe s1 := by
    intro xs a' vs e hq hr hst k
    subst e
    cases r1
    obtain ⟨its, rv, p, hz⟩ := I1.list (show SqL X.K H1 a' vs from .inl hq)
    refine wpAny_pyIter_list p.isList ?_
    refine ⟨s1.heap.objs.size, [s1.heap.objs.size], _, Itl X.K a', H1, rfl, I1.kept (t' := s1.toks) fun b o e => Heap.get?_push_of_some _ e, turn_list a' _, ⟨_, Heap.get?_push_size _ rfl, rfl, rfl⟩, fun b hb => ?_, ?_⟩
    · have e : b = s1.heap.objs.size := by simpa using hb
      subst e
      exact I1.fpOk (Nat.le_refl _) (I1.hok.fresh (Nat.le_refl _))
    · exact k H1 m1 (Itl X.K a', vs, fun H => SqL X.K H a' vs) (Ext.refl _ _) hs ⟨hr, walk_list, .inl hq, fun H2 m2 e ef => .inl (hst H2 m2 e ef)⟩
  unfold seqIt at k
  split at k
  · rename_i xs q
    split at k
    · rename_i n
      split at k
      · rename_i ys q2
        have e : ys = xs := by
          replace q : lstOf S1 (.loc n) = some xs := q
          unfold lstOf at q
          dsimp only at q
          rw [q2] at q
          exact Option.some.inj q
        subst e
        obtain ⟨a', rfl, ha⟩ := r
        obtain ⟨b, e1, o, vs, e2, e3⟩ := hs.at_ n _ q2
        rw [ha] at e1; cases e1
        exact lst rfl (.inr ⟨o, e2⟩) e3 (fun H2 m2 e ef => .inr ⟨o, ef _ _ _ e2⟩) k
      · exact k.elim
    · cases d with
      | tup ys =>
        cases q
        obtain ⟨a', vs, rfl, ha, hr⟩ := r
        cases r1
        have hq : SqT X.K H1 a' vs := by rw [G.K]; exact ha.sq
        obtain ⟨its, rv, p, hz⟩ := I1.tuple hq
        refine wpAny_pyIter_tuple (show s1.heap.IsTuple a' its.toArray from p) ?_
        refine ⟨s1.heap.objs.size, [s1.heap.objs.size], _, Itt X.K a', H1, rfl, I1.kept (t' := s1.toks) fun b o e => Heap.get?_push_of_some _ e, turn_tuple a' _, ⟨_, Heap.get?_push_size _ rfl, rfl, rfl⟩, fun b hb => ?_, ?_⟩
        · have e : b = s1.heap.objs.size := by simpa using hb
          subst e
          exact I1.fpOk (Nat.le_refl _) (I1.hok.fresh (Nat.le_refl _))
        · exact k H1 m1 (Itt X.K a', vs, fun H => SqT X.K H a' vs) (Ext.refl _ _) hs ⟨hr, walk_tup, hq, fun H2 m2 e _ => by rw [G.K]; exact (ha.mono e).sq⟩
      | lst ys =>
        cases q
        obtain ⟨a', vs, rfl, ha, hr⟩ := r
        exact lst rfl ha.2.2 hr (fun H2 m2 e _ => (ha.mono e).2.2) k
      | loc n => rename_i hh; exact absurd rfl (hh n)
      | _ => cases q
  · split at k
    · rename_i ks vs' q2
      obtain ⟨a', o, kvs, rfl, h1, h3, h5⟩ := lck_rd hs r q2
      cases r1
      obtain ⟨hs0, hgd, hx, es, ep, vs2, hdt, hsz, kv, hm⟩ := I1.frzK h1
      refine iter_keys hs0 hgd hx hdt (pi_one (tk := s1.toks) I1 _ (turn_keys (d := a') (kvs := kvs) _ hdt) ⟨_, Heap.get?_push_size _ rfl, rfl, ?_⟩ ?_)
      · rw [hsz] <;> rfl
      · refine k H1 m1 (Itk a' o kvs, _, fun H => H a' = some (.frz o (.dK kvs))) (Ext.refl _ _) hs ⟨?_, walk_keys, h1, fun H2 m2 e ef => ef _ _ _ h1⟩
        have := keys_rel (L := L) (H := H1) (m := m1) h3
        rw [List.map_map] at this
        exact this
    · split at k
      · rename_i z _ _
        have r : x = .str z := r
        subst r
        obtain ⟨tk, rfl⟩ := r1
        have q : R (Its z) H1 := k H1 m1 (Its z, _, fun _ => True) (Ext.refl _ _) hs ⟨sgns_rel _, walk_str, trivial, fun _ _ _ _ => trivial⟩
        cases ha : z.cps.all (· < 128)
        · exact wpAny_pyIter_wide ha (pi_one (tk := s1.toks) I1 _ (turn_str _ z tk "str_iterator" (.inr rfl)) ⟨_, Heap.get?_push_size _ rfl, rfl, rfl⟩ q)
        · exact wpAny_pyIter_ascii ha (pi_one (tk := s1.toks) I1 _ (turn_str _ z tk "str_ascii_iterator" (.inl rfl)) ⟨_, Heap.get?_push_size _ rfl, rfl, rfl⟩ q)
      · exact k.elim
theorem i_rng (G : Good t L g W Z X c) {tg a : Expr} {x : Str} {p p2 : Pos} {f : Ev} (hb : bltB t c x "range" = true) (hn : notStar a = true) (he : PE X a (tD L W Z f)) : PI X tg (.Call (.Name x p) [a] [] p2) (tI L W Z fun env S => (f env S).bind fun x S1 => rngIt (.int 0) x S1) := by
  obtain ⟨rfl, h1, h2⟩ := blt_of G hb
  refine PI.imp (pi_range1 h1 h2 (pa_cons he pa_nil (star_cons hn)) (star_cons hn)) fun σ H R w => ?_
  refine (tE.seq (Rl := RelD L) G.zm (g := fun _ d S1 => rngIt (.int 0) d S1) w).imp fun v H1 ⟨env, S1, m1, d, hE, hs, r, k⟩ => ?_
  cases d <;> try exact k.elim
  rename_i n
  have r : v = .int n := r
  unfold rngIt at k
  dsimp only at k
  split at k
  · rename_i hn
    refine ⟨n, by rw [r], hn.2.2.1, hn.2.2.2, ?_⟩
    have q := k H1 m1 (Itr 0 (n - 0).toNat, _, fun _ => True) (Ext.refl _ _) hs ⟨rng_rel 0 _, walk_rng, trivial, fun _ _ _ _ => trivial⟩
    rw [Int.sub_zero] at q
    exact q
  · exact k.elim
/-- d.values() -/
theorem i_vals (G : Good t L g W Z X c) {tg a : Expr} {p ap : Pos} {f : Ev} (hb : plainBase a = true) (hline : (ap.endLine == p.line) = true) (he : PE X a (tD L W Z f)) : PI X tg (.Call (.Attribute a "values" ap) [] [] p) (tI L W Z fun env S => (f env S).bind fun x S1 => match lckOf S1 x with
    | some (_, vs) => .ok vs S1
    | none => .bad) := by
  refine PI.imp (pi_values he (plainBase_ok hb _ _ _) hline) fun σ H R w => ?_
  refine (tE.seq (Rl := RelD L) G.zm (g := fun _ x S1 => match lckOf S1 x with
    | some (_, vs) => KF.R.ok vs S1
    | none => KF.R.bad) w).imp fun v H1 ⟨env, S1, m1, d, hE, hs, r, k⟩ => ?_
  split at k
  · rename_i ks vs q
    obtain ⟨a', o, kvs, rfl, h1, h3, h5⟩ := lck_rd hs r q
    exact ⟨a', o, kvs, rfl, h1, k H1 m1 (Itd a' o kvs, _, fun H => H a' = some (.frz o (.dK kvs))) (Ext.refl _ _) hs ⟨h5, walk_vals, h1, fun H2 m2 e ef => ef _ _ _ h1⟩⟩
  · exact k.elim
end
end KF

set_option Elab.async false
set_option linter.all false
set_option maxRecDepth 100000
set_option maxHeartbeats 4000000
/-! V9: soundness: a comprehension -/
namespace KF
open PySem PySem.Spec PyProof.Rows L2
abbrev W0 : WX := fun _ _ _ _ => False
abbrev Z0 : ZP := fun _ _ _ => True
section
variable {t : Tb} {L : Lk} {g : Cfg} {W : WX} {Z : ZP} {X : Cx} {c : Cc}
theorem lcL_cons {F : D → Store → R (Option D)} {x : D} {xs : List D} {S : Store} : lcL F (x :: xs) S = (F x S).bind fun o S1 => (lcL F xs S1).bind fun r S2 => .ok (match o with
    | some y => y :: r
    | none => r) S2 := rfl
theorem lcF_none {tg : Tg} {env : KF.Env} {fc : KF.Env → Store → R Bool} {fe : Ev} {x : D} {S : Store} (h : asg tg x (wipeE env tg.sl) = none) : lcF tg env fc fe x S = .bad := by
  unfold lcF; rw [h]
theorem lcF_some {tg : Tg} {env env' : KF.Env} {fc : KF.Env → Store → R Bool} {fe : Ev} {x : D} {S : Store} (h : asg tg x (wipeE env tg.sl) = some env') : lcF tg env fc fe x S = (fc env' S).bind fun b S1 => if b = true then (fe env' S1).bind fun y S2 => .ok (some y) S2 else .ok none S1 := by
  unfold lcF; rw [h]
theorem alike_wipe (σ : L2.St) (vs : List Nat) : Alike vs σ (wipe σ vs) := ⟨(wipe_length σ vs).symm, fun i hi => by rw [wipe_get, if_neg hi]⟩
theorem lc_read (G : Good t L g W Z X c) {fz : Bool} {tg : Tg} {fi : KF.Env → Store → R (List D)} {fc : KF.Env → Store → R Bool} {fe : Ev} {σ : L2.St} {H : Hp} {Q : VK}
    (w : tD L W Z (fun env S => (fi env S).bind fun xs S1 => (noexc (lcL (lcF tg env fc fe) xs S1)).bind fun ys S5 => finL fz ys S5) σ H Q) :
    tLc (tI L W Z fi) (tGr L.K tg) (tBb L W0 Z0 fc) (tD L W0 Z0 fe) ((ownOf c tg).map (·.2)) σ H Q := by
  have hown : (ownOf c tg).map (·.2) = tg.sl := by
    unfold ownOf
    rw [List.map_map]
    exact List.map_id' _
  rw [hown]
  refine (tE.seq (Rl := RlI L) G.zm (g := fun env xs S1 => (noexc (lcL (lcF tg env fc fe) xs S1)).bind fun ys S5 => finL fz ys S5) w).imp fun pJ H1 ⟨env, S1, m1, xs, hE, hs, hR, k⟩ => ?_
  obtain ⟨J, vs, std⟩ := pJ
  obtain ⟨hr, wj, st0, stm⟩ := hR
  have hr : RelDs L H1 m1 xs vs := hr
  have hlen : vs.length = xs.length := hr.length
  intro A hA
  have hAl : A ∉ m1.locs := hs.fresh hA
  have hAp : A ∉ m1.pr := hs.nopr hA
  let Inv' : Nat → Hp → Prop := fun i H' => ∃ (ls : List Addr) (S' : Store) (acc : List D) (avs : List V), H' A = some (.lst avs) ∧ RelDs L H' ⟨ls, A :: m1.pr, m1.T⟩ acc avs ∧ RelS L H' ⟨ls, A :: m1.pr, m1.T⟩ S' ∧
    Ext H1 m1 H' ⟨ls, m1.pr, m1.T⟩ ∧ Cont L W σ (RelD L) Q H1 m1 ((noexc (lcL (lcF tg env fc fe) (xs.drop i) S')).bind fun ys S5 => finL fz (acc ++ ys) S5)
  refine ⟨fun i n H' => n = vs.length - i ∧ i ≤ vs.length ∧ Inv' i H', ⟨vs.length, by simp, Nat.zero_le _, m1.locs, S1, [], [], upd_same, rfl, hs.hold hA .lst rfl, Ext.new hA, k⟩, ?_⟩
  rintro i n H' ⟨rfl, hil0, ls, S', acc, avs, hAv, hacc, hS, hx, hk⟩
  have hil : i ≤ vs.length := hil0
  have hlsA : A ∉ ls := fun z => hS.dis A z List.mem_cons_self
  -- what stood at H1 stands
  have mono1 : Mono H1 m1 H' ⟨ls, A :: m1.pr, m1.T⟩ := ⟨fun a o h1 h2 _ h4 => hx.keep a o h1 h2 h4, hx.pre, fun a h => (hx.newl a h).imp id .inr, fun a h => by
    rcases List.mem_cons.mp h with h | h
    · exact .inr (by rw [h]; exact hA)
    · exact .inl h, hx.T⟩
  have hstd : std H' := stm _ _ mono1 hx.frz
  by_cases hlt : i < vs.length
  · refine .inr ⟨wj.go i H' hstd hlt, Inv' (i + 1), fun H2 h2 => ⟨vs.length - (i + 1), by omega, rfl, hlt, h2⟩, fun x H2 hy => ?_⟩
    obtain ⟨rfl, hxi⟩ := wj.yld i H' x H2 hstd hlt hy
    have hix : i < xs.length := by omega
    obtain ⟨x', hx1, rx⟩ := hr.get (List.getElem?_eq_getElem hix)
    rw [hxi] at hx1; cases hx1
    rw [List.drop_eq_getElem_cons hix, lcL_cons] at hk
    have rx' := RelD.mono mono1 _ _ rx
    cases qa : asg tg xs[i] (wipeE env tg.sl) with
    | none => rw [lcF_none qa] at hk; exact hk.elim
    | some env' =>
      rw [lcF_some qa] at hk
      have hE0 : RelE L Z0 H2 ⟨ls, A :: m1.pr, m1.T⟩ (wipeE env tg.sl) (wipe σ tg.sl) := by
        have h0 : RelE L Z H2 ⟨ls, A :: m1.pr, m1.T⟩ env σ := hE.mono G.zm mono1
        exact RelE.wipe (Z := Z0) (fun _ _ _ => trivial) ⟨h0.1, h0.2.1, trivial, h0.2.2.2⟩ _
      refine g_sem (fun _ _ _ => trivial) tg _ _ env' _ x _ qa hE0 rx' fun σ2 he2 al => ⟨?_, ?_⟩
      · exact ((alike_wipe σ tg.sl).trans al).wipe
      refine ⟨env', S', _, he2, hS, ?_⟩
      cases qc : fc env' S' with
      | bad => rw [qc] at hk; exact hk.elim
      | exc _ _ _ => rw [qc] at hk; exact hk.elim
      | ok b S3 =>
        rw [qc] at hk
        intro H3 m3 b' ex3 s3 r3
        have r3 : b = b' := r3
        subst r3
        obtain ⟨l3, p3, t3⟩ := m3
        have et3 : t3 = m1.T := ex3.T
        subst et3
        have ep3 : p3 = A :: m1.pr := ex3.pr
        subst ep3
        have hA3 : H3 A = some (.lst avs) := ex3.keep A _ hAv hlsA (fun ps z => nomatch z)
        have hx3 : Ext H1 m1 H3 ⟨l3, m1.pr, m1.T⟩ := hx.trans (ex3.pr' rfl)
        have hacc3 := RelDs.mono ex3.mono _ _ hacc
        cases b with
        | false =>
          rw [if_neg Bool.false_ne_true]
          exact ⟨l3, S3, acc, avs, hA3, hacc3, s3, hx3, by
            have e : ((R.ok false S3).bind fun (b : Bool) S1 => if b = true then (fe env' S1).bind fun y S2 => R.ok (some y) S2 else R.ok none S1) = R.ok none S3 := rfl
            rw [e] at hk
            have e2 : ((R.ok (none : Option D) S3).bind fun o S1 => (lcL (lcF tg env fc fe) (xs.drop (i + 1)) S1).bind fun r S2 => R.ok (match o with | some y => y :: r | none => r) S2) = (lcL (lcF tg env fc fe) (xs.drop (i + 1)) S3) := by
              show ((lcL (lcF tg env fc fe) (xs.drop (i + 1)) S3).bind fun r S2 => R.ok r S2) = _
              cases lcL (lcF tg env fc fe) (xs.drop (i + 1)) S3 <;> rfl
            rw [e2] at hk
            exact hk⟩
        | true =>
          rw [if_pos rfl]
          refine ⟨env', S3, _, he2.mono (fun _ _ _ _ _ _ _ => trivial) ex3.mono, s3, ?_⟩
          have e : ((R.ok true S3).bind fun (b : Bool) S1 => if b = true then (fe env' S1).bind fun y S2 => R.ok (some y) S2 else R.ok none S1) = (fe env' S3).bind fun y S2 => R.ok (some y) S2 := rfl
          rw [e] at hk
          cases qe : fe env' S3 with
          | bad => rw [qe] at hk; exact hk.elim
          | exc _ _ _ => rw [qe] at hk; exact hk.elim
          | ok y S4 =>
            rw [qe] at hk
            intro H4 m4 vy ex4 s4 ry
            obtain ⟨l4, p4, t4⟩ := m4
            have et4 : t4 = m1.T := ex4.T
            subst et4
            have ep4 : p4 = A :: m1.pr := ex4.pr
            subst ep4
            have hl3A : A ∉ l3 := fun z => s3.dis A z List.mem_cons_self
            have hA4 : H4 A = some (.lst avs) := ex4.keep A _ hA3 hl3A (fun ps z => nomatch z)
            have hacc4 := RelDs.mono ex4.mono _ _ hacc3
            have hx4 : Ext H1 m1 H4 ⟨l4, m1.pr, m1.T⟩ := hx3.trans (ex4.pr' rfl)
            have e3 : (((R.ok y S4).bind fun y S2 => R.ok (some y) S2).bind fun o S1 => (lcL (lcF tg env fc fe) (xs.drop (i + 1)) S1).bind fun r S2 => R.ok (match o with | some y => y :: r | none => r) S2) = ((lcL (lcF tg env fc fe) (xs.drop (i + 1)) S4).bind fun r S2 => R.ok (y :: r) S2) := rfl
            rw [e3] at hk
            have hk2 : Cont L W σ (RelD L) Q H1 m1 ((noexc (lcL (lcF tg env fc fe) (xs.drop (i + 1)) S4)).bind fun ys S5 => finL fz ((acc ++ [y]) ++ ys) S5) := by
              cases qr : lcL (lcF tg env fc fe) (xs.drop (i + 1)) S4 with
              | bad => rw [qr] at hk; exact hk
              | exc _ _ _ => rw [qr] at hk; exact hk
              | ok r S5 =>
                rw [qr] at hk
                have e4 : (acc ++ [y]) ++ r = acc ++ (y :: r) := by simp
                show Cont L W σ (RelD L) Q H1 m1 (finL fz ((acc ++ [y]) ++ r) S5)
                rw [e4]
                exact hk
            have hsz : acc.length < sizeLine := by
              cases qr : lcL (lcF tg env fc fe) (xs.drop (i + 1)) S4 with
              | bad => rw [qr] at hk; exact hk.elim
              | exc _ _ _ => rw [qr] at hk; exact hk.elim
              | ok r S5 =>
                rw [qr] at hk
                have hk3 : Cont L W σ (RelD L) Q H1 m1 (finL fz (acc ++ (y :: r)) S5) := hk
                unfold finL at hk3
                split at hk3
                · rename_i hh
                  rw [List.length_append, List.length_cons] at hh
                  omega
                · exact hk3.elim
            refine ⟨avs, hA4, by rw [hacc4.length]; exact hsz, l4, S4, acc ++ [y], avs ++ [vy], upd_same, ?_, ?_, ?_, hk2⟩
            · exact RelDs.mono (Mono.turn (p := A) (List.mem_cons_self) (nf_of hA4 rfl)) _ _ (hacc4.app (.one ry))
            · exact s4.turn List.mem_cons_self .lst (nf_of hA4 rfl)
            · exact ⟨fun a o h1 h2 h3 => by rw [upd_ne (ne_of_none h1 hA)]; exact hx4.keep a o h1 h2 h3, fun a ps h => by
                obtain ⟨qs, z⟩ := hx4.tbl a ps h
                exact ⟨qs, by rw [upd_ne (ne_of_none h hA)]; exact z⟩, hx4.pre, hx4.newl, rfl, rfl, fun a o u h => by rw [upd_ne (ne_of_none h hA)]; exact hx4.frz a o u h⟩
  · have ei : i = vs.length := by omega
    refine .inl ⟨wj.stop i H' hstd (show vs.length ≤ i by omega), ?_⟩
    have ed : xs.drop i = [] := List.drop_eq_nil_of_le (by omega)
    rw [ed] at hk
    have hk2 : Cont L W σ (RelD L) Q H1 m1 (finL fz (acc ++ []) S') := hk
    rw [List.append_nil] at hk2
    unfold finL at hk2
    split at hk2
    · have sd : RelS L H' ⟨ls, m1.pr, m1.T⟩ S' := RelS.drop (m := ⟨ls, m1.pr, m1.T⟩) (p := A) hS
      cases fz with
      | true =>
        rw [if_pos rfl] at hk2
        exact hk2 H' ⟨ls, m1.pr, m1.T⟩ (.ref A) hx sd ⟨A, avs, rfl, ⟨hlsA, hAp, .inl hAv⟩, RelDs.mono (Mono.drop (m := ⟨ls, m1.pr, m1.T⟩) (p := A)) _ _ hacc⟩
      | false =>
        rw [if_neg Bool.false_ne_true] at hk2
        have sl : ls.length = S'.length := hS.len
        refine hk2 H' ⟨ls ++ [A], m1.pr, m1.T⟩ (.ref A) ⟨hx.keep, hx.tbl, hx.pre.trans (List.prefix_append _ _), fun a h => ?_, rfl, rfl, hx.frz⟩ (RelS.adopt (m := ⟨ls, m1.pr, m1.T⟩) hS hAv hAp hacc) ⟨A, rfl, ?_⟩
        · rcases List.mem_append.mp h with h | h
          · exact hx.newl a h
          · exact .inr (by rw [List.mem_singleton.mp h]; exact hA)
        · show (ls ++ [A])[S'.length]? = _
          rw [List.getElem?_append_right (by omega)]
          simp [sl]
    · exact hk2.elim
theorem e_lc (G : Good t L g W Z X c) {fz : Bool} {tg : Tg} {fi : KF.Env → Store → R (List D)} {fc : KF.Env → Store → R Bool} {fe : Ev} {elt tgt iter : Expr} {ifs : List Expr} {s : Scope} {p : Pos} (hc : c.suite = none) (hns : notSet iter = true)
    (hi : PI X tgt iter (tI L W Z fi)) (hb : blkC c.N c.sc s (ownOf c tg) = true)
    (hg : ∀ (s' : Shared) (H : Hp) (C : Addr) (cl : List (Str × Addr)) (fp : List Addr), PG (X.blk s' H s (compEnvC s cl C X.env) fp) tgt (tGr L.K tg))
    (ht : ∀ (s' : Shared) (H : Hp) (C : Addr) (cl : List (Str × Addr)) (fp : List Addr), PTs (X.blk s' H s (compEnvC s cl C X.env) fp) ifs (tBb L W0 Z0 fc))
    (he : ∀ (s' : Shared) (H : Hp) (C : Addr) (cl : List (Str × Addr)) (fp : List Addr), PE (X.blk s' H s (compEnvC s cl C X.env) fp) elt (tD L W0 Z0 fe)) :
    PE X (.ListComp elt [⟨tgt, iter, ifs, 0⟩] s p) (tD L W Z fun env S => (fi env S).bind fun xs S1 => (noexc (lcL (lcF tg env fc fe) xs S1)).bind fun ys S5 => finL fz ys S5) := by
  have hb' : blkC X.N X.env.scope s (ownOf c tg) = true := by rw [G.N, G.sc]; exact hb
  exact (pe_lc (G.calm hc) (by rw [G.N]; exact G.nd) hi (blkOk_by hb') hg ht he (notSet_fold hns _)).imp fun σ H Q w => lc_read G w
/-- stored within the comprehension's frame -/
theorem s_lc (G : Good t L g W Z X c) {fz : Bool} {tg : Tg} {fi : KF.Env → Store → R (List D)} {fc : KF.Env → Store → R Bool} {fe : Ev} {elt tgt iter : Expr} {ifs : List Expr} {s : Scope} {p py spos : Pos} {i : Nat} {y : Str} (hc : c.suite = none) (hns : notSet iter = true)
    (hy : c.N[i]? = some y) (hyl : c.sc.names.lookup y = some .local) (hsw : swapsWith (.ListComp elt [⟨tgt, iter, ifs, 0⟩] s p) (some (.Name y py)) spos.line X.env = pure true)
    (hi : PI X tgt iter (tI L W Z fi)) (hb : blkC c.N c.sc s (ownOf c tg) = true)
    (hg : ∀ (s' : Shared) (H : Hp) (C : Addr) (cl : List (Str × Addr)) (fp : List Addr), PG (X.blk s' H s (compEnvC s cl C X.env) fp) tgt (tGr L.K tg))
    (ht : ∀ (s' : Shared) (H : Hp) (C : Addr) (cl : List (Str × Addr)) (fp : List Addr), PTs (X.blk s' H s (compEnvC s cl C X.env) fp) ifs (tBb L W0 Z0 fc))
    (he : ∀ (s' : Shared) (H : Hp) (C : Addr) (cl : List (Str × Addr)) (fp : List Addr), PE (X.blk s' H s (compEnvC s cl C X.env) fp) elt (tD L W0 Z0 fe)) :
    PS X (.Assign [.Name y py] (.ListComp elt [⟨tgt, iter, ifs, 0⟩] s p) spos) (fun D σ H => tD L W Z (fun env S => (fi env S).bind fun xs S1 => (noexc (lcL (lcF tg env fc fe) xs S1)).bind fun ys S5 => finL fz ys S5) σ H fun x H1 => gName i x σ H1 D.nx) := by
  have hb' : blkC X.N X.env.scope s (ownOf c tg) = true := by rw [G.N, G.sc]; exact hb
  refine ⟨fun pins s' σ H D I w => (ps_setLc (G.calm hc) (by rw [G.N]; exact G.nd) (by rw [G.N]; exact hy) (by rw [G.sc]; exact hyl) hsw hi (blkOk_by hb') hg ht he (notSet_fold hns _)).run pins s' σ H D I (lc_read G w)⟩
end
end KF

set_option Elab.async false
set_option linter.all false
set_option maxRecDepth 100000
set_option maxHeartbeats 4000000
/-! V9b: soundness: a dict comprehension; a list or dict that is walked is locked meanwhile -/
namespace KF
open PySem PySem.Spec PyProof.Rows L2
section
variable {t : Tb} {L : Lk} {g : Cfg} {W : WX} {Z : ZP} {X : Cx} {c : Cc}
theorem noexc_bind {α β : Type} {r : R α} {f : α → Store → R β} : noexc (r.bind f) = (noexc r).bind fun x S => noexc (f x S) := by
  cases r <;> rfl
theorem dcF_none {tg : Tg} {env : KF.Env} {fc : KF.Env → Store → R Bool} {fk fe : Ev} {x : D} {S : Store} (h : asg tg x (wipeE env tg.sl) = none) : dcF tg env fc fk fe x S = .bad := by
  unfold dcF; rw [h]
theorem dcF_some {tg : Tg} {env env' : KF.Env} {fc : KF.Env → Store → R Bool} {fk fe : Ev} {x : D} {S : Store} (h : asg tg x (wipeE env tg.sl) = some env') : dcF tg env fc fk fe x S = (fc env' S).bind fun b S1 => if b = true then (fk env' S1).bind fun y S2 => (fe env' S2).bind fun z S3 => .ok (some (y, z)) S3 else .ok none S1 := by
  unfold dcF; rw [h]
theorem dcL_cons {F : D → Store → R (Option (D × D))} {x : D} {xs : List D} {acc : List D × List D} {S : Store} : dcL F (x :: xs) acc S = (F x S).bind fun o S1 => match o with
    | some (k, v) => if (fkey k).isSome = true ∧ acc.1.length < sizeLine then dcL F xs (putD k v acc.1 acc.2) S1 else .bad
    | none => dcL F xs acc S1 := rfl
theorem dc_read (G : Good t L g W Z X c) {fz : Bool} {tg : Tg} {fi : KF.Env → Store → R (List D)} {fc : KF.Env → Store → R Bool} {fk fe : Ev} {σ : L2.St} {H : Hp} {Q : VK}
    (w : tD L W Z (fun env S => (fi env S).bind fun xs S1 => (noexc (dcL (dcF tg env fc fk fe) xs ([], []) S1)).bind fun r S5 => finD fz r.1 r.2 S5) σ H Q) :
    tDc (tI L W Z fi) (tGr L.K tg) (tBb L W0 Z0 fc) (tD L W0 Z0 fk) (tD L W0 Z0 fe) ((ownOf c tg).map (·.2)) σ H (fun v H' => Lkd (Q v) H') := by
  have hown : (ownOf c tg).map (·.2) = tg.sl := by
    unfold ownOf
    rw [List.map_map]
    exact List.map_id' _
  rw [hown]
  refine (tE.seq (Rl := RlI L) G.zm (g := fun env xs S1 => (noexc (dcL (dcF tg env fc fk fe) xs ([], []) S1)).bind fun r S5 => finD fz r.1 r.2 S5) w).imp fun pJ H1 ⟨env, S1, m1, xs, hE, hs, hR, k⟩ => ?_
  obtain ⟨J, vs, std⟩ := pJ
  obtain ⟨hr, wj, st0, stm⟩ := hR
  have hr : RelDs L H1 m1 xs vs := hr
  have hlen : vs.length = xs.length := hr.length
  intro A hA
  have hAl : A ∉ m1.locs := hs.fresh hA
  have hAp : A ∉ m1.pr := hs.nopr hA
  have plD : ∀ kvs : List (Key × V), Pl (.dK kvs) := fun kvs => ⟨fun _ z => (nomatch z), fun _ z => (nomatch z)⟩
  let Inv' : Nat → Hp → Prop := fun i H' => ∃ (ls : List Addr) (S' : Store) (acc : List D × List D) (kvs : List (Key × V)), H' A = some (.dK kvs) ∧ mapO fkey acc.1 = some (kvs.map (·.1)) ∧ RelDs L H' ⟨ls, A :: m1.pr, m1.T⟩ acc.2 (kvs.map (·.2)) ∧ RelS L H' ⟨ls, A :: m1.pr, m1.T⟩ S' ∧
    Ext H1 m1 H' ⟨ls, m1.pr, m1.T⟩ ∧ Cont L W σ (RelD L) Q H1 m1 ((noexc (dcL (dcF tg env fc fk fe) (xs.drop i) acc S')).bind fun r S5 => finD fz r.1 r.2 S5)
  refine ⟨fun i n H' => n = vs.length - i ∧ i ≤ vs.length ∧ Inv' i H', ⟨vs.length, by simp, Nat.zero_le _, m1.locs, S1, ([], []), [], upd_same, rfl, rfl, hs.hold hA (plD _) rfl, Ext.new hA, k⟩, ?_⟩
  rintro i n H' ⟨rfl, hil0, ls, S', acc, kvs, hAv, hkeys, hacc, hS, hx, hk⟩
  have hil : i ≤ vs.length := hil0
  have hlsA : A ∉ ls := fun z => hS.dis A z List.mem_cons_self
  have mono1 : Mono H1 m1 H' ⟨ls, A :: m1.pr, m1.T⟩ := ⟨fun a o h1 h2 _ h4 => hx.keep a o h1 h2 h4, hx.pre, fun a h => (hx.newl a h).imp id .inr, fun a h => by
    rcases List.mem_cons.mp h with h | h
    · exact .inr (by rw [h]; exact hA)
    · exact .inl h, hx.T⟩
  have hstd : std H' := stm _ _ mono1 hx.frz
  by_cases hlt : i < vs.length
  · refine .inr ⟨wj.go i H' hstd hlt, Inv' (i + 1), fun H2 h2 => ⟨vs.length - (i + 1), by omega, rfl, hlt, h2⟩, fun x H2 hy => ?_⟩
    obtain ⟨rfl, hxi⟩ := wj.yld i H' x H2 hstd hlt hy
    have hix : i < xs.length := by omega
    obtain ⟨x', hx1, rx⟩ := hr.get (List.getElem?_eq_getElem hix)
    rw [hxi] at hx1; cases hx1
    rw [List.drop_eq_getElem_cons hix, dcL_cons] at hk
    have rx' := RelD.mono mono1 _ _ rx
    cases qa : asg tg xs[i] (wipeE env tg.sl) with
    | none => rw [dcF_none qa] at hk; exact hk.elim
    | some env' =>
      rw [dcF_some qa] at hk
      have hE0 : RelE L Z0 H2 ⟨ls, A :: m1.pr, m1.T⟩ (wipeE env tg.sl) (wipe σ tg.sl) := by
        have h0 : RelE L Z H2 ⟨ls, A :: m1.pr, m1.T⟩ env σ := hE.mono G.zm mono1
        exact RelE.wipe (Z := Z0) (fun _ _ _ => trivial) ⟨h0.1, h0.2.1, trivial, h0.2.2.2⟩ _
      refine g_sem (fun _ _ _ => trivial) tg _ _ env' _ x _ qa hE0 rx' fun σ2 he2 al => ⟨?_, ?_⟩
      · exact ((alike_wipe σ tg.sl).trans al).wipe
      refine ⟨env', S', _, he2, hS, ?_⟩
      cases qc : fc env' S' with
      | bad => rw [qc] at hk; exact hk.elim
      | exc _ _ _ => rw [qc] at hk; exact hk.elim
      | ok b S3 =>
        rw [qc] at hk
        intro H3 m3 b' ex3 s3 r3
        have r3 : b = b' := r3
        subst r3
        obtain ⟨l3, p3, t3⟩ := m3
        have et3 : t3 = m1.T := ex3.T
        subst et3
        have ep3 : p3 = A :: m1.pr := ex3.pr
        subst ep3
        have hA3 : H3 A = some (.dK kvs) := ex3.keep A _ hAv hlsA (fun ps z => nomatch z)
        have hx3 : Ext H1 m1 H3 ⟨l3, m1.pr, m1.T⟩ := hx.trans (ex3.pr' rfl)
        have hacc3 := RelDs.mono ex3.mono _ _ hacc
        cases b with
        | false =>
          rw [if_neg Bool.false_ne_true]
          exact ⟨l3, S3, acc, kvs, hA3, hkeys, hacc3, s3, hx3, hk⟩
        | true =>
          rw [if_pos rfl]
          refine ⟨env', S3, _, he2.mono (fun _ _ _ _ _ _ _ => trivial) ex3.mono, s3, ?_⟩
          have hk : Cont L W σ (RelD L) Q H1 m1 ((noexc (((fk env' S3).bind fun y S2 => (fe env' S2).bind fun z S3 => R.ok (some (y, z)) S3).bind fun o S1 => match o with
              | some (k, v) => if (fkey k).isSome = true ∧ acc.1.length < sizeLine then dcL (dcF tg env fc fk fe) (xs.drop (i + 1)) (putD k v acc.1 acc.2) S1 else .bad
              | none => dcL (dcF tg env fc fk fe) (xs.drop (i + 1)) acc S1)).bind fun r S5 => finD fz r.1 r.2 S5) := hk
          cases qe : fk env' S3 with
          | bad => rw [qe] at hk; exact hk.elim
          | exc _ _ _ => rw [qe] at hk; exact hk.elim
          | ok y S4 =>
            rw [qe] at hk
            intro H4 m4 vy ex4 s4 ry
            obtain ⟨l4, p4, t4⟩ := m4
            have et4 : t4 = m1.T := ex4.T
            subst et4
            have ep4 : p4 = A :: m1.pr := ex4.pr
            subst ep4
            have hl3A : A ∉ l3 := fun z => s3.dis A z List.mem_cons_self
            have hA4 : H4 A = some (.dK kvs) := ex4.keep A _ hA3 hl3A (fun ps z => nomatch z)
            have hacc4 := RelDs.mono ex4.mono _ _ hacc3
            have hx4 : Ext H1 m1 H4 ⟨l4, m1.pr, m1.T⟩ := hx3.trans (ex4.pr' rfl)
            have he4 := (he2.mono (fun _ _ _ _ _ _ _ => trivial) ex3.mono).mono (fun _ _ _ _ _ _ _ => trivial) ex4.mono
            refine ⟨env', S4, _, he4, s4, ?_⟩
            cases qv : fe env' S4 with
            | bad =>
              have hk : Cont L W σ (RelD L) Q H1 m1 ((noexc (((fe env' S4).bind fun z S3 => R.ok (some (y, z)) S3).bind fun o S1 => match o with
                | some (k, v) => if (fkey k).isSome = true ∧ acc.1.length < sizeLine then dcL (dcF tg env fc fk fe) (xs.drop (i + 1)) (putD k v acc.1 acc.2) S1 else .bad
                | none => dcL (dcF tg env fc fk fe) (xs.drop (i + 1)) acc S1)).bind fun r S5 => finD fz r.1 r.2 S5) := hk
              rw [qv] at hk; exact hk.elim
            | exc _ _ _ =>
              have hk : Cont L W σ (RelD L) Q H1 m1 ((noexc (((fe env' S4).bind fun z S3 => R.ok (some (y, z)) S3).bind fun o S1 => match o with
                | some (k, v) => if (fkey k).isSome = true ∧ acc.1.length < sizeLine then dcL (dcF tg env fc fk fe) (xs.drop (i + 1)) (putD k v acc.1 acc.2) S1 else .bad
                | none => dcL (dcF tg env fc fk fe) (xs.drop (i + 1)) acc S1)).bind fun r S5 => finD fz r.1 r.2 S5) := hk
              rw [qv] at hk; exact hk.elim
            | ok z S5 =>
              have hk : Cont L W σ (RelD L) Q H1 m1 ((noexc (((fe env' S4).bind fun z S3 => R.ok (some (y, z)) S3).bind fun o S1 => match o with
                | some (k, v) => if (fkey k).isSome = true ∧ acc.1.length < sizeLine then dcL (dcF tg env fc fk fe) (xs.drop (i + 1)) (putD k v acc.1 acc.2) S1 else .bad
                | none => dcL (dcF tg env fc fk fe) (xs.drop (i + 1)) acc S1)).bind fun r S5 => finD fz r.1 r.2 S5) := hk
              rw [qv] at hk
              have hk : Cont L W σ (RelD L) Q H1 m1 ((noexc (if (fkey y).isSome = true ∧ acc.1.length < sizeLine then dcL (dcF tg env fc fk fe) (xs.drop (i + 1)) (putD y z acc.1 acc.2) S5 else .bad)).bind fun r S5 => finD fz r.1 r.2 S5) := hk
              intro H5 m5 vz ex5 s5 rz
              obtain ⟨l5, p5, t5⟩ := m5
              have et5 : t5 = m1.T := ex5.T
              subst et5
              have ep5 : p5 = A :: m1.pr := ex5.pr
              subst ep5
              have hl4A : A ∉ l4 := fun z => s4.dis A z List.mem_cons_self
              have hA5 : H5 A = some (.dK kvs) := ex5.keep A _ hA4 hl4A (fun ps z => nomatch z)
              have hacc5 := RelDs.mono ex5.mono _ _ hacc4
              have hx5 : Ext H1 m1 H5 ⟨l5, m1.pr, m1.T⟩ := hx4.trans (ex5.pr' rfl)
              have ry5 := ry.mono ex5.mono
              split at hk
              · rename_i hc
                obtain ⟨hc1, hc2⟩ := hc
                obtain ⟨key, hkey⟩ := Option.isSome_iff_exists.mp hc1
                obtain ⟨q1, q2⟩ := put_rel hkey rz hkeys hacc5
                have hkl : acc.1.length = kvs.length := by
                  have := mapO_len hkeys
                  rw [List.length_map] at this
                  exact this.symm
                refine ⟨kvs, key, fkey_v hkey ry5, hA5, by omega, l5, S5, putD y z acc.1 acc.2, putK kvs key vz, upd_same, q1, ?_, ?_, ?_, hk⟩
                · exact RelDs.mono (Mono.turn (p := A) List.mem_cons_self (nf_of hA5 rfl)) _ _ q2
                · exact s5.turn List.mem_cons_self (plD _) (nf_of hA5 rfl)
                · exact ⟨fun a o h1 h2 h3 => by rw [upd_ne (ne_of_none h1 hA)]; exact hx5.keep a o h1 h2 h3, fun a ps h => by
                    obtain ⟨qs, z⟩ := hx5.tbl a ps h
                    exact ⟨qs, by rw [upd_ne (ne_of_none h hA)]; exact z⟩, hx5.pre, hx5.newl, rfl, rfl, fun a o u h => by rw [upd_ne (ne_of_none h hA)]; exact hx5.frz a o u h⟩
              · exact hk.elim
  · have ei : i = vs.length := by omega
    refine .inl ⟨wj.stop i H' hstd (show vs.length ≤ i by omega), ?_⟩
    have ed : xs.drop i = [] := List.drop_eq_nil_of_le (by omega)
    rw [ed] at hk
    have hk2 : Cont L W σ (RelD L) Q H1 m1 (finD fz acc.1 acc.2 S') := hk
    have sl : ls.length = S'.length := hS.len
    cases fz
    · have hk2 : Cont L W σ (RelD L) Q H1 m1 (.ok (.loc S'.length) (S' ++ [.dic false acc.1 acc.2])) := hk2
      refine .here (hk2 H' ⟨ls ++ [A], m1.pr, m1.T⟩ (.ref A) (hx.adopt hA) (RelS.adoptO (m := ⟨ls, m1.pr, m1.T⟩) (ob := .dic false acc.1 acc.2) hS hAp ⟨_, _, hAv, ⟨kvs, rfl, hkeys, rfl⟩, RelDs.mono Mono.adopt _ _ hacc⟩) ⟨A, rfl, ?_⟩)
      show (ls ++ [A])[S'.length]? = _
      rw [List.getElem?_append_right (by omega)]
      simp [sl]
    · have hk2 : Cont L W σ (RelD L) Q H1 m1 (.ok (.dic false acc.1 acc.2) S') := hk2
      exact finD_z hk2 hA hx hS hAp hAv hkeys hacc
theorem e_dc (G : Good t L g W Z X c) {fz : Bool} {tg : Tg} {fi : KF.Env → Store → R (List D)} {fc : KF.Env → Store → R Bool} {fk fe : Ev} {kx vx tgt iter : Expr} {ifs : List Expr} {s : Scope} {p : Pos} (hc : c.suite = none) (hns : notSet iter = true)
    (hi : PI X tgt iter (tI L W Z fi)) (hb : blkC c.N c.sc s (ownOf c tg) = true)
    (hg : ∀ (s' : Shared) (H : Hp) (C : Addr) (cl : List (Str × Addr)) (fp : List Addr), PG (X.blk s' H s (compEnvC s cl C X.env) fp) tgt (tGr L.K tg))
    (ht : ∀ (s' : Shared) (H : Hp) (C : Addr) (cl : List (Str × Addr)) (fp : List Addr), PTs (X.blk s' H s (compEnvC s cl C X.env) fp) ifs (tBb L W0 Z0 fc))
    (hk : ∀ (s' : Shared) (H : Hp) (C : Addr) (cl : List (Str × Addr)) (fp : List Addr), PE (X.blk s' H s (compEnvC s cl C X.env) fp) kx (tD L W0 Z0 fk))
    (he : ∀ (s' : Shared) (H : Hp) (C : Addr) (cl : List (Str × Addr)) (fp : List Addr), PE (X.blk s' H s (compEnvC s cl C X.env) fp) vx (tD L W0 Z0 fe)) :
    PE X (.DictComp kx vx [⟨tgt, iter, ifs, 0⟩] s p) (tD L W Z fun env S => (fi env S).bind fun xs S1 => (noexc (dcL (dcF tg env fc fk fe) xs ([], []) S1)).bind fun r S5 => finD fz r.1 r.2 S5) := by
  have hb' : blkC X.N X.env.scope s (ownOf c tg) = true := by rw [G.N, G.sc]; exact hb
  exact (pe_dc (G.calm hc) (by rw [G.N]; exact G.nd) hi (blkOk_by hb') hg ht hk he (notSet_fold hns _)).lkd.imp fun σ H Q w => dc_read G w
/-! ### locks -/
theorem _root_.L2.PE.or' {X : Cx} {e : Expr} {t t' : TE} (h : PE X e t) (h' : PE X e t') : PE X e (fun σ H Q => t σ H Q ∨ t' σ H Q) := ⟨fun pins s σ H Q I w => w.elim (h.run pins s σ H Q I) (h'.run pins s σ H Q I)⟩
/-- what is locked: a list, a dict -/
theorem lock_at {S S0 : Store} {n : Nat} {H : Hp} {m : Mp} (hs : RelS L H m S) (h : lockS S n = some S0) (hf : ∀ t ks vs, S[n]? = some (.dic t ks vs) → t = false) :
    ∃ a u, m.locs[n]? = some a ∧ H a = some u ∧ Mut (some u) ∧ nofrz u = true ∧ Pl u ∧ ∀ od, RelS L (upd H a (.frz od u)) m S0 := by
  unfold lockS at h
  split at h
  · rename_i t ks vs q
    have ht := hf _ _ _ q
    subst ht
    cases h
    obtain ⟨a, e1, u, us, e2, ⟨kvs, rfl, h3, rfl⟩, e4⟩ := hs.at_ n _ q
    refine ⟨a, _, e1, e2, trivial, rfl, ⟨fun _ z => (nomatch z), fun _ z => (nomatch z)⟩, fun od => hs.putO e1 ?_⟩
    exact ⟨od, _, _, upd_same, ⟨kvs, rfl, h3, rfl⟩, RelDs.mono (Mono.put (List.mem_of_getElem? e1)) _ _ e4⟩
  · rename_i xs q
    cases h
    obtain ⟨a, e1, vs, e2, e4⟩ := hs.at_ n _ q
    refine ⟨a, _, e1, e2, trivial, rfl, .lst, fun od => hs.putO e1 ?_⟩
    exact ⟨od, _, upd_same, RelDs.mono (Mono.put (List.mem_of_getElem? e1)) _ _ e4⟩
  · cases h
/-- it is unlocked -/
theorem unlock_at {S S' : Store} {n : Nat} {H : Hp} {m : Mp} {a : Addr} {od : Obj} {u : HO} (hs : RelS L H m S) (ha : m.locs[n]? = some a) (h : unlS S n = some S') (hu : H a = some (.frz od u)) : RelS L (upd H a u) m S' := by
  unfold unlS at h
  split at h
  · rename_i t ks vs q
    cases h
    obtain ⟨b, e1, o, u', us, e2, e3, e4⟩ := hs.at_ n _ q
    rw [ha] at e1; cases e1
    rw [hu] at e2
    cases e2
    exact hs.putO ha ⟨u, us, upd_same, e3, RelDs.mono (Mono.put (List.mem_of_getElem? ha)) _ _ e4⟩
  · rename_i xs q
    cases h
    obtain ⟨b, e1, o, vs, e2, e4⟩ := hs.at_ n _ q
    rw [ha] at e1; cases e1
    rw [hu] at e2
    cases e2
    exact hs.putO ha ⟨vs, upd_same, RelDs.mono (Mono.put (List.mem_of_getElem? ha)) _ _ e4⟩
  · cases h
theorem unlock_ext {H H' : Hp} {m m' : Mp} {a : Addr} {od : Obj} {u : HO} (ha : a ∈ m.locs) (hu : H a = some u) (hn : nofrz u = true) (hp : Pl u) (ex : Ext (upd H a (.frz od u)) m H' m') : Ext H m (upd H' a u) m' := by
  refine ⟨fun b o h1 h2 h3 => ?_, fun b ps h => ?_, ex.pre, fun b h => ?_, ex.pr, ex.T, fun b o u' h => ?_⟩
  · have ne : b ≠ a := fun z => h2 (by rw [z]; exact ha)
    rw [upd_ne ne]
    exact ex.keep b o (by rw [upd_ne ne]; exact h1) h2 h3
  · have ne : b ≠ a := fun z => by
      rw [z, hu] at h
      exact hp.1 ps (Option.some.inj h)
    obtain ⟨qs, q⟩ := ex.tbl b ps (by rw [upd_ne ne]; exact h)
    exact ⟨qs, by rw [upd_ne ne]; exact q⟩
  · rcases ex.newl b h with z | z
    · exact .inl z
    · by_cases e : b = a
      · exact .inl (by rw [e]; exact ha)
      · rw [upd_ne e] at z; exact .inr z
  · have ne : b ≠ a := fun z => by
      rw [z, hu] at h
      cases h
      cases hn
    rw [upd_ne ne]
    exact ex.frz b o u' (by rw [upd_ne ne]; exact h)
theorem lkI_dic {it : It} {env : KF.Env} {S : Store} {n : Nat} (h : lkI g it env S = some n) : ∀ t ks vs, S[n]? = some (.dic t ks vs) → t = false := by
  intro t ks vs q
  unfold lkI at h
  split at h
  · split at h
    · rename_i q2
      cases h
      rw [q] at q2
      cases q2; rfl
    · rename_i q2
      cases h
      rw [q] at q2
      cases q2
    · cases h
  · cases h
/-- a comprehension over what may be locked -/
theorem e_walk (G : Good t L g W Z X c) {it : It} {a : Expr} {f : Ev} (h : PE X a (tD L W Z f)) : PE X a (tD L W Z fun env S => walkE g it env S (f env)) := by
  refine (h.or' (pe_lock h)).imp fun σ H Q ⟨env, S, m, he, hs, k⟩ => ?_
  have k : Cont L W σ (RelD L) Q H m (walkE g it env S (f env)) := k
  unfold walkE at k
  split at k
  · rename_i n hl
    split at k
    · rename_i S0 hS0
      obtain ⟨ad, u, e1, e2, e3, e4, e5, e6⟩ := lock_at hs hS0 (lkI_dic hl)
      have ham : ad ∈ m.locs := List.mem_of_getElem? e1
      refine .inr ⟨ad, u, e2, e3, fun od => ⟨env, S0, m, he.mono G.zm (Mono.put ham), e6 od, ?_⟩⟩
      cases q : f env S0 with
      | bad => rw [q] at k; exact k.elim
      | exc _ _ _ => rw [q] at k; exact k.elim
      | ok d S1 =>
        rw [q] at k
        have k : Cont L W σ (RelD L) Q H m (match unlS S1 n with | some S' => .ok d S' | none => .bad) := k
        intro H' m' v ex s1 r
        have hf := ex.frz ad od u upd_same
        refine ⟨hf, ?_⟩
        split at k
        · rename_i S' hS'
          have ha' : m'.locs[n]? = some ad := by
            obtain ⟨r, hr⟩ := ex.pre
            rw [← hr, List.getElem?_append_left (List.getElem?_eq_some_iff.mp e1).1]
            exact e1
          exact k _ m' v (unlock_ext ham e2 e4 e5 ex) (unlock_at s1 ha' hS' hf) (r.mono (Mono.put (List.mem_of_getElem? ha')))
        · exact k.elim
    · exact k.elim
  · exact .inl ⟨env, S, m, he, hs, k⟩
end
end KF

set_option Elab.async false
set_option linter.all false
set_option maxRecDepth 100000
set_option maxHeartbeats 4000000
/-! V10: soundness of all expressions -/
namespace KF
open PySem PySem.Spec PyProof.Rows L2
section
variable {t : Tb} {L : Lk} {g : Cfg} {W : WX} {Z : ZP} {X : Cx} {c : Cc}
theorem Good.blk (G : Good t L g W Z X c) (hc : c.suite = none) {s : Scope} (s' : Shared) (H : Hp) (C : Addr) (cl : List (Str × Addr)) (fp : List Addr) : Good t L g W0 Z0 (X.blk s' H s (compEnvC s cl C X.env) fp) (blkCc c s) where
  K := G.K
  N := G.N
  nd := G.nd
  sc := by
    show relS s X.env.scope = relS s c.sc
    rw [G.sc]
  fn := fun x (h : s.names.lookup x = some .cell) => by
    show (s.names.lookup x == some .cell) = true
    rw [h]; rfl
  un := G.un
  free := G.free
  glob := G.glob
  tk := takes0
  po := PassesOwn.never
  ef := G.ef
  cf := G.cf
  zm := fun _ _ _ _ _ _ _ => trivial
  calm := fun _ => G.calm hc
  zt := fun _ _ _ _ => trivial
  call := fun _ => G.call hc
  mth := G.mth
  cls := G.cls
  nf := G.nf
  big := G.big
  suite := fun i h => by cases h
theorem KitOk.blk (KO : KitOk t L X) {s : Scope} (s' : Shared) (H : Hp) (C : Addr) (cl : List (Str × Addr)) (fp : List Addr) : KitOk t L (X.blk s' H s (compEnvC s cl C X.env) fp) := ⟨KO.own, KO.bas, KO.bis⟩
theorem pt_pw {o : BoolOp} {vs : List Expr} {p : Pos} {T : TT} (h : PT X (.BoolOp o vs p) T) : PW X (.BoolOp o vs p) T := ⟨fun wh pins s σ H Q I w => h.run pins s σ H Q I w⟩
theorem chks_ns {t : Tb} {c : Cc} : ∀ {as : Es} {es : List Expr}, chks t as c es = true → es.all notStar = true → (as = .nil ↔ es = [])
  | .nil, es, h, _ => by
    unfold chks at h
    exact ⟨fun _ => List.isEmpty_iff.mp h, fun _ => rfl⟩
  | .cons e r, es, h, _ => by
    unfold chks at h
    cases es with
    | nil => cases h
    | cons a es => exact ⟨fun z => (nomatch z), fun z => (nomatch z)⟩
  | .star e r, es, h, hn => by
    unfold chks at h
    split at h
    · rw [List.all_cons, Bool.and_eq_true] at hn
      cases hn.1
    · cases h
theorem chkD_ok {t : Tb} {c : Cc} : ∀ {kvs : Es} {ks : List (Option Expr)} {vs : List Expr}, chkD t kvs c ks vs = true → ks.all (·.isSome) = true ∧ ks.length = vs.length ∧ (ks = [] → kvs = .nil)
  | .nil, ks, vs, h => by
    unfold chkD at h
    rw [Bool.and_eq_true] at h
    rw [List.isEmpty_iff.mp h.1, List.isEmpty_iff.mp h.2]
    exact ⟨rfl, rfl, fun _ => rfl⟩
  | .cons k (.cons v r), ks, vs, h => by
    unfold chkD at h
    split at h
    · simp only [Bool.and_eq_true] at h
      obtain ⟨h1, h2, _⟩ := chkD_ok h.2.2
      exact ⟨by rw [List.all_cons, h1]; rfl, by rw [List.length_cons, List.length_cons, h2], fun z => nomatch z⟩
    · cases h
  | .cons k .nil, ks, vs, h => by unfold chkD at h; cases h
  | .cons k (.star _ _), ks, vs, h => by unfold chkD at h; cases h
  | .star _ _, ks, vs, h => by unfold chkD at h; cases h
theorem bmOk_or {m : Bm} (h : bmOk m = true) : m = .app ∨ m = .pop ∨ m = .get ∨ m = .join := by
  cases m <;> first | exact .inl rfl | exact .inr (.inl rfl) | exact .inr (.inr (.inl rfl)) | exact .inr (.inr (.inr rfl)) | cases h
end
mutual
theorem sound {t : Tb} {L : Lk} {g : Cfg} : ∀ (e : E) (c : Cc) (a : Expr), chk t e c a = true → ∀ {W : WX} {Z : ZP} {X : Cx}, Good t L g W Z X c → KitOk t L X → SV L W Z X a (fun tm env S => ev g e tm env S)
  | .v i, c, a, h, W, Z, X, G, KO => by
    unfold chk at h
    split at h
    · simp only [Bool.and_eq_true, decide_eq_true_eq] at h
      exact e_tst G (e_name G h.1 h.2.1 h.2.2) rfl
    · cases h
  | .kn, c, a, h, W, Z, X, G, KO => by
    unfold chk at h
    split at h
    · exact e_tst G (e_const pe_non fun _ _ => rfl) rfl
    · cases h
  | .kb b, c, a, h, W, Z, X, G, KO => by
    unfold chk at h
    split at h
    · have e := eq_of_beq h
      subst e
      exact e_tst G (e_const pe_bl fun _ _ => rfl) rfl
    · cases h
  | .ki i, c, a, h, W, Z, X, G, KO => by
    unfold chk at h
    split at h
    · have e := of_decide_eq_true h
      subst e
      exact e_tst G (e_const pe_int fun _ _ => rfl) rfl
    · cases h
  | .ks x, c, a, h, W, Z, X, G, KO => by
    unfold chk at h
    split at h
    · have e := of_decide_eq_true h
      subst e
      exact e_tst G (e_const pe_str fun _ _ => rfl) rfl
    · cases h
  | .g k, c, a, h, W, Z, X, G, KO => by
    unfold chk at h
    split at h
    · simp only [Bool.and_eq_true, decide_eq_true_eq] at h
      exact e_tst G (e_glob G h.1 h.2.1 h.2.2) rfl
    · cases h
  | .op o x y, c, a, h, W, Z, X, G, KO => by
    unfold chk at h
    split at h
    · rename_i l p r pos
      simp only [Bool.and_eq_true] at h
      obtain ⟨h1, h2, h3⟩ := h
      rw [O2.is_eq h1]
      exact e_tst G (e_op G (sound x c l h2 G KO).1 (sound y c r h3 G KO).1) rfl
    · cases h
  | .neg x, c, a, h, W, Z, X, G, KO => by
    unfold chk at h
    split at h
    · exact e_tst G (e_neg G (sound x c _ h G KO).1) rfl
    · cases h
  | .cmp o x y, c, a, h, W, Z, X, G, KO => by
    unfold chk at h
    split at h
    · rename_i l p r pos
      simp only [Bool.and_eq_true] at h
      obtain ⟨h1, h2, h3, h4⟩ := h
      rw [C2.is_eq h1]
      exact e_cmp G (sound x c l h3 G KO).1 (sound y c r h4 G KO).1 h2
    · cases h
  | .chn o p x y z, c, a, h, W, Z, X, G, KO => by
    unfold chk at h
    split at h
    · simp only [Bool.and_eq_true, Bool.not_eq_true'] at h
      obtain ⟨h1, h2, h3, h4, h5, h6, h7⟩ := h
      have e2 := C2.is_eq h2
      have e3 := C2.is_eq h3
      subst e2
      subst e3
      exact e_chn G (sound x c _ h5 G KO).1 (sound y c _ h6 G KO).1 (sound z c _ h7 G KO).1 h4
    · cases h
  | .isn ng x, c, a, h, W, Z, X, G, KO => by
    unfold chk at h
    split at h
    · rename_i l p j p2 pos
      rw [Bool.and_eq_true, decide_eq_true_eq] at h
      obtain ⟨h1, h2⟩ := h
      rw [h1]
      exact e_is G (sound x c l h2 G KO).1
    · cases h
  | .and x y, c, a, h, W, Z, X, G, KO => by
    unfold chk at h
    split at h
    · rename_i l r p
      rw [Bool.and_eq_true] at h
      have q := e_and G (sound x c l h.1 G KO) (e_one (sound y c r h.2 G KO) (p := p)).1
      exact ⟨q.1, q.2.pt⟩
    · rename_i l r r2 rs p
      rw [Bool.and_eq_true] at h
      have v2 := sound y c _ h.2 G KO
      have q := e_and G (sound x c l h.1 G KO) (f2 := fun tm env S => ev g y tm env S) ⟨v2.1, pt_pw v2.2⟩
      exact ⟨q.1, q.2.pt⟩
    · cases h
  | .or x y, c, a, h, W, Z, X, G, KO => by
    unfold chk at h
    split at h
    · rename_i l r p
      rw [Bool.and_eq_true] at h
      have q := e_or G (sound x c l h.1 G KO) (e_one (sound y c r h.2 G KO) (p := p)).2
      exact ⟨q.1, q.2.pt⟩
    · rename_i l r r2 rs p
      rw [Bool.and_eq_true] at h
      have v2 := sound y c _ h.2 G KO
      have q := e_or G (sound x c l h.1 G KO) (f2 := fun tm env S => ev g y tm env S) ⟨v2.1, pt_pw v2.2⟩
      exact ⟨q.1, q.2.pt⟩
    · cases h
  | .not x, c, a, h, W, Z, X, G, KO => by
    unfold chk at h
    split at h
    · exact e_not G (sound x c _ h G KO)
    · cases h
  | .ite x y z, c, a, h, W, Z, X, G, KO => by
    unfold chk at h
    split at h
    · simp only [Bool.and_eq_true] at h
      obtain ⟨h1, h2, h3⟩ := h
      exact e_ite G (sound x c _ h1 G KO) (sound y c _ h2 G KO) (sound z c _ h3 G KO)
    · cases h
  | .call f as, c, a, h, W, Z, X, G, KO => by
    unfold chk at h
    split at h
    · simp only [Bool.and_eq_true, decide_eq_true_eq] at h
      obtain ⟨h1, h2, h3, h4, h5, h6⟩ := h
      rename_i x p es p2
      have e := chks_ns h6 h5
      cases es with
      | nil =>
        have e := e.mpr rfl
        subst e
        exact e_tst G (e_call0 G h1 h2 h3 h4) rfl
      | cons _ _ => exact e_tst G (e_call G h1 h2 h3 h4 h5 (sounds as c _ h6 G KO)) rfl
    · cases h
  | .bi b as, c, a, h, W, Z, X, G, KO => by
    unfold chk at h
    split at h
    · simp only [Bool.and_eq_true] at h
      obtain ⟨h1, h2, h3, h4⟩ := h
      exact e_tst G (e_bi G h1 h2 h3 (sounds as c _ h4 G KO)) rfl
    · cases h
  | .isi x ts, c, a, h, W, Z, X, G, KO => by
    unfold chk at h
    split at h
    · simp only [Bool.and_eq_true] at h
      obtain ⟨h1, h2, h3, h4⟩ := h
      exact e_tst G (e_isi G KO h1 h2 h4 (sound x c _ h3 G KO).1) rfl
    · cases h
  | .tup as, c, a, h, W, Z, X, G, KO => by
    unfold chk at h
    split at h
    · exact e_tst G (e_tup G (sounds as c _ h G KO)) rfl
    · cases h
  | .lst fz as, c, a, h, W, Z, X, G, KO => by
    unfold chk at h
    split at h
    · exact e_tst G (e_lst G (sounds as c _ h G KO)) rfl
    · cases h
  | .ix x y, c, a, h, W, Z, X, G, KO => by
    unfold chk at h
    split at h
    · simp only [Bool.and_eq_true] at h
      obtain ⟨h1, h2, h3⟩ := h
      exact e_tst G (e_ix G (sound x c _ h2 G KO).1 (sound y c _ h3 G KO).1 h1) rfl
    · cases h
  | .slc x l hh, c, a, h, W, Z, X, G, KO => by
    unfold chk at h
    split at h
    · rename_i e lo hi p1 p2
      simp only [Bool.and_eq_true] at h
      obtain ⟨h1, h2, h3⟩ := h
      have q1 : PO X lo (tPt L W Z l.isKn fun env S => ev g l false env S) := by
        cases lo with
        | none =>
          have h2 : l.isKn = true := h2
          cases l <;> first | exact part_none | cases h2
        | some lo =>
          have h2 : (!l.isKn && chk t l c lo) = true := h2
          rw [Bool.and_eq_true, Bool.not_eq_true'] at h2
          rw [h2.1]
          exact part_some (sound l c lo h2.2 G KO).1
      have q2 : PO X hi (tPt L W Z hh.isKn fun env S => ev g hh false env S) := by
        cases hi with
        | none =>
          have h3 : hh.isKn = true := h3
          cases hh <;> first | exact part_none | cases h3
        | some hi =>
          have h3 : (!hh.isKn && chk t hh c hi) = true := h3
          rw [Bool.and_eq_true, Bool.not_eq_true'] at h3
          rw [h3.1]
          exact part_some (sound hh c hi h3.2 G KO).1
      exact e_tst G (e_slc G (sound x c e h1 G KO).1 q1 q2) rfl
    · cases h
  | .rev x, c, a, h, W, Z, X, G, KO => by
    unfold chk at h
    split at h
    · exact e_tst G (e_rev G (sound x c _ h G KO).1) rfl
    · cases h
  | .fx i f, c, a, h, W, Z, X, G, KO => by
    unfold chk at h
    split at h
    · simp only [Bool.and_eq_true, decide_eq_true_eq] at h
      obtain ⟨h1, h2, h3, h4, h5⟩ := h
      subst h1
      exact e_tst G (e_fx G h2 h3 h4 h5) rfl
    · cases h
  | .lc fz e tg it cs, c, a, h, W, Z, X, G, KO => by
    unfold chk at h
    split at h
    · rename_i elt tgt iter ifs k s p
      simp only [Bool.and_eq_true, decide_eq_true_eq] at h
      obtain ⟨h1, rfl, h3, h4, h5, h6, h7, h8⟩ := h
      have hc := calm_of h1
      refine e_tst G (e_walk G (e_lc G hc h3 (soundI it c iter h5 G KO) h4 (fun s' H C cl fp => ?_) (fun s' H C cl fp => ?_) (fun s' H C cl fp => ?_))) rfl
      · have h := g_ok (G.blk hc (s := s) s' H C cl fp) (G.calm hc) tg tgt h6
        have e : (X.blk s' H s (compEnvC s cl C X.env) fp).K = L.K := G.K
        rw [e] at h
        exact h
      · exact soundC cs (blkCc c s) ifs h7 (G.blk hc s' H C cl fp) (KO.blk s' H C cl fp)
      · exact (sound e (blkCc c s) elt h8 (G.blk hc s' H C cl fp) (KO.blk s' H C cl fp)).1
    · cases h
  | .lrng x, c, a, h, W, Z, X, G, KO => by
    unfold chk at h
    split at h
    · simp only [Bool.and_eq_true] at h
      obtain ⟨h1, h2, h3, h4, h5⟩ := h
      exact e_tst G (e_lrng G h1 h2 h3 h4 (sound x c _ h5 G KO).1) rfl
    · cases h
  | .dd fz kvs, c, a, h, W, Z, X, G, KO => by
    unfold chk at h
    split at h
    · rename_i keys values p
      rw [Bool.and_eq_true, decide_eq_true_eq] at h
      obtain ⟨h1, h2⟩ := h
      obtain ⟨q1, q2, q3⟩ := chkD_ok h2
      obtain ⟨trs, q4, q5⟩ := soundD kvs c keys values h2 G KO (p := p)
      exact e_tst G (e_dd G q1 q2 h1 q4 q5 (fun z env S => by rw [q3 z]; rfl)) rfl
    · cases h
  | .dc fz k e tg it cs, c, a, h, W, Z, X, G, KO => by
    unfold chk at h
    split at h
    · rename_i kx vx tgt iter ifs j s p
      simp only [Bool.and_eq_true, decide_eq_true_eq] at h
      obtain ⟨h1, rfl, h3, h4, h5, h6, h7, h8, h9⟩ := h
      have hc := calm_of h1
      refine e_tst G (e_walk G (e_dc G hc h3 (soundI it c iter h5 G KO) h4 (fun s' H C cl fp => ?_) (fun s' H C cl fp => ?_) (fun s' H C cl fp => ?_) (fun s' H C cl fp => ?_))) rfl
      · have h := g_ok (G.blk hc (s := s) s' H C cl fp) (G.calm hc) tg tgt h6
        have e : (X.blk s' H s (compEnvC s cl C X.env) fp).K = L.K := G.K
        rw [e] at h
        exact h
      · exact soundC cs (blkCc c s) ifs h7 (G.blk hc s' H C cl fp) (KO.blk s' H C cl fp)
      · exact (sound k (blkCc c s) kx h8 (G.blk hc s' H C cl fp) (KO.blk s' H C cl fp)).1
      · exact (sound e (blkCc c s) vx h9 (G.blk hc s' H C cl fp) (KO.blk s' H C cl fp)).1
    · cases h
  | .at_ x f, c, a, h, W, Z, X, G, KO => by
    unfold chk at h
    split at h
    · simp only [Bool.and_eq_true, decide_eq_true_eq] at h
      obtain ⟨rfl, h2, h3⟩ := h
      exact e_tst G (e_at G h2 (sound x c _ h3 G KO).1) rfl
    · cases h
  | .mk k as, c, a, h, W, Z, X, G, KO => by
    unfold chk at h
    split at h
    · simp only [Bool.and_eq_true, decide_eq_true_eq] at h
      obtain ⟨h1, h2, h3, h4, h5, h6⟩ := h
      exact e_tst G (e_mk G h2 h3 h4 h5 (sounds as c _ h6 G KO)) rfl
    · cases h
  | .mt x m as, c, a, h, W, Z, X, G, KO => by
    unfold chk at h
    split at h
    · rename_i o gg ap es p
      simp only [Bool.and_eq_true, decide_eq_true_eq] at h
      obtain ⟨h1, rfl, h3, h4, h5, h6, h7, h8⟩ := h
      have e := chks_ns h8 h6
      cases es with
      | nil =>
        have e := e.mpr rfl
        subst e
        exact e_tst G (e_mt0 G h3 h4 (sound x c _ h7 G KO).1) rfl
      | cons _ _ => exact e_tst G (e_mt G h3 h4 h5 h6 (sound x c _ h7 G KO).1 (sounds as c _ h8 G KO)) rfl
    · cases h
  | .bm m x as, c, a, h, W, Z, X, G, KO => by
    unfold chk at h
    split at h
    · rename_i o gg ap es p
      simp only [Bool.and_eq_true, decide_eq_true_eq] at h
      obtain ⟨h0, h1, rfl, h3, h4, h5, h6, h7, h8⟩ := h
      have e := chks_ns h8 h6
      cases es with
      | nil =>
        have e := e.mpr rfl
        subst e
        exact e_tst G (e_bm0 G (bmOk_or h0) h3 h4 (sound x c _ h7 G KO).1) rfl
      | cons _ _ => exact e_tst G (e_bm G (bmOk_or h0) h3 h4 h5 h6 (sound x c _ h7 G KO).1 (sounds as c _ h8 G KO)) rfl
    · cases h
  | .srk x f, c, a, h, W, Z, X, G, KO => by
    unfold chk at h
    cases h
theorem sounds {t : Tb} {L : Lk} {g : Cfg} : ∀ (as : Es) (c : Cc) (es : List Expr), chks t as c es = true → ∀ {W : WX} {Z : ZP} {X : Cx}, Good t L g W Z X c → KitOk t L X → PA X es (tDs L W Z fun env S => evs g as env S)
  | .nil, c, es, h, W, Z, X, G, KO => by
    unfold chks at h
    cases es with
    | nil => exact a_nil
    | cons _ _ => cases h
  | .cons e r, c, es, h, W, Z, X, G, KO => by
    unfold chks at h
    cases es with
    | nil => cases h
    | cons a es =>
      dsimp only at h
      simp only [Bool.and_eq_true] at h
      exact a_cons G h.1 (sound e c a h.2.1 G KO).1 (sounds r c es h.2.2 G KO)
  | .star e r, c, es, h, W, Z, X, G, KO => by
    unfold chks at h
    split at h
    · rw [Bool.and_eq_true] at h
      exact a_star G (sound e c _ h.1 G KO).1 (sounds r c _ h.2 G KO)
    · cases h
theorem soundD {t : Tb} {L : Lk} {g : Cfg} : ∀ (kvs : Es) (c : Cc) (ks : List (Option Expr)) (vs : List Expr), chkD t kvs c ks vs = true → ∀ {W : WX} {Z : ZP} {X : Cx} {p : Pos}, Good t L g W Z X c → KitOk t L X →
    ∃ trs, PPs X p ks vs trs ∧ ∀ σ H (Q : List (V × V) → Hp → Prop), tDs L W Z (fun env S => evs g kvs env S) σ H (fun vs H1 => Q (prV vs) H1) → tPairs trs σ H Q
  | .nil, c, ks, vs, h, W, Z, X, p, G, KO => by
    unfold chkD at h
    rw [Bool.and_eq_true] at h
    rw [List.isEmpty_iff.mp h.1, List.isEmpty_iff.mp h.2]
    exact ⟨[], pps_nil, fun σ H Q ⟨env, S, m, he, hs, k⟩ => k.here (v := []) hs rfl⟩
  | .cons k (.cons v r), c, ks, vs, h, W, Z, X, p, G, KO => by
    unfold chkD at h
    split at h
    · simp only [Bool.and_eq_true] at h
      obtain ⟨h1, h2, h3⟩ := h
      obtain ⟨trs, q1, q2⟩ := soundD r c _ _ h3 G KO (p := p)
      refine ⟨_, pps_cons (sound k c _ h1 G KO).1 (sound v c _ h2 G KO).1 q1, fun σ H Q w => ?_⟩
      show tD L W Z (fun env S => ev g k false env S) σ H fun x H1 => tD L W Z (fun env S => ev g v false env S) σ H1 fun y H2 => tPairs trs σ H2 fun ps H3 => Q ((x, y) :: ps) H3
      have w : tDs L W Z (fun env S => (ev g k false env S).bind fun x S1 => ((ev g v false env S1).bind fun y S2 => (evs g r env S2).bind fun xs S3 => .ok (y :: xs) S3).bind fun xs S2 => .ok (x :: xs) S2) σ H (fun vs H1 => Q (prV vs) H1) := w
      refine (tE.seq (Rl := RelD L) G.zm w).imp fun x H1 ⟨env, S1, m1, d, he, hs, r1, k1⟩ => ?_
      refine ⟨env, S1, m1, he, hs, ?_⟩
      rw [R.bind_assoc] at k1
      refine k1.bind.imp fun y H2 ⟨m2, d2, S2, e2, s2, r2, k2⟩ => ?_
      refine q2 σ H2 _ ⟨env, S2, m2, he.mono G.zm e2.mono, s2, ?_⟩
      rw [R.bind_assoc] at k2
      refine k2.bind.imp fun xs H3 ⟨m3, ds, S3, e3, s3, r3, k3⟩ => ?_
      exact k3.here (v := x :: y :: xs) s3 ⟨x, y :: xs, rfl, (r1.mono e2.mono).mono e3.mono, y, xs, rfl, r2.mono e3.mono, r3⟩
    · cases h
  | .cons k .nil, c, ks, vs, h, W, Z, X, p, G, KO => by unfold chkD at h; cases h
  | .cons k (.star _ _), c, ks, vs, h, W, Z, X, p, G, KO => by unfold chkD at h; cases h
  | .star _ _, c, ks, vs, h, W, Z, X, p, G, KO => by unfold chkD at h; cases h
theorem soundI {t : Tb} {L : Lk} {g : Cfg} : ∀ (it : It) (c : Cc) (a : Expr), chkI t it c a = true → ∀ {W : WX} {Z : ZP} {X : Cx} {tgt : Expr}, Good t L g W Z X c → KitOk t L X → PI X tgt a (tI L W Z fun env S => evI g it env S)
  | .val e, c, a, h, W, Z, X, tgt, G, KO => by
    unfold chkI at h
    exact i_val G (sound e c a h G KO).1
  | .rng e, c, a, h, W, Z, X, tgt, G, KO => by
    unfold chkI at h
    split at h
    · simp only [Bool.and_eq_true] at h
      obtain ⟨h1, h2, h3⟩ := h
      exact i_rng G h1 h2 (sound e c _ h3 G KO).1
    · cases h
  | .vals e, c, a, h, W, Z, X, tgt, G, KO => by
    unfold chkI at h
    split at h
    · simp only [Bool.and_eq_true, decide_eq_true_eq] at h
      obtain ⟨rfl, h2, h3, h4⟩ := h
      exact i_vals G h2 h3 (sound e c _ h4 G KO).1
    · cases h
  | .rng2 _ _, c, a, h, W, Z, X, tgt, G, KO => by unfold chkI at h; cases h
  | .enum _, c, a, h, W, Z, X, tgt, G, KO => by unfold chkI at h; cases h
  | .zip _ _, c, a, h, W, Z, X, tgt, G, KO => by unfold chkI at h; cases h
  | .items _, c, a, h, W, Z, X, tgt, G, KO => by unfold chkI at h; cases h
theorem soundC {t : Tb} {L : Lk} {g : Cfg} : ∀ (cs : Cs) (c : Cc) (es : List Expr), chkC t cs c es = true → ∀ {W : WX} {Z : ZP} {X : Cx}, Good t L g W Z X c → KitOk t L X → PTs X es (tBb L W Z fun env S => evC g cs env S)
  | .no, c, es, h, W, Z, X, G, KO => by
    unfold chkC at h
    cases es with
    | nil => exact ⟨fun pins s σ H Q I w => pts_nil.run pins s σ H Q I (te_ok w fun _ _ => rfl)⟩
    | cons _ _ => cases h
  | .one e, c, es, h, W, Z, X, G, KO => by
    unfold chkC at h
    split at h
    · exact pts_one (sound e c _ h G KO).2
    · cases h
end
end KF

set_option Elab.async false
set_option linter.all false
set_option maxRecDepth 100000
set_option maxHeartbeats 4000000
/-! V11: statements -/
namespace KF
open PySem PySem.Spec PyProof.Rows L2 LamX
def ContS (L : Lk) (W : WX) (Z : ZP) (D : Ends) (H : Hp) (m : Mp) : RS → Prop
  | .next env S => ∀ H' m' σ', Ext H m H' m' → RelS L H' m' S → RelE L Z H' m' env σ' → D.nx σ' H'
  | .ret d S => ∀ H' m' v, Ext H m H' m' → RelS L H' m' S → RelD L H' m' d v → D.rt v H'
  | .brk env S => ∀ H' m' σ', Ext H m H' m' → RelS L H' m' S → RelE L Z H' m' env σ' → D.bk σ' H'
  | .cont env S => ∀ H' m' σ', Ext H m H' m' → RelS L H' m' S → RelE L Z H' m' env σ' → D.ct σ' H'
  | .exc c fs env S => ∀ H' m' σ' dx vs, Ext H m H' m' → RelS L H' m' S → RelE L Z H' m' env σ' → RelDs L H' m' fs vs → H' dx = some (.xd ((L.ef c).zip vs).reverse) → dx ∉ m'.locs → dx ∉ m'.pr → W (.ref (L.ea c)) (some dx) σ' H'
  | .bad => False
section
variable {L : Lk} {W : WX} {Z : ZP} {D D' : Ends} {H H1 : Hp} {m m1 : Mp}
theorem ContS.ext (e : Ext H m H1 m1) : ∀ {r : RS}, ContS L W Z D H m r → ContS L W Z D H1 m1 r
  | .next _ _, h => fun H' m' σ' e' s r => h H' m' σ' (e.trans e') s r
  | .ret _ _, h => fun H' m' σ' e' s r => h H' m' σ' (e.trans e') s r
  | .brk _ _, h => fun H' m' σ' e' s r => h H' m' σ' (e.trans e') s r
  | .cont _ _, h => fun H' m' σ' e' s r => h H' m' σ' (e.trans e') s r
  | .exc _ _ _ _, h => fun H' m' σ' dx vs e' s r r1 r2 r3 r4 => h H' m' σ' dx vs (e.trans e') s r r1 r2 r3 r4
  | .bad, h => h
theorem ContS.seq {D D' : Ends} {f : KF.Env → Store → RS} {r : RS} (hr : D'.rt = D.rt) (hb : D'.bk = D.bk) (hc : D'.ct = D.ct)
    (hn : ∀ env S, ∀ H' m' σ', Ext H m H' m' → RelS L H' m' S → RelE L Z H' m' env σ' → ContS L W Z D H' m' (f env S) → D'.nx σ' H')
    (h : ContS L W Z D H m (match r with | .next env' S' => f env' S' | r => r)) : ContS L W Z D' H m r := by
  cases r with
  | next env S => exact fun H' m' σ' e s r => hn env S H' m' σ' e s r (ContS.ext e h)
  | ret d S => unfold ContS; rw [hr]; exact h
  | brk d S => unfold ContS; rw [hb]; exact h
  | cont d S => unfold ContS; rw [hc]; exact h
  | exc _ _ _ _ => exact h
  | bad => exact h
theorem Cont.st {α β : Type} {Rl : Hp → Mp → α → β → Prop} {σ : L2.St} {env : KF.Env} {f : α → Store → RS} (zm : ZMono Z) (he : RelE L Z H m env σ) : ∀ {r : R α}, ContS L W Z D H m (r.st env f) →
    Cont L W σ Rl (fun v H1 => ∃ m1 d S1, Ext H m H1 m1 ∧ RelE L Z H1 m1 env σ ∧ RelS L H1 m1 S1 ∧ Rl H1 m1 d v ∧ ContS L W Z D H1 m1 (f d S1)) H m r
  | .ok d S', h => fun H' m' v e' s r => ⟨m', d, S', e', he.mono zm e'.mono, s, r, ContS.ext e' h⟩
  | .exc c fs S', h => fun H' m' dx vs e s r h1 h2 h3 => h H' m' σ dx vs e s (he.mono zm e.mono) r h1 h2 h3
  | .bad, h => h
end
def tS (L : Lk) (W : WX) (Z : ZP) (f : KF.Env → Store → RS) : TS := fun D σ H => ∃ env S m, RelE L Z H m env σ ∧ RelS L H m S ∧ ContS L W Z D H m (f env S)
theorem tS.st {L : Lk} {W : WX} {Z : ZP} {D : Ends} {α β : Type} {Rl : Hp → Mp → α → β → Prop} (zm : ZMono Z) {g : KF.Env → Store → R α} {f : KF.Env → α → Store → RS} {σ : L2.St} {H : Hp} (w : tS L W Z (fun env S => (g env S).st env fun d S1 => f env d S1) D σ H) :
    tE L W Z Rl g σ H fun v H1 => ∃ env m1 d S1, RelE L Z H1 m1 env σ ∧ RelS L H1 m1 S1 ∧ Rl H1 m1 d v ∧ ContS L W Z D H1 m1 (f env d S1) := by
  obtain ⟨env, S, m, he, hs, k⟩ := w
  exact ⟨env, S, m, he, hs, (Cont.st zm he k).imp fun v H1 ⟨m1, d, S1, _, a, b, c, e⟩ => ⟨env, m1, d, S1, a, b, c, e⟩⟩
/-! ### does it say the row's statements -/
def notComp : Expr → Bool
  | .ListComp _ _ _ _ => false
  | .SetComp _ _ _ _ => false
  | .DictComp _ _ _ _ _ => false
  | _ => true
theorem notComp_ok {e : Expr} (h : notComp e = true) (t : Option Expr) (l : Nat) (env : PySem.Env) : swapsWith e t l env = pure false := by cases e <;> first | rfl | cases h
def notTup : Expr → Bool
  | .Tuple _ _ _ => false
  | .List _ _ => false
  | _ => true
/-- y = [..] stored within the comprehension's frame -/
def swB (c : Cc) (v : Expr) (x : Str) (p : Pos) : Bool := match v with
  | .ListComp _ _ s q => decide (c.sc.kind = .function) && (decide (c.sc.names.lookup x = some .local) && (p.line == q.line && !(s.names.any fun (n, k) => n == x && (k == .local || k == .cell))))
  | _ => false
/-- (a, b) = (x, y) stored from the right -/
def parB (c : Cc) (ts vs : List Expr) : Bool := match ts, vs with
  | [.Name x p, .Name y q], [a, b] => decide (c.sc.kind = .function) && (decide (c.sc.names.lookup x = some .local) && (decide (c.sc.names.lookup y = some .local) && ((q.line == p.line) && (!(x == y) && (!(foldedForSure 8 a && foldedForSure 8 b) && (!(constantsAlone 8 a && constantsAlone 8 b) && (notStar a && notStar b)))))))
  | _, _ => false
/-- (a, b, c) = (x, y, z) stored from the right -/
def parB3 (c : Cc) (ts vs : List Expr) : Bool := match ts, vs with
  | [.Name x p, .Name y q, .Name z r], [a, b, d] => decide (c.sc.kind = .function) && (decide (c.sc.names.lookup x = some .local) && (decide (c.sc.names.lookup y = some .local) && (decide (c.sc.names.lookup z = some .local) && ((q.line == p.line) && ((r.line == p.line) && (!(x == y) && (!(x == z) && (!(y == z) &&
    (!(foldedForSure 8 a && (foldedForSure 8 b && foldedForSure 8 d)) && (!(constantsAlone 8 a && (constantsAlone 8 b && constantsAlone 8 d)) && (notStar a && (notStar b && notStar d))))))))))))
  | _, _ => false
/-- a comprehension that is stored behind its frame -/
def nswB (c : Cc) (v : Expr) (x : Str) (p : Pos) : Bool := match v with
  | .ListComp _ _ s q => decide (c.sc.kind = .function) && !(decide (c.sc.names.lookup x = some .local) && (p.line == q.line && !(s.names.any fun (n, k) => n == x && (k == .local || k == .cell))))
  | _ => false
/-- no such stores -/
def nparB (c : Cc) (ts vs : List Expr) : Bool := !(ts.length == 2 || ts.length == 3) || ts.any fun t => match t with
  | .Name x _ => !decide (c.sc.names.lookup x = some .local)
  | _ => true
def augO (o : O2) : Bool := match o with
  | .add => true
  | .sub => true
  | _ => false
def noArgs (ps : Arguments) : Bool := ps.posonlyargs.isEmpty && (ps.args.isEmpty && (ps.vararg.isNone && (ps.kwonlyargs.isEmpty && (ps.kw_defaults.isEmpty && (ps.kwarg.isNone && ps.defaults.isEmpty)))))
def chkRows (t : Tb) : Dds → Cc → List Expr → Bool
  | .nil, _, rs => rs.isEmpty
  | .cons e d r, c, rs => (match rs with
    | .Tuple [.Lambda ps b sc _, du] _ _ :: rs' => noArgs ps && (lamSB c.sc sc && (chk t e ⟨c.N, sc, some sc, none⟩ b && (chk t d c du && (notStar du && chkRows t r c rs'))))
    | _ => false)
mutual
def chkS (t : Tb) (dl : Bool) : St → Cc → Stmt → Bool
  | .ex e, c, a => (match a with
    | .Expr x _ => notComp x && chk t e c x
    | _ => false)
  | .ret e, c, a => (match a with
    | .Return (some x) _ => chk t e c x
    | _ => false)
  | .retN, _, a => (match a with
    | .Return none _ => true
    | _ => false)
  | .asg tg e, c, a => calmB c && (chk t e c (match a with | .Assign _ v _ => v | _ => .Constant .ellipsis 0 ⟨0, 0, 0, 0⟩) && (match a with
    | .Assign [.Name x p] v _ => (match tg with
      | .n i => decide (c.N[i]? = some x) && (locB c x && (notComp v || (swB c v x p || nswB c v x p)))
      | _ => false)
    | .Assign [.Tuple ts k p] (.Tuple vs k2 p2) _ => chkT c tg (.Tuple ts k p) && (nparB c ts vs || (parB c ts vs || parB3 c ts vs))
    | .Assign [.Tuple ts k p] v _ => chkT c tg (.Tuple ts k p) && (notTup v && notComp v)
    | _ => false))
  | .augN i o e, c, a => calmB c && (match a with
    | .AugAssign (.Name x _) p v _ => o.is p && (augO o && (decide (c.N[i]? = some x) && (locB c x && chk t e c v)))
    | _ => false)
  | .augX x i o e, c, a => calmB c && (match a with
    | .AugAssign (.Subscript l r _) p v _ => o.is p && (augO o && (notSlice r && (chk t x c l && (chk t i c r && chk t e c v))))
    | _ => false)
  | .augA x f o e, c, a => calmB c && (match a with
    | .AugAssign (.Attribute l g _) p v _ => o.is p && (augO o && (decide (f = g) && (chk t x c l && chk t e c v)))
    | _ => false)
  | .stX x i e, c, a => calmB c && (match a with
    | .Assign [.Subscript l r _] v _ => notSlice r && (chk t x c l && (chk t i c r && chk t e c v))
    | _ => false)
  | .stA x f e, c, a => calmB c && (match a with
    | .Assign [.Attribute l g _] v _ => decide (f = g) && (chk t x c l && chk t e c v)
    | _ => false)
  | .whl x b, c, a => calmB c && (match a with
    | .While q y [] _ => chk t x c q && chkSs t dl b c y
    | _ => false)
  | .try_ _ _ _ _, _, _ => false
  | .ifs x a b, c, s => (match s with
    | .If q y z _ => chk t x c q && (chkSs t dl a c y && chkSs t dl b c z)
    | _ => false)
  | .for_ tg it b, c, a => calmB c && (match a with
    | .For q x y [] _ => notSet x && (chkT c tg q && (chkI t it c x && chkSs t dl b c y))
    | _ => false)
  | .raise k as, c, a => calmB c && (match a with
    | .Raise (some (.Call (.Name x _) (e :: es) [] _)) none _ => decide (t.exN[k]? = some x) && (glB c.sc x && (dunB x && ((e :: es).all notStar && chks t as c (e :: es))))
    | _ => false)
  | .pass, _, a => (match a with
    | .Pass _ => true
    | _ => false)
  | .brk, _, a => (match a with
    | .Break _ => true
    | _ => false)
  | .cont, _, a => (match a with
    | .Continue _ => true
    | _ => false)
  | .deeds rows di du fi k b h, c, a => dl && (calmB c && (match a with
    | .For (.Tuple [.Name dn dp, .Name un up] _ _) (.Tuple rs _ _) [.Try (.Expr (.Call (.Name dn2 _) [] [] _) _ :: bs) [.ExceptHandler (some (.Name xn _)) (some fn) (h0 :: hs) _] [] [] _] [] _ =>
      decide (di ≠ du) && (decide (c.N[di]? = some dn) && (decide (dn2 = dn) && (decide (c.N[du]? = some un) && (decide (c.N[fi]? = some fn) && (decide (c.sc.names.lookup fn = some .local) && (locB c dn && (locB c un && (visB c.sc dn && (dunB dn && (decide (t.exN[k]? = some xn) &&
      (glB c.sc xn && (dunB xn && (rs.all notStar && (decide (rs.length ≤ sizeLine) && (chkRows t rows c rs && (chkSs t dl b c bs && chkSs t dl h ⟨c.N, c.sc, c.own, some fi⟩ (h0 :: hs)))))))))))))))))
    | _ => false))
def chkSs (t : Tb) (dl : Bool) : Sts → Cc → List Stmt → Bool
  | .nil, _, ss => ss.isEmpty
  | .cons s r, c, ss => (match ss with
    | a :: as => chkS t dl s c a && chkSs t dl r c as
    | [] => false)
end
/-- the classes of errors -/
def ExcOk (t : Tb) (L : Lk) (X : Cx) : Prop := ∀ (k : Nat) (x : Str), t.exN[k]? = some x → ∀ (e : Expr) (es : List Expr) (p p2 : Pos) (ta : TA), Gl X x → (x == ("__debug__" : Str)) = false → (e :: es).all notStar = true → PA X (e :: es) ta →
  PMk X (.Call (.Name x p) (e :: es) [] p2) (fun σ H Q => ta σ H fun vs H1 => vs.length = (L.ef k).length ∧ ∀ d, H1 d = none → Q (.ref (L.ea k)) (some d) (upd H1 d (.xd ((L.ef k).zip vs).reverse)))
section
variable {t : Tb} {L : Lk} {g : Cfg} {W : WX} {Z : ZP} {X : Cx} {c : Cc}
theorem s_ex (G : Good t L g W Z X c) {f : Ev} {a : Expr} {p : Pos} (h : PE X a (tD L W Z f)) (hn : notComp a = true) : PS X (.Expr a p) (tS L W Z fun env S => (f env S).st env fun _ S1 => .next env S1) := by
  refine (ps_expr h (notComp_ok hn _ _ _)).imp fun D σ H w => ?_
  refine (tS.st (Rl := RelD L) G.zm (f := fun env _ S1 => .next env S1) w).imp fun v H1 ⟨env, m1, d, S1, he, hs, r, k⟩ => ?_
  exact k H1 m1 σ (Ext.refl _ _) hs he
theorem s_ret (G : Good t L g W Z X c) {f : Ev} {a : Expr} {p : Pos} (h : PE X a (tD L W Z f)) : PS X (.Return (some a) p) (tS L W Z fun env S => (f env S).st env fun d S1 => .ret d S1) := by
  refine (ps_ret h).imp fun D σ H w => ?_
  refine (tS.st (Rl := RelD L) G.zm (f := fun env d S1 => .ret d S1) w).imp fun v H1 ⟨env, m1, d, S1, he, hs, r, k⟩ => ?_
  exact k H1 m1 v (Ext.refl _ _) hs r
theorem s_retN {p : Pos} : PS X (.Return none p) (tS L W Z fun _ S => .ret .non S) := ps_retN.imp fun D σ H ⟨env, S, m, he, hs, k⟩ => k H m .non (Ext.refl _ _) hs rfl
theorem s_pass {p : Pos} : PS X (.Pass p) (tS L W Z fun env S => .next env S) := ps_pass.imp fun D σ H ⟨env, S, m, he, hs, k⟩ => k H m σ (Ext.refl _ _) hs he
theorem s_brk {p : Pos} : PS X (.Break p) (tS L W Z fun env S => .brk env S) := ps_break.imp fun D σ H ⟨env, S, m, he, hs, k⟩ => k H m σ (Ext.refl _ _) hs he
theorem s_cont {p : Pos} : PS X (.Continue p) (tS L W Z fun env S => .cont env S) := ps_continue.imp fun D σ H ⟨env, S, m, he, hs, k⟩ => k H m σ (Ext.refl _ _) hs he
theorem ss_nil : PSs X [] (tS L W Z fun env S => .next env S) := pss_nil.imp fun D σ H ⟨env, S, m, he, hs, k⟩ => k H m σ (Ext.refl _ _) hs he
theorem ss_cons (G : Good t L g W Z X c) {f1 f2 : KF.Env → Store → RS} {s : Stmt} {ss : List Stmt} (h1 : PS X s (tS L W Z f1)) (h2 : PSs X ss (tS L W Z f2)) :
    PSs X (s :: ss) (tS L W Z fun env S => match f1 env S with | .next env' S' => f2 env' S' | r => r) := by
  refine (pss_cons h1 h2).imp fun D σ H ⟨env, S, m, he, hs, k⟩ => ?_
  refine ⟨env, S, m, he, hs, ContS.seq (D := D) rfl rfl rfl (fun env' S' H' m' σ' e s r q => ⟨env', S', m', r, s, q⟩) k⟩
theorem s_if (G : Good t L g W Z X c) {f : Ev} {fa fb : KF.Env → Store → RS} {q : Expr} {ss rs : List Stmt} {p : Pos} (h : PT X q (tBb L W Z fun env S => (f env S).bind asB)) (ha : PSs X ss (tS L W Z fa)) (hb : PSs X rs (tS L W Z fb)) :
    PS X (.If q ss rs p) (tS L W Z fun env S => ((f env S).bind asB).st env fun x S1 => if x = true then fa env S1 else fb env S1) := by
  refine (ps_if h ha hb).imp fun D σ H w => ?_
  refine (tS.st (Rl := fun _ _ (d : Bool) b => d = b) G.zm (f := fun env x S1 => if x = true then fa env S1 else fb env S1) w).imp fun b H1 ⟨env, m1, d, S1, he, hs, r, k⟩ => ?_
  have r : d = b := r
  subst r
  cases d with
  | true => exact ⟨env, S1, m1, he, hs, k⟩
  | false => exact ⟨env, S1, m1, he, hs, k⟩
/-- a store to a target, by its evaluation -/
theorem s_asgR (G : Good t L g W Z X c) (hc : c.suite = none) {tg : Tg} {f : Ev} {D : Ends} {σ : L2.St} {H : Hp} (w : tS L W Z (fun env S => (f env S).st env fun d S1 => match asg tg d env with
    | some env' => .next env' S1
    | none => .bad) D σ H) : tD L W Z f σ H fun x H1 => tGr L.K tg x σ H1 D.nx := by
  refine (tS.st (Rl := RelD L) G.zm (f := fun env d S1 => (match asg tg d env with
    | some env' => .next env' S1
    | none => .bad)) w).imp fun v H1 ⟨env, m1, d, S1, he, hs, r, k⟩ => ?_
  cases q : asg tg d env with
  | none => rw [q] at k; exact k.elim
  | some env' =>
    rw [q] at k
    exact g_sem (Z := Z) (G.zt hc) tg d env env' σ v _ q he r fun σ' he' _ => k H1 m1 σ' (Ext.refl _ _) hs he'
theorem s_asgN (G : Good t L g W Z X c) (hc : c.suite = none) {i : Nat} {x : Str} {f : Ev} {v : Expr} {p p2 : Pos} (hi : c.N[i]? = some x) (hl : locB c x = true) (hn : swapsWith v (some (.Name x p)) p2.line X.env = pure false) (h : PE X v (tD L W Z f)) :
    PS X (.Assign [.Name x p] v p2) (tS L W Z fun env S => (f env S).st env fun d S1 => match asg (.n i) d env with
      | some env' => .next env' S1
      | none => .bad) := by
  obtain ⟨h1, h2⟩ := fn_loc G hl
  exact (ps_set (i := i) (by rw [G.N]; exact G.nd) (by rw [G.N]; exact hi) h1 h hn h2).imp fun D σ H w => s_asgR (tg := .n i) G hc w
theorem s_asgT (G : Good t L g W Z X c) (hc : c.suite = none) {tg : Tg} {ts : List Expr} {k : Nat} {f : Ev} {v : Expr} {p p2 : Pos} (ht : chkT c tg (.Tuple ts k p) = true) (hn : notComp v = true) (hw : swappedStores [.Tuple ts k p] v X.env = pure none) (h : PE X v (tD L W Z f)) :
    PS X (.Assign [.Tuple ts k p] v p2) (tS L W Z fun env S => (f env S).st env fun d S1 => match asg tg d env with
      | some env' => .next env' S1
      | none => .bad) := by
  have hg := g_ok G (G.calm hc) tg _ ht
  rw [G.K] at hg
  exact (ps_asg h hg (notComp_ok hn (some (.Tuple ts k p)) p2.line X.env) hw rfl).imp fun D σ H w => s_asgR G hc w
/-- both stored from the right -/
theorem par_ok {c : Cc} {env : PySem.Env} (hs : env.scope = c.sc) {x y : Str} {a b : Expr} {p q pt pt2 : Pos} {k k2 : Nat} (h : parB c [.Name x p, .Name y q] [a, b] = true) :
    swappedStores [.Tuple [.Name x p, .Name y q] k pt] (.Tuple [a, b] k2 pt2) env = pure (some [x, y]) ∧ c.sc.names.lookup x = some .local ∧ c.sc.names.lookup y = some .local ∧ x ≠ y ∧ notStar a = true ∧ notStar b = true := by
  unfold parB at h
  simp only [Bool.and_eq_true, decide_eq_true_eq, Bool.not_eq_true'] at h
  obtain ⟨h1, h2, h3, h4, h5, h6, h7, h8, h9⟩ := h
  have e5 : x ≠ y := fun z => by rw [z] at h5; simp at h5
  refine ⟨?_, h2, h3, e5, h8, h9⟩
  have kx : env.kindOf x = some .local := by show env.scope.names.lookup x = _; rw [hs]; exact h2
  have ky : env.kindOf y = some .local := by show env.scope.names.lookup y = _; rw [hs]; exact h3
  have kb : env.blockKind = .function := by unfold Env.blockKind; rw [hs, h1]; rfl
  have el : (q.line == p.line) = true := h4
  have el2 : q.line = p.line := eq_of_beq el
  have e6 : (x == y) = false := h5
  unfold swappedStores
  have ed : ([x, y] : List Str).eraseDups = [x, y] := by
    have e7 : (y == x) = false := by rw [Bool.eq_false_iff]; intro z; rw [eq_of_beq z] at h5; simp at h5
    simp [List.eraseDups, List.eraseDupsBy, List.eraseDupsBy.loop, e6, e7]
  have pl : (Expr.Name x p).pos = p := rfl
  have pl2 : (Expr.Name y q).pos = q := rfl
  simp [kb, kx, ky, el2, h6, h7, pl, pl2, ed, List.filterMap]
  intro z
  exfalso
  rcases z with z | z
  · cases a <;> first | (cases z; done) | (cases h8; done)
  · cases b <;> first | (cases z; done) | (cases h9; done)
theorem npar_ok {c : Cc} {env : PySem.Env} (hs : env.scope = c.sc) {ts vs : List Expr} {k k2 : Nat} {p p2 : Pos} (h : nparB c ts vs = true) : swappedStores [.Tuple ts k p] (.Tuple vs k2 p2) env = pure none := by
  unfold nparB at h
  unfold swappedStores
  rw [Bool.or_eq_true] at h
  rcases h with h | h
  · rw [Bool.not_eq_true'] at h
    simp [h]
  · dsimp only
    split
    · rfl
    split
    · rfl
    have hlt : ∀ (g : Expr → Option Str) (l : List Expr), (∃ t ∈ l, g t = none) → (l.filterMap g).length < l.length := by
      intro g l
      induction l with
      | nil => rintro ⟨t, ht, _⟩; cases ht
      | cons a r ih =>
        rintro ⟨t, ht, e⟩
        have hle : (r.filterMap g).length ≤ r.length := List.length_filterMap_le _ _
        rcases List.mem_cons.mp ht with z | z
        · rw [← z, List.filterMap_cons_none e, List.length_cons]; omega
        · have := ih ⟨t, z, e⟩
          cases q : g a with
          | none => rw [List.filterMap_cons_none q, List.length_cons]; omega
          | some b => rw [List.filterMap_cons_some q, List.length_cons, List.length_cons]; omega
    rw [if_pos]
    simp only [Bool.or_eq_true, bne_iff_ne, ne_eq]
    refine .inl (Nat.ne_of_lt (hlt _ _ ?_))
    obtain ⟨t, ht, e⟩ := List.any_eq_true.mp h
    refine ⟨t, ht, ?_⟩
    cases t <;> try rfl
    rename_i x q
    have e : (!decide (c.sc.names.lookup x = some .local)) = true := e
    rw [Bool.not_eq_true', decide_eq_false_iff_not] at e
    have kx : (env.kindOf x == some .local) = false := by
      show (env.scope.names.lookup x == some .local) = false
      rw [hs]
      exact beq_eq_false_iff_ne.mpr e
    simp [kx]
theorem nsw_ok {c : Cc} {env : PySem.Env} (hs : env.scope = c.sc) {v : Expr} {x : Str} {p : Pos} {l : Nat} (h : nswB c v x p = true) : swapsWith v (some (.Name x p)) l env = pure false := by
  unfold nswB at h
  split at h
  · rename_i e g s q
    simp only [Bool.and_eq_true, decide_eq_true_eq, Bool.not_eq_true'] at h
    obtain ⟨h1, h2⟩ := h
    have kb : env.blockKind = .function := by unfold Env.blockKind; rw [hs, h1]; rfl
    unfold swapsWith
    have pl : (Expr.ListComp e g s q).pos = q := rfl
    have kx : (env.kindOf x == some .local) = decide (c.sc.names.lookup x = some .local) := by
      show (env.scope.names.lookup x == some .local) = _
      rw [hs]
      cases c.sc.names.lookup x with
      | none => rfl
      | some k => cases k <;> rfl
    have kf : (ScopeKind.function == ScopeKind.function) = true := rfl
    simp only [pl, kb, kx, kf, Bool.true_and, Bool.and_assoc, pure_bind]
    rw [h2]
  · cases h
theorem ntup_ok {env : PySem.Env} {ts : List Expr} {v : Expr} {k : Nat} {p : Pos} (h : notTup v = true) : swappedStores [.Tuple ts k p] v env = pure none := by
  cases v <;> first | rfl | cases h
theorem sw_ok {c : Cc} {env : PySem.Env} (hs : env.scope = c.sc) {v : Expr} {x : Str} {p : Pos} {l : Nat} (h : swB c v x p = true) : swapsWith v (some (.Name x p)) l env = pure true ∧ c.sc.names.lookup x = some .local ∧ ∃ e g s q, v = .ListComp e g s q := by
  unfold swB at h
  split at h
  · rename_i e g s q
    simp only [Bool.and_eq_true, decide_eq_true_eq, Bool.not_eq_true'] at h
    obtain ⟨h1, h2, h3, h4⟩ := h
    have kx : env.kindOf x = some .local := by show env.scope.names.lookup x = _; rw [hs]; exact h2
    have kb : env.blockKind = .function := by unfold Env.blockKind; rw [hs, h1]; rfl
    refine ⟨?_, h2, e, g, s, q, rfl⟩
    have e3 : p.line = q.line := eq_of_beq h3
    unfold swapsWith
    have pl : (Expr.ListComp e g s q).pos = q := rfl
    simp [pl, kb, kx, e3, h4]
  · cases h
theorem RelE.set {L : Lk} {Z : ZP} (zt : ∀ σ H m, Z σ H m) {H : Hp} {m : Mp} {env : KF.Env} {σ : L2.St} {i : Nat} {d : D} {v : V} (he : RelE L Z H m env σ) (hi : i < env.length) (r : RelD L H m d v) : RelE L Z H m (env.set i (some d)) (σ.set i (some v)) := by
  refine ⟨by rw [List.length_set, List.length_set]; exact he.1, fun j e q => ?_, zt _ _ _, he.2.2.2⟩
  by_cases hij : i = j
  · subst hij
    rw [List.getElem?_set_self hi] at q
    cases q
    exact ⟨v, by rw [List.getElem?_set_self (by rw [← he.1]; exact hi)], r⟩
  · rw [List.getElem?_set_ne hij] at q
    obtain ⟨w, e1, r1⟩ := he.2.1 j e q
    exact ⟨w, by rw [List.getElem?_set_ne hij]; exact e1, r1⟩
theorem st_bind {α β : Type} {r : R α} {f : α → Store → R β} {env : KF.Env} {h : β → Store → RS} : (r.bind f).st env h = r.st env fun x S => (f x S).st env h := by cases r <;> rfl
theorem s_par (G : Good t L g W Z X c) (hc : c.suite = none) {tg : Tg} {fs : KF.Env → Store → R (List D)} {a b : Expr} {x y : Str} {p q pt pt2 p2 : Pos} {k k2 : Nat} (ht : chkT c tg (.Tuple [.Name x p, .Name y q] k pt) = true) (h : parB c [.Name x p, .Name y q] [a, b] = true) (ha : PA X [a, b] (tDs L W Z fs)) :
    PS X (.Assign [.Tuple [.Name x p, .Name y q] k pt] (.Tuple [a, b] k2 pt2) p2) (tS L W Z fun env S => ((fs env S).bind fun ds S1 => if ds.length ≤ sizeLine then .ok (.tup ds) S1 else .bad).st env fun d S1 => match asg tg d env with
      | some env' => .next env' S1
      | none => .bad) := by
  obtain ⟨hw, hx, hy, hne, na, nb⟩ := par_ok (env := X.env) (p := p) (q := q) (pt := pt) (pt2 := pt2) (k := k) (k2 := k2) G.sc h
  obtain ⟨i, j, rfl⟩ : ∃ i j, tg = .t (.cons (.n i) (.cons (.n j) .nil)) := by
    cases tg with
    | n i => unfold chkT at ht; cases ht
    | t ts =>
      unfold chkT at ht
      dsimp only at ht
      rw [Bool.and_eq_true] at ht
      have ht := ht.2
      cases ts with
      | nil => cases ht
      | cons t1 r1 =>
        unfold chkTs at ht
        dsimp only at ht
        rw [Bool.and_eq_true] at ht
        cases t1 with
        | t _ => have := ht.1; unfold chkT at this; cases this
        | n i =>
          have ht := ht.2
          cases r1 with
          | nil => cases ht
          | cons t2 r2 =>
            unfold chkTs at ht
            dsimp only at ht
            rw [Bool.and_eq_true] at ht
            cases t2 with
            | t _ => have := ht.1; unfold chkT at this; cases this
            | n j =>
              cases r2 with
              | nil => exact ⟨i, j, rfl⟩
              | cons _ _ => have := ht.2; unfold chkTs at this; cases this
  have hi : c.N[i]? = some x ∧ c.N[j]? = some y := by
    simp only [chkT, chkTs, Bool.and_eq_true, decide_eq_true_eq] at ht
    exact ⟨ht.2.1.1, ht.2.2.1.1⟩
  have hij : i ≠ j := fun z => by
    subst z
    rw [hi.1] at hi
    exact hne (Option.some.inj hi.2)
  refine (ps_par (G.calm hc) (by rw [G.N]; exact G.nd) (by rw [G.N]; exact hi.1) (by rw [G.N]; exact hi.2) hij (by rw [G.sc]; exact hx) (by rw [G.sc]; exact hy) ha hw rfl).imp fun D σ H w => ?_
  obtain ⟨env, S, m, he, hs, kk⟩ := w
  have kk : ContS L W Z D H m (((fs env S).bind fun ds S1 => if ds.length ≤ sizeLine then R.ok (KF.D.tup ds) S1 else R.bad).st env fun d S1 => match asg (.t (.cons (.n i) (.cons (.n j) .nil))) d env with
      | some env' => .next env' S1
      | none => .bad) := kk
  rw [st_bind] at kk
  refine ⟨env, S, m, he, hs, (Cont.st (Rl := RelDs L) G.zm he kk).imp fun vs H1 ⟨m1, ds, S1, _, he1, hs1, r, k1⟩ => ?_⟩
  by_cases hl : ds.length ≤ sizeLine
  · rw [if_pos hl] at k1
    have k2 : ContS L W Z D H1 m1 (match asg (.t (.cons (.n i) (.cons (.n j) .nil))) (KF.D.tup ds) env with
        | some env' => .next env' S1
        | none => .bad) := k1
    cases q : asg (.t (.cons (.n i) (.cons (.n j) .nil))) (KF.D.tup ds) env with
    | none => rw [q] at k2; exact k2.elim
    | some env' =>
      rw [q] at k2
      have q1 : asgs (.cons (.n i) (.cons (.n j) .nil)) ds env = some env' := by unfold asg at q; exact q
      have hlen : ds.length = 2 := asgs_len q1
      obtain ⟨d1, d2, rfl⟩ : ∃ d1 d2, ds = [d1, d2] := by
        match ds, hlen with
        | [d1, d2], _ => exact ⟨d1, d2, rfl⟩
      obtain ⟨v, w, rfl, r1, r2⟩ := two_of r
      refine ⟨v, w, rfl, ?_⟩
      have e : asgs (.cons (.n i) (.cons (.n j) .nil)) [d1, d2] env = (if i < env.length then (if j < env.length then some ((env.set i (some d1)).set j (some d2)) else none) else none) := by
        by_cases h1 : i < env.length
        · by_cases h2 : j < env.length
          · simp [asg, asgs, h1, h2]
          · simp [asg, asgs, h1, h2]
        · simp [asg, asgs, h1]
      rw [e] at q1
      by_cases h1 : i < env.length
      · by_cases h2 : j < env.length
        · rw [if_pos h1, if_pos h2] at q1
          cases q1
          exact k2 H1 m1 _ (Ext.refl _ _) hs1 (RelE.set (G.zt hc) (RelE.set (G.zt hc) he1 h1 r1) (by rw [List.length_set]; exact h2) r2)
        · rw [if_pos h1, if_neg h2] at q1; cases q1
      · rw [if_neg h1] at q1; cases q1
  · rw [if_neg hl] at k1
    exact k1.elim
/-- three stored from the right -/
theorem par3_ok {c : Cc} {env : PySem.Env} (hs : env.scope = c.sc) {x y z : Str} {a b d : Expr} {p q r pt pt2 : Pos} {k k2 : Nat} (h : parB3 c [.Name x p, .Name y q, .Name z r] [a, b, d] = true) :
    swappedStores [.Tuple [.Name x p, .Name y q, .Name z r] k pt] (.Tuple [a, b, d] k2 pt2) env = pure (some [x, y, z]) ∧ c.sc.names.lookup x = some .local ∧ c.sc.names.lookup y = some .local ∧ c.sc.names.lookup z = some .local ∧ x ≠ y ∧ x ≠ z ∧ y ≠ z := by
  unfold parB3 at h
  simp only [Bool.and_eq_true, decide_eq_true_eq, Bool.not_eq_true'] at h
  obtain ⟨h1, h2, h3, h3', h4, h4', h5, h5', h5'', h6, h7, h8, h9, h10⟩ := h
  have n1 : x ≠ y := fun e => by rw [e] at h5; simp at h5
  have n2 : x ≠ z := fun e => by rw [e] at h5'; simp at h5'
  have n3 : y ≠ z := fun e => by rw [e] at h5''; simp at h5''
  refine ⟨?_, h2, h3, h3', n1, n2, n3⟩
  have kx : env.kindOf x = some .local := by show env.scope.names.lookup x = _; rw [hs]; exact h2
  have ky : env.kindOf y = some .local := by show env.scope.names.lookup y = _; rw [hs]; exact h3
  have kz : env.kindOf z = some .local := by show env.scope.names.lookup z = _; rw [hs]; exact h3'
  have kb : env.blockKind = .function := by unfold Env.blockKind; rw [hs, h1]; rfl
  have el2 : q.line = p.line := eq_of_beq h4
  have el3 : r.line = p.line := eq_of_beq h4'
  unfold swappedStores
  have m1 : (y == x) = false := beq_eq_false_iff_ne.mpr n1.symm
  have m2 : (z == x) = false := beq_eq_false_iff_ne.mpr n2.symm
  have m3 : (z == y) = false := beq_eq_false_iff_ne.mpr n3.symm
  have ed : ([x, y, z] : List Str).eraseDups = [x, y, z] := by
    simp [List.eraseDups, List.eraseDupsBy, List.eraseDupsBy.loop, m1, m2, m3]
  have pl : (Expr.Name x p).pos = p := rfl
  have pl2 : (Expr.Name y q).pos = q := rfl
  have pl3 : (Expr.Name z r).pos = r := rfl
  simp [kb, kx, ky, kz, el2, el3, h6, h7, pl, pl2, pl3, ed, List.filterMap]
  intro w
  exfalso
  rcases w with w | w | w
  · cases a <;> first | (cases w; done) | (cases h8; done)
  · cases b <;> first | (cases w; done) | (cases h9; done)
  · cases d <;> first | (cases w; done) | (cases h10; done)
theorem s_par3 (G : Good t L g W Z X c) (hc : c.suite = none) {tg : Tg} {fs : KF.Env → Store → R (List D)} {a b d : Expr} {x y z : Str} {p q r pt pt2 p2 : Pos} {k k2 : Nat} (ht : chkT c tg (.Tuple [.Name x p, .Name y q, .Name z r] k pt) = true) (h : parB3 c [.Name x p, .Name y q, .Name z r] [a, b, d] = true) (ha : PA X [a, b, d] (tDs L W Z fs)) :
    PS X (.Assign [.Tuple [.Name x p, .Name y q, .Name z r] k pt] (.Tuple [a, b, d] k2 pt2) p2) (tS L W Z fun env S => ((fs env S).bind fun ds S1 => if ds.length ≤ sizeLine then .ok (.tup ds) S1 else .bad).st env fun d S1 => match asg tg d env with
      | some env' => .next env' S1
      | none => .bad) := by
  obtain ⟨hw, hx, hy, hz, n1, n2, n3⟩ := par3_ok (env := X.env) (p := p) (q := q) (r := r) (pt := pt) (pt2 := pt2) (k := k) (k2 := k2) G.sc h
  obtain ⟨i, j, l, rfl⟩ : ∃ i j l, tg = .t (.cons (.n i) (.cons (.n j) (.cons (.n l) .nil))) := by
    cases tg with
    | n i => unfold chkT at ht; cases ht
    | t ts =>
      unfold chkT at ht
      dsimp only at ht
      rw [Bool.and_eq_true] at ht
      have ht := ht.2
      have one : ∀ {ts : Tgs} {x : Str} {p : Pos} {es : List Expr}, chkTs c ts (.Name x p :: es) = true → ∃ i r, ts = .cons (.n i) r ∧ chkTs c r es = true := by
        intro ts x p es ht
        cases ts with
        | nil => cases ht
        | cons t1 r1 =>
          unfold chkTs at ht
          dsimp only at ht
          rw [Bool.and_eq_true] at ht
          cases t1 with
          | t _ => have := ht.1; unfold chkT at this; cases this
          | n i => exact ⟨i, r1, rfl, ht.2⟩
      obtain ⟨i, r1, rfl, h1⟩ := one ht
      obtain ⟨j, r2, rfl, h2⟩ := one h1
      obtain ⟨l, r3, rfl, h3⟩ := one h2
      cases r3 with
      | nil => exact ⟨i, j, l, rfl⟩
      | cons _ _ => unfold chkTs at h3; cases h3
  have hi : c.N[i]? = some x ∧ c.N[j]? = some y ∧ c.N[l]? = some z := by
    simp only [chkT, chkTs, Bool.and_eq_true, decide_eq_true_eq] at ht
    exact ⟨ht.2.1.1, ht.2.2.1.1, ht.2.2.2.1.1⟩
  obtain ⟨i1, i2, i3⟩ := hi
  have hij : i ≠ j := fun z => by
    subst z
    rw [i1] at i2
    exact n1 (Option.some.inj i2)
  have hil : i ≠ l := fun z => by
    subst z
    rw [i1] at i3
    exact n2 (Option.some.inj i3)
  have hjl : j ≠ l := fun z => by
    subst z
    rw [i2] at i3
    exact n3 (Option.some.inj i3)
  refine (ps_par3 (G.calm hc) (by rw [G.N]; exact G.nd) (by rw [G.N]; exact i1) (by rw [G.N]; exact i2) (by rw [G.N]; exact i3) hij hil hjl (by rw [G.sc]; exact hx) (by rw [G.sc]; exact hy) (by rw [G.sc]; exact hz) ha hw rfl).imp fun D σ H w => ?_
  obtain ⟨env, S, m, he, hs, kk⟩ := w
  have kk : ContS L W Z D H m (((fs env S).bind fun ds S1 => if ds.length ≤ sizeLine then R.ok (KF.D.tup ds) S1 else R.bad).st env fun d S1 => match asg (.t (.cons (.n i) (.cons (.n j) (.cons (.n l) .nil)))) d env with
      | some env' => .next env' S1
      | none => .bad) := kk
  rw [st_bind] at kk
  refine ⟨env, S, m, he, hs, (Cont.st (Rl := RelDs L) G.zm he kk).imp fun vs H1 ⟨m1, ds, S1, _, he1, hs1, r, k1⟩ => ?_⟩
  by_cases hl : ds.length ≤ sizeLine
  · rw [if_pos hl] at k1
    have k2 : ContS L W Z D H1 m1 (match asg (.t (.cons (.n i) (.cons (.n j) (.cons (.n l) .nil)))) (KF.D.tup ds) env with
        | some env' => .next env' S1
        | none => .bad) := k1
    cases q : asg (.t (.cons (.n i) (.cons (.n j) (.cons (.n l) .nil)))) (KF.D.tup ds) env with
    | none => rw [q] at k2; exact k2.elim
    | some env' =>
      rw [q] at k2
      have q1 : asgs (.cons (.n i) (.cons (.n j) (.cons (.n l) .nil))) ds env = some env' := by unfold asg at q; exact q
      have hlen : ds.length = 3 := asgs_len q1
      obtain ⟨d1, d2, d3, rfl⟩ : ∃ d1 d2 d3, ds = [d1, d2, d3] := by
        match ds, hlen with
        | [d1, d2, d3], _ => exact ⟨d1, d2, d3, rfl⟩
      obtain ⟨u, s1, rfl, r1, v, s2, rfl, r2, w, s3, rfl, r3, rfl⟩ := r
      refine ⟨u, v, w, rfl, ?_⟩
      have e : asgs (.cons (.n i) (.cons (.n j) (.cons (.n l) .nil))) [d1, d2, d3] env = (if i < env.length then (if j < env.length then (if l < env.length then some (((env.set i (some d1)).set j (some d2)).set l (some d3)) else none) else none) else none) := by
        by_cases h1 : i < env.length
        · by_cases h2 : j < env.length
          · by_cases h3 : l < env.length
            · simp [asg, asgs, h1, h2, h3]
            · simp [asg, asgs, h1, h2, h3]
          · simp [asg, asgs, h1, h2]
        · simp [asg, asgs, h1]
      rw [e] at q1
      by_cases h1 : i < env.length
      · by_cases h2 : j < env.length
        · by_cases h3 : l < env.length
          · rw [if_pos h1, if_pos h2, if_pos h3] at q1
            cases q1
            exact k2 H1 m1 _ (Ext.refl _ _) hs1 (RelE.set (G.zt hc) (RelE.set (G.zt hc) (RelE.set (G.zt hc) he1 h1 r1) (by rw [List.length_set]; exact h2) r2) (by rw [List.length_set, List.length_set]; exact h3) r3)
          · rw [if_pos h1, if_pos h2, if_neg h3] at q1; cases q1
        · rw [if_pos h1, if_neg h2] at q1; cases q1
      · rw [if_neg h1] at q1; cases q1
  · rw [if_neg hl] at k1
    exact k1.elim
/-! ### op= -/
theorem ip_one {o : O2} : OpR X (inplaceOp o.py) (rO L fun _ => dopI o) := by
  refine OpR.any (f := inplaceOp o.py) fun x y H Q h => ?_
  obtain ⟨d, e, z, m, S, hs, rx, ry, hz, k⟩ := h
  have fin : ∀ v, RelD L H m z v → Q v H := fun v r => k H m v (Ext.refl H m) hs r
  cases o
  · cases d <;> cases e <;> simp only [dopI] at hz <;> try (cases hz; done)
    · cases hz
      exact ⟨_, iop_add, _, _, rx, ry, fin _ rfl⟩
    · split at hz
      · rename_i hl
        cases hz
        exact ⟨_, iop_add_str, _, _, rx, ry, hl, fin _ rfl⟩
      · cases hz
  · cases d <;> cases e <;> simp only [dopI] at hz <;> try (cases hz; done)
    cases hz
    exact ⟨_, iop_sub, _, _, rx, ry, fin _ rfl⟩
  · cases hz
  · cases hz
  · cases hz
  · cases hz
/-- a list is extended by one that is read -/
def rExtR : R2 := fun x y H Q => ∃ l b xs zs, x = .ref l ∧ y = .ref b ∧ H l = some (.lst xs) ∧ Rd H b (.lst zs) ∧ xs.length + zs.length ≤ sizeLine ∧ Q (.ref l) (upd H l (.lst (xs ++ zs)))
theorem iop_extR : OpR X (inplaceOp .Add) rExtR := by
  intro pins s σ H x y v u Q I rx ry h
  obtain ⟨l, b, xs, zs, rfl, rfl, hH, hB, hz, q⟩ := h
  cases rx
  cases ry
  obtain ⟨z, its, n, r, hl, e⟩ := I.lstM hH
  obtain ⟨z2, its2, n2, r2, e2⟩ := hB.ok I.hok
  have hl2 := r2.length
  have hsz : its.toArray.size + its2.toArray.size ≤ sizeLine := by rw [List.size_toArray, List.size_toArray]; omega
  have hlong : ¬ (!its.toArray.isEmpty && Builtin.List.listTooLong (its.toArray.size + its2.toArray.size)) = true := by
    rw [notLongL hsz, Bool.and_false]
    exact Bool.false_ne_true
  refine iadd_road ⟨_, e, rfl⟩ ⟨_, e2, rfl⟩ (call_meets PySem.F.slot_list_iadd ⟨_, e, rfl⟩ PySem.F.entry_list_iadd (PySem.F.args_list_iadd_2 _ _)
    (AutoSeq1.list___iadd___list_list_0 l its.toArray n b its2.toArray n2 hlong (by rw [List.size_toArray]; omega) (by omega)) ⟨e, e2, ?_⟩)
  refine ⟨.ref l, _, I.lset (its' := its ++ its2) (t' := s.toks) hH e (by simp) (r.append r2) ?_, rfl, q⟩
  rw [List.length_append]
  omega
/-- op= on what never changes; a list that is extended -/
def rIp (L : Lk) (o : O2) : TIp := fun x y H Q => rO L (fun _ => dopI o) x y H Q ∨ (o = .add ∧ rExtR x y H Q)
theorem ip_all {o : O2} : PIp X o.py (rIp L o) := by
  intro pins s σ H x y v u Q I rx ry h
  rcases h with h | ⟨rfl, h⟩
  · exact ip_one pins s σ H x y v u Q I rx ry h
  · exact iop_extR pins s σ H x y v u Q I rx ry h
theorem s_augN (G : Good t L g W Z X c) (hc : c.suite = none) {i : Nat} {o : O2} {x : Str} {f : Ev} {v : Expr} {p p2 : Pos} (hi : c.N[i]? = some x) (hl : locB c x = true) (h : PE X v (tD L W Z f)) :
    PS X (.AugAssign (.Name x p) o.py v p2) (tS L W Z fun env S => match (env[i]?).join with
      | some x => (f env S).st env fun y S1 => augR i o x y env S1
      | none => .bad) := by
  obtain ⟨h1, h2⟩ := fn_loc G hl
  refine (ps_aug (i := i) (by rw [G.N]; exact G.nd) (by rw [G.N]; exact hi) h1 h (ip_all (L := L)) h2).imp fun D σ H ⟨env, S, m, he, hs, k⟩ => ?_
  cases q : env[i]? with
  | none => dsimp only at k; rw [q] at k; exact k.elim
  | some o' =>
    cases o' with
    | none => dsimp only at k; rw [q] at k; exact k.elim
    | some d =>
      dsimp only at k
      rw [q] at k
      obtain ⟨xv, e1, r⟩ := he.2.1 i d q
      refine ⟨xv, e1, env, S, m, he, hs, ?_⟩
      have hil : i < env.length := (List.getElem?_eq_some_iff.mp q).1
      have k : ContS L W Z D H m ((f env S).st env fun y S1 => augR i o d y env S1) := k
      -- the name's value stays what it is
      cases q2 : f env S with
      | bad => rw [q2] at k; exact k.elim
      | exc cc fs S1 =>
        rw [q2] at k
        exact fun H' m' dx vs e s r' h1 h2 h3 => k H' m' σ dx vs e s (he.mono G.zm e.mono) r' h1 h2 h3
      | ok y S1 =>
        rw [q2] at k
        intro H1 m1 vy ex s1 ry
        have k2 : ContS L W Z D H m (augR i o d y env S1) := k
        unfold augR at k2
        cases q3 : dopI o d y with
        | none =>
          rw [q3] at k2
          dsimp only at k2
          clear k
          split at k2
          · rename_i n _
            have k3 := k2
            unfold extS at k3
            · split at k3
              · rename_i xs ys qx qy
                split at k3
                · rename_i hz
                  obtain ⟨a, rfl, ha⟩ := r.mono ex.mono
                  obtain ⟨b, ws, rfl, b3, b2⟩ := lst_sq s1 ry qy
                  obtain ⟨a', a1, vs, a2, a3⟩ := s1.at_ n _ qx
                  rw [ha] at a1; cases a1
                  have hm : a ∈ m1.locs := List.mem_of_getElem? ha
                  refine .inr ⟨rfl, a, b, vs, ws, rfl, rfl, a2, b2, by rw [a3.length, b3.length]; exact hz, ?_⟩
                  have rl : RelDs L H1 m1 (xs ++ ys) (vs ++ ws) := RelDs.app a3 b3
                  have e2 := he.mono G.zm ex.mono
                  have e3 := e2.mono G.zm (Mono.put (o := HO.lst (vs ++ ws)) hm)
                  have hE : RelE L Z (upd H1 a (.lst (vs ++ ws))) m1 env (σ.set i (some (.ref a))) := by
                    have : σ.set i (some (.ref a)) = σ := by
                      apply List.ext_getElem?
                      intro j
                      by_cases hj : i = j
                      · subst hj
                        rw [List.getElem?_set_self (by rw [← he.1]; exact hil)]; exact e1.symm
                      · rw [List.getElem?_set_ne hj]
                    rw [this]; exact e3
                  exact k3 _ m1 _ (ex.trans (Ext.put s1 hm (s1.notTbl ha) (nf_of a2 rfl))) (s1.putL ha rl) hE
                · exact k3.elim
              · exact k3.elim
          · exact k2.elim
        | some z =>
          rw [q3] at k2
          refine .inl ⟨d, y, z, m1, S1, s1, r.mono ex.mono, ry, q3, fun H2 m2 v2 ex2 s2 r2 => ?_⟩
          exact k2 H2 m2 _ (ex.trans ex2) s2 (RelE.set (G.zt hc) ((he.mono G.zm ex.mono).mono G.zm ex2.mono) hil r2)
/-- xs[i], a list that changes, by values -/
theorem get_all (hK : X.K = L.K) : PGet X (rO L dixL) := by
  intro pins s σ H o i ov iv Q I ro ri h
  obtain ⟨d, e, z, m, S, hs, rx, ry, hz, k⟩ := h
  have fin : ∀ v, RelD L H m z v → Q v H := fun v r => k H m v (Ext.refl H m) hs r
  unfold dixL at hz
  cases q : items S d with
  | none => rw [q] at hz; cases hz
  | some xs =>
    rw [q] at hz
    cases e <;> try (cases hz; done)
    rename_i n
    obtain ⟨a, vs, rfl, hr, hq⟩ := items_sq hs rx q
    obtain ⟨v, e1, rv⟩ := atI_rel hr hz
    have hi : i = .int n := ry
    subst hi
    cases ro
    obtain ⟨tk, rfl⟩ := ri
    rcases hq with hq | hq
    · obtain ⟨its, r, pl, hz⟩ := I.list (by rw [hK]; exact hq)
      obtain ⟨j, h1, h2, h3, h4, h5⟩ := atI_get e1
      obtain ⟨w, ew, rw'⟩ := r.get h2
      have hl := r.length
      have hn := line63
      have fin2 : EP X pins σ Q w s := ⟨v, H, I, rw', fin v rv⟩
      by_cases h0 : 0 ≤ n
      · have hj : n.toNat = j := by
          rw [seqIndex_of h0 h5] at h1
          exact Option.some.inj h1
        exact wpAny_getItem_list pl.isList h0 (by omega) (by rw [hj]; simpa using ew) fin2
      · have hj : (n + (its.toArray.size : Int)).toNat = j := by
          rw [seqIndex_neg (by omega) h4] at h1
          rw [List.size_toArray, ← hl]
          exact Option.some.inj h1
        exact wpAny_getItem_list_neg pl.isList (by omega) (by rw [List.size_toArray] <;> omega) (by omega) (by rw [hj]; simpa using ew) fin2
    · obtain ⟨its, r, pl, hz⟩ := I.tuple (by rw [hK]; exact hq)
      obtain ⟨j, h1, h2, h3, h4, h5⟩ := atI_get e1
      obtain ⟨w, ew, rw'⟩ := r.get h2
      have hl := r.length
      have hn := line63
      have fin2 : EP X pins σ Q w s := ⟨v, H, I, rw', fin v rv⟩
      exact getItem_tuple (j := j) pl (by omega) (by omega) (by rw [List.size_toArray, ← hl]; exact h1) (by simpa using ew) fin2
theorem notSlice_aug {b : Expr} (h : notSlice b = true) (ov iv new : Value) : augStore b ov iv new = (do holding [new, ov, iv] (setItem ov iv new); release [new, ov, iv] []; pure .next) := by cases b <;> first | rfl | cases h
theorem notSlice_asg {o b : Expr} {p : Pos} (h : notSlice b = true) (env : PySem.Env) (v : Value) : assign (.Subscript o b p) env v = (do
      let ov ← holding [v] (eval o env)
      let iv ← holding [v, ov] (eval b env)
      standAt p
      holding [v, ov, iv] (setItem ov iv v)
      release [v, ov, iv] []) := by cases b <;> first | rfl | cases h
/-- o[i] = v, a list's or a dict's -/
def rSetA : TSet := fun o i v H Q => rSetL o i v H Q ∨ rSetD o i v H Q
theorem set_all (G : Good t L g W Z X c) : PSet X rSetA := by
  intro pins s σ H o i v ov iv u Q I ro ri rv h
  rcases h with h | h
  · exact set_list pins s σ H o i v ov iv u Q I ro ri rv h
  · exact set_dict (by have := G.un; omega) pins s σ H o i v ov iv u Q I ro ri rv h
/-- what a store to an item does -/
theorem setS_go (G : Good t L g W Z X c) {dk : Bool} {D : Ends} {σ : L2.St} {env : KF.Env} {S : Store} {H : Hp} {m : Mp} {x k z : KF.D} {xv kv zv : V} (hE : RelE L Z H m env σ) (hs : RelS L H m S) (rx : RelD L H m x xv) (rk : RelD L H m k kv) (rz : RelD L H m z zv)
    (q : ContS L W Z D H m (setS dk x k z env S)) : rSetA xv kv zv H fun H1 => D.nx σ H1 := by
  unfold setS at q
  split at q
  · rename_i n
    obtain ⟨a, rfl, ha⟩ := rx
    have hm : a ∈ m.locs := List.mem_of_getElem? ha
    split at q
    · rename_i xs q1
      split at q
      · rename_i j
        split at q
        · rename_i p q2
          have e : kv = .int j := rk
          subst e
          obtain ⟨b, b1, vs, b2, b3⟩ := hs.at_ n _ q1
          rw [ha] at b1; cases b1
          refine .inl ⟨a, vs, j, p, rfl, rfl, b2, by rw [b3.length]; exact q2, ?_⟩
          exact q _ m σ (Ext.put hs hm (hs.notTbl ha) (nf_of b2 rfl)) (hs.putL ha (b3.set p rz)) (hE.mono G.zm (Mono.put hm))
        · exact q.elim
      · exact q.elim
    · rename_i ks vs q1
      split at q
      · rename_i hk
        obtain ⟨_, hz, hk⟩ := hk
        obtain ⟨key, hk⟩ := Option.isSome_iff_exists.mp hk
        obtain ⟨b, b1, u, us, b2, ⟨kvs, rfl, b4, rfl⟩, b5⟩ := hs.at_ n _ q1
        rw [ha] at b1; cases b1
        obtain ⟨p1, p2⟩ := put_rel hk rz b4 b5
        have hl : kvs.length = ks.length := by
          have := mapO_len b4
          rw [List.length_map] at this; exact this
        refine .inr ⟨a, _, rfl, .inl ⟨kvs, key, b2, fkey_v hk rk, by rw [hl]; exact hz, rfl⟩, ?_⟩
        refine q _ m σ (Ext.put hs hm (hs.notTbl ha) (nf_of b2 rfl)) (hs.putO ha ⟨_, _, upd_same, ⟨_, rfl, p1, rfl⟩, RelDs.mono (Mono.put hm) _ _ p2⟩) (hE.mono G.zm (Mono.put hm))
      · exact q.elim
    · exact q.elim
  · exact q.elim
theorem s_augX (G : Good t L g W Z X c) {o : O2} {fa fi fe : Ev} {l r v : Expr} {p p2 : Pos} (hn : notSlice r = true) (ha : PE X l (tD L W Z fa)) (hi : PE X r (tD L W Z fi)) (he : PE X v (tD L W Z fe)) :
    PS X (.AugAssign (.Subscript l r p) o.py v p2) (tS L W Z fun env S => (fa env S).st env fun x S1 => (fi env S1).st env fun k S2 => match dixL S2 x k with
      | some old => (fe env S2).st env fun y S3 => match dopI o old y with
        | some z => setS false x k z env S3
        | none => .bad
      | none => .bad) := by
  refine (ps_augS ha hi (get_all (L := L) G.K) he (ip_one (L := L) (o := o)) (set_all G) (notSlice_aug hn)).imp fun D σ H w => ?_
  obtain ⟨env, S, m, hE, hs, k⟩ := w
  refine ⟨env, S, m, hE, hs, (Cont.st (Rl := RelD L) G.zm hE k).imp fun xv H1 ⟨m1, x, S1, _, hE1, hs1, rx, k1⟩ => ?_⟩
  refine ⟨env, S1, m1, hE1, hs1, (Cont.st (Rl := RelD L) G.zm hE1 k1).imp fun iv H2 ⟨m2, i, S2, e2, hE2, hs2, ri, k2⟩ => ?_⟩
  have rx2 := rx.mono e2.mono
  cases q : dixL S2 x i with
  | none => rw [q] at k2; exact k2.elim
  | some old =>
    rw [q] at k2
    refine ⟨x, i, old, m2, S2, hs2, rx2, ri, q, fun H3 m3 ov e3 hs3 ro => ?_⟩
    refine ⟨env, S2, m3, hE2.mono G.zm e3.mono, hs3, (Cont.st (Rl := RelD L) G.zm (hE2.mono G.zm e3.mono) (ContS.ext e3 k2)).imp fun yv H4 ⟨m4, y, S4, e4, hE4, hs4, ry, k4⟩ => ?_⟩
    cases q2 : dopI o old y with
    | none => rw [q2] at k4; exact k4.elim
    | some z =>
      rw [q2] at k4
      refine ⟨old, y, z, m4, S4, hs4, ro.mono e4.mono, ry, q2, fun H5 m5 zv e5 hs5 rz => ?_⟩
      have mm := fun {d v} (h : RelD L H2 m2 d v) => ((h.mono e3.mono).mono e4.mono).mono e5.mono
      exact setS_go G (hE4.mono G.zm e5.mono) hs5 (mm rx2) (mm ri) rz (ContS.ext e5 k4)
theorem s_stX (G : Good t L g W Z X c) {fa fi fe : Ev} {l r v : Expr} {p p2 : Pos} (hn : notSlice r = true) (ha : PE X l (tD L W Z fa)) (hi : PE X r (tD L W Z fi)) (he : PE X v (tD L W Z fe)) :
    PS X (.Assign [.Subscript l r p] v p2) (tS L W Z fun env S => (fe env S).st env fun z S1 => (fa env S1).st env fun x S2 => (fi env S2).st env fun k S3 => setS true x k z env S3) := by
  refine (ps_asg he (pg_sub ha hi (set_all G) (notSlice_asg hn X.env)) (by cases v <;> rfl) (by cases v <;> rfl) rfl).imp fun D σ H w => ?_
  obtain ⟨env, S, m, hE, hs, k⟩ := w
  refine ⟨env, S, m, hE, hs, (Cont.st (Rl := RelD L) G.zm hE k).imp fun zv H1 ⟨m1, z, S1, _, hE1, hs1, rz, k1⟩ => ?_⟩
  refine ⟨env, S1, m1, hE1, hs1, (Cont.st (Rl := RelD L) G.zm hE1 k1).imp fun xv H2 ⟨m2, x, S2, e2, hE2, hs2, rx, k2⟩ => ?_⟩
  refine ⟨env, S2, m2, hE2, hs2, (Cont.st (Rl := RelD L) G.zm hE2 k2).imp fun iv H3 ⟨m3, i, S3, e3, hE3, hs3, ri, k3⟩ => ?_⟩
  exact setS_go G hE3 hs3 (rx.mono e3.mono) ri ((rz.mono e2.mono).mono e3.mono) k3
/-! ### for -/
theorem s_for (G : Good t L g W Z X c) (hc : c.suite = none) {tg : Tg} {fi : KF.Env → Store → R (List KF.D)} {fb : KF.Env → Store → RS} {q iter : Expr} {body : List Stmt} {p : Pos} (hn : notSet iter = true) (ht : chkT c tg q = true) (hi : PI X q iter (tI L W Z fi)) (hb : PSs X body (tS L W Z fb)) :
    PS X (.For q iter body [] p) (tS L W Z fun env S => (fi env S).st env fun xs S1 => forL (fun x env S => match asg tg x env with
      | some env' => fb env' S
      | none => .bad) xs env S1) := by
  have hg := g_ok G (G.calm hc) tg _ ht
  rw [G.K] at hg
  refine (ps_for G.po (G.calm hc) hi hg hb (notSet_fold hn _)).imp fun D σ H w => ?_
  refine (tS.st (Rl := RlI L) G.zm (f := fun env xs S1 => forL (fun x env S => match asg tg x env with
      | some env' => fb env' S
      | none => .bad) xs env S1) w).imp fun pJ H1 ⟨env, m1, xs, S1, hE, hs, hR, k⟩ => ?_
  obtain ⟨J, vs, std⟩ := pJ
  obtain ⟨hr, wj, st0, stm⟩ := hR
  have hr : RelDs L H1 m1 xs vs := hr
  have hlen : vs.length = xs.length := hr.length
  let F : KF.D → KF.Env → Store → RS := fun x env S => match asg tg x env with
      | some env' => fb env' S
      | none => .bad
  let Inv' : Nat → L2.St → Hp → Prop := fun i σ' H' => ∃ env' S' m', RelE L Z H' m' env' σ' ∧ RelS L H' m' S' ∧ Ext H1 m1 H' m' ∧ ContS L W Z D H1 m1 (forL F (xs.drop i) env' S')
  refine ⟨fun i n σ' H' => n = vs.length - i ∧ i ≤ vs.length ∧ Inv' i σ' H', ⟨vs.length, by simp, Nat.zero_le _, env, S1, m1, hE, hs, Ext.refl _ _, k⟩, ?_⟩
  rintro i n σ' H' ⟨rfl, hil0, env', S', m', hE', hs', hx, hk⟩
  have hil : i ≤ vs.length := hil0
  have hstd : std H' := stm _ _ hx.mono hx.frz
  by_cases hlt : i < vs.length
  · refine .inr ⟨wj.go i H' hstd hlt, Inv' (i + 1), fun σ2 H2 h2 => ⟨vs.length - (i + 1), by omega, rfl, hlt, h2⟩, fun x H2 hy => ?_⟩
    obtain ⟨rfl, hxi⟩ := wj.yld i H' x H2 hstd hlt hy
    have hix : i < xs.length := by omega
    obtain ⟨x', hx1, rx⟩ := hr.get (List.getElem?_eq_getElem hix)
    rw [hxi] at hx1; cases hx1
    rw [List.drop_eq_getElem_cons hix] at hk
    have rx' := RelD.mono hx.mono _ _ rx
    have hk : ContS L W Z D H1 m1 (match F xs[i] env' S' with
      | .next env' S' => forL F (xs.drop (i + 1)) env' S'
      | .cont env' S' => forL F (xs.drop (i + 1)) env' S'
      | .brk env' S' => .next env' S'
      | r => r) := hk
    cases qa : asg tg xs[i] env' with
    | none =>
      have e : F xs[i] env' S' = .bad := by show (match asg tg xs[i] env' with | some env' => fb env' S' | none => .bad) = _; rw [qa]
      rw [e] at hk; exact hk.elim
    | some env2 =>
      have e : F xs[i] env' S' = fb env2 S' := by show (match asg tg xs[i] env' with | some env' => fb env' S' | none => .bad) = _; rw [qa]
      rw [e] at hk
      refine g_sem (Z := Z) (G.zt hc) tg _ _ env2 _ x _ qa hE' rx' fun σ2 hE2 _ => ?_
      refine ⟨env2, S', m', hE2, hs', ?_⟩
      cases qb : fb env2 S' with
      | bad => rw [qb] at hk; exact hk.elim
      | next env3 S3 =>
        rw [qb] at hk
        exact fun H3 m3 σ3 e3 s3 r3 => ⟨env3, S3, m3, r3, s3, hx.trans e3, hk⟩
      | cont env3 S3 =>
        rw [qb] at hk
        exact fun H3 m3 σ3 e3 s3 r3 => ⟨env3, S3, m3, r3, s3, hx.trans e3, hk⟩
      | brk env3 S3 =>
        rw [qb] at hk
        exact fun H3 m3 σ3 e3 s3 r3 => hk H3 m3 σ3 (hx.trans e3) s3 r3
      | ret d S3 =>
        rw [qb] at hk
        exact fun H3 m3 v e3 s3 r3 => hk H3 m3 v (hx.trans e3) s3 r3
      | exc k fs env3 S3 =>
        rw [qb] at hk
        exact fun H3 m3 σ3 dx ws e3 s3 r3 h1 h2 h3 h4 => hk H3 m3 σ3 dx ws (hx.trans e3) s3 r3 h1 h2 h3 h4
  · have ed : xs.drop i = [] := List.drop_eq_nil_of_le (by omega)
    rw [ed] at hk
    exact .inl ⟨wj.stop i H' hstd (show vs.length ≤ i by omega), hk H' m' σ' hx hs' hE'⟩
theorem s_raise (G : Good t L g W Z X c) (hx : ExcOk t L X) (hc : c.suite = none) {k : Nat} {x : Str} {fs : KF.Env → Store → R (List KF.D)} {e : Expr} {es : List Expr} {p p2 p3 : Pos} (hk : t.exN[k]? = some x) (hg : glB c.sc x = true) (hd : dunB x = true) (hn : (e :: es).all notStar = true) (ha : PA X (e :: es) (tDs L W Z fs)) :
    PS X (.Raise (some (.Call (.Name x p) (e :: es) [] p2)) none p3) (tS L W Z fun env S => (fs env S).st env fun ds S1 => if ds.length = (L.ef k).length then .exc k ds env S1 else .bad) := by
  unfold dunB at hd
  simp only [Bool.and_eq_true, Bool.not_eq_true'] at hd
  refine (ps_raise (G.calm hc) G.tk (hx k x hk e es p p2 _ (gl_of G hg) hd.1 hn ha)).imp fun D σ H w => ?_
  refine (tS.st (Rl := RelDs L) G.zm (f := fun env ds S1 => if ds.length = (L.ef k).length then .exc k ds env S1 else .bad) w).imp fun vs H1 ⟨env, m1, ds, S1, hE, hs, r, q⟩ => ?_
  by_cases hl : ds.length = (L.ef k).length
  · rw [if_pos hl] at q
    refine ⟨by rw [r.length]; exact hl, fun d hd => ?_⟩
    exact q _ m1 σ d vs (Ext.new hd) (hs.new hd) (hE.mono G.zm (Mono.new hd)) (RelDs.mono (Mono.new hd) _ _ r) upd_same (hs.fresh hd) (hs.nopr hd)
  · rw [if_neg hl] at q
    exact q.elim
end
end KF

set_option Elab.async false
set_option linter.all false
set_option maxRecDepth 100000
set_option maxHeartbeats 4000000
/-! V11b: fields stored, while, for over what is locked -/
namespace KF
open PySem PySem.Spec PyProof.Rows L2 LamX
theorem sub_len {α : Type} [DecidableEq α] : ∀ {l m : List α}, l.Nodup → (∀ x ∈ l, x ∈ m) → l.length ≤ m.length
  | [], m, _, _ => Nat.zero_le _
  | x :: l, m, nd, h => by
    have hx : x ∈ m := h x List.mem_cons_self
    have nd' := List.nodup_cons.mp nd
    have := sub_len (m := m.erase x) nd'.2 fun y hy => (List.mem_erase_of_ne (fun z => nd'.1 (by rw [← z]; exact hy))).mpr (h y (List.mem_cons_of_mem _ hy))
    rw [List.length_erase_of_mem hx] at this
    have hp : 0 < m.length := List.length_pos_of_mem hx
    rw [List.length_cons]
    omega
theorem lookup_mem {β : Type} {f : Str} : ∀ {as : List (Str × β)}, f ∈ as.map (·.1) → as.lookup f ≠ none
  | [], h => by cases h
  | (k, v) :: r, h => by
    rw [List.lookup_cons]
    by_cases e : f = k
    · subst e; simp
    · have hb : (f == k) = false := beq_eq_false_iff_ne.mpr e
      rw [hb]
      exact lookup_mem (by
        rw [List.map_cons] at h
        rcases List.mem_cons.mp h with z | z
        · exact absurd z e
        · exact z)
theorem putF_keys {f : Str} {v : V} : ∀ {as : List (Str × V)}, (putF f v as).map (·.1) = if f ∈ as.map (·.1) then as.map (·.1) else as.map (·.1) ++ [f]
  | [] => rfl
  | (k, w) :: r => by
    unfold putF
    by_cases e : k = f
    · subst e
      rw [if_pos rfl, if_pos (by simp)]
      rfl
    · rw [if_neg e, List.map_cons, putF_keys (as := r), List.map_cons]
      by_cases hm : f ∈ r.map (·.1)
      · rw [if_pos hm, if_pos (List.mem_cons_of_mem _ hm)]
      · rw [if_neg hm, if_neg (fun z => by
          rcases List.mem_cons.mp z with z | z
          · exact e z.symm
          · exact hm z)]
        rfl
theorem putF_nodup {f : Str} {v : V} {as : List (Str × V)} (h : (as.map (·.1)).Nodup) : ((putF f v as).map (·.1)).Nodup := by
  rw [putF_keys]
  split
  · exact h
  · rename_i hm
    exact List.nodup_append.mpr ⟨h, by simp, fun a ha b hb z => hm (by rw [← List.mem_singleton.mp hb, ← z]; exact ha)⟩
section
variable {t : Tb} {L : Lk} {g : Cfg} {W : WX} {Z : ZP} {X : Cx} {c : Cc}
theorem RelF.set {H : Hp} {m : Mp} {d : KF.D} {v : V} (r : RelD L H m d v) : ∀ {fs : List (Option KF.D)} {us : List (Option V)} (i : Nat), RelF L H m fs us → RelF L H m (fs.set i (some d)) (us.set i (some v))
  | [], us, i, h => by
    rw [show us = [] from h]
    exact rfl
  | none :: r', us, 0, h => by
    obtain ⟨s, rfl, h2⟩ := h
    exact ⟨v, s, rfl, r, h2⟩
  | some e :: r', us, 0, h => by
    obtain ⟨w, s, rfl, h2, h3⟩ := h
    exact ⟨v, s, rfl, r, h3⟩
  | none :: r', us, i + 1, h => by
    obtain ⟨s, rfl, h2⟩ := h
    exact ⟨_, rfl, RelF.set r i h2⟩
  | some e :: r', us, i + 1, h => by
    obtain ⟨w, s, rfl, h2, h3⟩ := h
    exact ⟨w, _, rfl, h2, RelF.set r i h3⟩
theorem RelF.length {H : Hp} {m : Mp} : ∀ {fs : List (Option KF.D)} {us : List (Option V)}, RelF L H m fs us → us.length = fs.length
  | [], us, h => by rw [show us = [] from h]; rfl
  | none :: r', us, h => by
    obtain ⟨s, rfl, h2⟩ := h
    rw [List.length_cons, List.length_cons, RelF.length h2]
  | some e :: r', us, h => by
    obtain ⟨w, s, rfl, h2, h3⟩ := h
    rw [List.length_cons, List.length_cons, RelF.length h3]
/-- a field is stored -/
theorem insH_put {H : Hp} {k i : Nat} {a : Addr} {dx : Option Addr} {as : List (Str × V)} {us : List (Option V)} {f : Str} {v : V} (nd : (L.cf k).Nodup) (hi : (L.cf k)[i]? = some f) (h2 : us.length = (L.cf k).length) (h3 : ∀ (i : Nat) (f : Str), (L.cf k)[i]? = some f → as.lookup f = (us[i]?).join)
    (h4 : ∀ f, f ∉ L.cf k → as.lookup f = none) (h5 : (as.map (·.1)).Nodup) : ∀ dx, InsH L (upd H a (.ins (L.ca k) dx (putF f v as))) k a (us.set i (some v)) := by
  intro dx
  refine ⟨dx, _, upd_same, by rw [List.length_set]; exact h2, fun j g hj => ?_, fun g hg => ?_, putF_nodup h5⟩
  · rw [lookup_putF]
    by_cases e : g = f
    · subst e
      have hij : i = j := (List.getElem?_inj (List.getElem?_eq_some_iff.mp hi).1 nd).mp (by rw [hi, hj])
      subst hij
      rw [if_pos rfl, List.getElem?_set_self (by rw [h2]; exact (List.getElem?_eq_some_iff.mp hi).1)]
      rfl
    · have hij : i ≠ j := fun z => by
        subst z
        rw [hi] at hj
        exact e (Option.some.inj hj).symm
      rw [if_neg e, List.getElem?_set_ne hij]
      exact h3 j g hj
  · rw [lookup_putF, if_neg (fun z => hg (by rw [z]; exact List.mem_of_getElem? hi))]
    exact h4 g hg
theorem field_cls {S : Store} {x z : KF.D} {f : Str} (h : fieldOf g S x f = some z) : ∃ k, clsOf S x = some k := by
  unfold fieldOf at h
  split at h
  · rename_i k fs q
    refine ⟨k, ?_⟩
    cases x with
    | ins _ _ => cases q; rfl
    | loc n =>
      unfold fldsOf at q
      unfold clsOf
      dsimp only at q ⊢
      split at q
      · rename_i q2
        cases q
        rfl
      · cases q
    | _ => cases q
  · cases h
/-- what a store to a field does -/
theorem setF_go (G : Good t L g W Z X c) {D : Ends} {σ : L2.St} {env : KF.Env} {S : Store} {H : Hp} {m : Mp} {x z : KF.D} {f : Str} {xv zv : V} (hE : RelE L Z H m env σ) (hs : RelS L H m S) (rx : RelD L H m x xv) (rz : RelD L H m z zv)
    (q : ContS L W Z D H m (setF g x f z env S)) : ∃ a k dx fs, xv = .ref a ∧ H a = some (.ins (L.ca k) dx fs) ∧ Cls X.K (L.ca k) ∧ NoAttr X.K (L.ca k) f ∧ fs.length < 1000 ∧ D.nx σ (upd H a (.ins (L.ca k) dx (putF f zv fs))) ∧ clsOf S x = some k := by
  unfold setF at q
  split at q
  · rename_i n
    obtain ⟨a, rfl, ha⟩ := rx
    have hm : a ∈ m.locs := List.mem_of_getElem? ha
    split at q
    · rename_i k fs q1
      split at q
      · rename_i p q2
        obtain ⟨b, b1, us, ⟨dx, as, b2, b3, b4, b5, b6⟩, b7⟩ := hs.at_ n _ q1
        rw [ha] at b1; cases b1
        rw [G.cf] at q2
        obtain ⟨_, g2⟩ := placeOf_get q2
        rw [Nat.sub_zero] at g2
        have hf : f ∈ L.cf k := List.mem_of_getElem? g2
        have hk := cls_lt G hf
        have C := (G.cls k _ (List.getElem?_eq_getElem hk)).2
        have hlen : as.length ≤ (L.cf k).length := by
          have := sub_len b6 (m := L.cf k) fun y hy => by
            by_cases e : y ∈ L.cf k
            · exact e
            · exact absurd (b5 y e) (lookup_mem hy)
          rw [List.length_map] at this
          exact this
        have := C.sz
        refine ⟨a, k, dx, as, rfl, b2, C.cls, C.no f hf, by omega, ?_, by unfold clsOf; dsimp only; rw [q1]⟩
        refine q _ m σ (Ext.put hs hm (hs.notTbl ha) (nf_of b2 rfl)) (hs.putO ha ⟨_, insH_put (dx := dx) C.nd g2 b3 b4 b5 b6 dx, RelF.mono (Mono.put hm) (RelF.set rz p b7)⟩) (hE.mono G.zm (Mono.put hm))
      · exact q.elim
    · exact q.elim
  · exact q.elim
theorem s_stA (G : Good t L g W Z X c) {fa fe : Ev} {o v : Expr} {f : Str} {p p2 : Pos} (ha : PE X o (tD L W Z fa)) (he : PE X v (tD L W Z fe)) :
    PS X (.Assign [.Attribute o f p] v p2) (tS L W Z fun env S => (fe env S).st env fun z S1 => (fa env S1).st env fun x S2 => setF g x f z env S2) := by
  refine (ps_fld ha he (by cases v <;> rfl)).imp fun D σ H w => ?_
  obtain ⟨env, S, m, hE, hs, k⟩ := w
  refine ⟨env, S, m, hE, hs, (Cont.st (Rl := RelD L) G.zm hE k).imp fun zv H1 ⟨m1, z, S1, _, hE1, hs1, rz, k1⟩ => ?_⟩
  refine ⟨env, S1, m1, hE1, hs1, (Cont.st (Rl := RelD L) G.zm hE1 k1).imp fun xv H2 ⟨m2, x, S2, e2, hE2, hs2, rx, k2⟩ => ?_⟩
  obtain ⟨a, k, dx, fs, g1, g2, g3, g4, g5, g6, _⟩ := setF_go G hE2 hs2 rx (rz.mono e2.mono) k2
  exact ⟨a, _, dx, fs, g1, g2, g3, g4, g5, g6⟩
theorem s_augA (G : Good t L g W Z X c) {op : O2} {fa fe : Ev} {o v : Expr} {f : Str} {p p2 : Pos} (ha : PE X o (tD L W Z fa)) (he : PE X v (tD L W Z fe)) :
    PS X (.AugAssign (.Attribute o f p) op.py v p2) (tS L W Z fun env S => (fa env S).st env fun x S1 => match fieldOf g S1 x f with
      | some old => (fe env S1).st env fun y S2 => match dopI op old y with
        | some z => if clsOf S1 x = clsOf S2 x then setF g x f z env S2 else .bad
        | none => .bad
      | none => .bad) := by
  refine (ps_fldaug ha he (ip_one (L := L) (o := op))).imp fun D σ H w => ?_
  obtain ⟨env, S, m, hE, hs, k⟩ := w
  refine ⟨env, S, m, hE, hs, (Cont.st (Rl := RelD L) G.zm hE k).imp fun xv H1 ⟨m1, x, S1, _, hE1, hs1, rx, k1⟩ => ?_⟩
  split at k1
  · rename_i old q
    obtain ⟨a, kk, dx, as, w, rfl, hk, hm, h1, h2, h3⟩ := field_rd G hs1 rx q
    obtain ⟨kx, hkx⟩ := field_cls q
    obtain ⟨a', us', e', dx', as', i1, _⟩ := ins_rd hs1 rx hkx
    cases e'
    have hcc : L.ca kk = L.ca kx := by
      rw [h1] at i1
      injection i1 with i2
      injection i2
    have C := (G.cls kk _ (List.getElem?_eq_getElem hk)).2
    refine ⟨a, _, dx, as, w, rfl, h1, C.cls, C.no f hm, h2, env, S1, m1, hE1, hs1, (Cont.st (Rl := RelD L) G.zm hE1 k1).imp fun yv H2 ⟨m2, y, S2, e2, hE2, hs2, ry, k2⟩ => ?_⟩
    split at k2
    · rename_i z q2
      refine ⟨old, y, z, m2, S2, hs2, h3.mono e2.mono, ry, q2, fun H3 m3 zv e3 hs3 rz => ?_⟩
      have k3 := ContS.ext e3 k2
      split at k3
      · rename_i hcl
        obtain ⟨a', k', dx', fs', e1, g1, g2, g3, g4, g5, g6⟩ := setF_go G (hE2.mono G.zm e3.mono) hs3 ((rx.mono e2.mono).mono e3.mono) rz k3
        cases e1
        rw [hkx, g6] at hcl
        cases hcl
        rw [hcc]
        exact ⟨dx', fs', g1, g4, g5⟩
      · exact k3.elim
    · exact k2.elim
  · exact k1.elim
/-! ### while -/
theorem s_whl (G : Good t L g W Z X c) {ft : KF.Env → Store → R Bool} {fb : KF.Env → Store → RS} {q : Expr} {body : List Stmt} {p : Pos} (hq : PT X q (tBb L W Z ft)) (hb : PSs X body (tS L W Z fb)) (n : Nat) :
    PS X (.While q body [] p) (tS L W Z fun env S => whlL ft fb n env S) := by
  refine (ps_while G.po hq hb).imp fun D σ H w => ?_
  obtain ⟨env, S, m, hE, hs, k⟩ := w
  refine ⟨fun i σ' H' => ∃ env' S' m', RelE L Z H' m' env' σ' ∧ RelS L H' m' S' ∧ ContS L W Z D H' m' (whlL ft fb i env' S'), ⟨n, env, S, m, hE, hs, k⟩, ?_⟩
  rintro i σ' H' ⟨env', S', m', hE', hs', k'⟩
  cases i with
  | zero => exact k'.elim
  | succ i =>
    have k' : ContS L W Z D H' m' ((ft env' S').st env' fun b S1 => if b = true then match fb env' S1 with
        | .next env' S' => whlL ft fb i env' S'
        | .cont env' S' => whlL ft fb i env' S'
        | .brk env' S' => .next env' S'
        | r => r
      else .next env' S1) := k'
    refine ⟨env', S', m', hE', hs', (Cont.st (Rl := fun _ _ (d : Bool) b => d = b) G.zm hE' k').imp fun b H1 ⟨m1, d, S1, e1, hE1, hs1, r, k1⟩ => ?_⟩
    have r : d = b := r
    subst r
    cases d with
    | false => 
      have k1 : ContS L W Z D H1 m1 (.next env' S1) := k1
      rw [if_neg Bool.false_ne_true]
      exact k1 H1 m1 σ' (Ext.refl _ _) hs1 hE1
    | true =>
      rw [if_pos rfl]
      have k1 : ContS L W Z D H1 m1 (match fb env' S1 with
        | .next env' S' => whlL ft fb i env' S'
        | .cont env' S' => whlL ft fb i env' S'
        | .brk env' S' => .next env' S'
        | r => r) := k1
      refine ⟨fun σ2 H2 => ∃ env2 S2 m2, RelE L Z H2 m2 env2 σ2 ∧ RelS L H2 m2 S2 ∧ ContS L W Z D H2 m2 (whlL ft fb i env2 S2), fun σ2 H2 h2 => ⟨i, Nat.lt_succ_self _, h2⟩, env', S1, m1, hE1, hs1, ?_⟩
      cases q : fb env' S1 with
      | bad => rw [q] at k1; exact k1.elim
      | next e3 S3 =>
        rw [q] at k1
        exact fun H3 m3 σ3 e s r => ⟨e3, S3, m3, r, s, ContS.ext e k1⟩
      | cont e3 S3 =>
        rw [q] at k1
        exact fun H3 m3 σ3 e s r => ⟨e3, S3, m3, r, s, ContS.ext e k1⟩
      | brk e3 S3 =>
        rw [q] at k1
        exact fun H3 m3 σ3 e s r => k1 H3 m3 σ3 e s r
      | ret d S3 =>
        rw [q] at k1
        exact fun H3 m3 v e s r => k1 H3 m3 v e s r
      | exc kk fs e3 S3 =>
        rw [q] at k1
        exact fun H3 m3 σ3 dx ws e s r h1 h2 h3 h4 => k1 H3 m3 σ3 dx ws e s r h1 h2 h3 h4
/-! ### for, over what is locked -/
theorem _root_.L2.PS.or' {X : Cx} {s : Stmt} {t t' : TS} (h : PS X s t) (h' : PS X s t') : PS X s (fun D σ H => t D σ H ∨ t' D σ H) := ⟨fun pins s σ H D I w => w.elim (h.run pins s σ H D I) (h'.run pins s σ H D I)⟩
theorem lock_ext {H H' : Hp} {m m' : Mp} {a : Addr} {od : Obj} {u : HO} (ha : a ∈ m.locs) (hu : H a = some u) (hn : nofrz u = true) (hp : Pl u) (ex : Ext (upd H a (.frz od u)) m H' m') : Ext H m H' m' := by
  refine ⟨fun b o h1 h2 h3 => ?_, fun b ps h => ?_, ex.pre, fun b h => ?_, ex.pr, ex.T, fun b o u' h => ?_⟩
  · have ne : b ≠ a := fun z => h2 (by rw [z]; exact ha)
    exact ex.keep b o (by rw [upd_ne ne]; exact h1) h2 h3
  · have ne : b ≠ a := fun z => by
      rw [z, hu] at h
      exact hp.1 ps (Option.some.inj h)
    exact ex.tbl b ps (by rw [upd_ne ne]; exact h)
  · rcases ex.newl b h with z | z
    · exact .inl z
    · by_cases e : b = a
      · exact .inl (by rw [e]; exact ha)
      · rw [upd_ne e] at z; exact .inr z
  · have ne : b ≠ a := fun z => by
      rw [z, hu] at h
      cases h
      cases hn
    exact ex.frz b o u' (by rw [upd_ne ne]; exact h)
theorem s_walk (G : Good t L g W Z X c) {it : It} {s : Stmt} {f : KF.Env → Store → RS} (h : PS X s (tS L W Z f)) : PS X s (tS L W Z fun env S => match lkI g it env S with
    | some n => (match lockS S n with
      | some S0 => unlR n (f env S0)
      | none => .bad)
    | none => f env S) := by
  refine (h.or' (ps_lock h)).imp fun D σ H ⟨env, S, m, he, hs, k⟩ => ?_
  have k : ContS L W Z D H m (match lkI g it env S with
    | some n => (match lockS S n with
      | some S0 => unlR n (f env S0)
      | none => .bad)
    | none => f env S) := k
  split at k
  · rename_i n hl
    split at k
    · rename_i S0 hS0
      obtain ⟨ad, u, e1, e2, e3, e4, e5, e6⟩ := lock_at hs hS0 (lkI_dic hl)
      have ham : ad ∈ m.locs := List.mem_of_getElem? e1
      refine .inr ⟨ad, u, e2, e3, fun od => ⟨env, S0, m, he.mono G.zm (Mono.put ham), e6 od, ?_⟩⟩
      have at' : ∀ {H' m'}, Ext (upd H ad (.frz od u)) m H' m' → m'.locs[n]? = some ad := fun {H' m'} ex => by
        obtain ⟨r, hr⟩ := ex.pre
        rw [← hr, List.getElem?_append_left (List.getElem?_eq_some_iff.mp e1).1]
        exact e1
      cases q : f env S0 with
      | bad => rw [q] at k; exact k.elim
      | brk _ _ => rw [q] at k; exact k.elim
      | cont _ _ => rw [q] at k; exact k.elim
      | exc kk fs e3 S3 =>
        rw [q] at k
        have k : ContS L W Z D H m (.exc kk fs e3 S3) := k
        exact fun H' m' σ' dx vs ex s r r1 r2 r3 r4 => k H' m' σ' dx vs (lock_ext ham e2 e4 e5 ex) s r r1 r2 r3 r4
      | next e3 S1 =>
        rw [q] at k
        have k : ContS L W Z D H m (match unlS S1 n with | some S' => .next e3 S' | none => .bad) := k
        intro H' m' σ' ex s1 r
        have hf := ex.frz ad od u upd_same
        refine ⟨hf, ?_⟩
        split at k
        · rename_i S' hS'
          exact k _ m' σ' (unlock_ext ham e2 e4 e5 ex) (unlock_at s1 (at' ex) hS' hf) (r.mono G.zm (Mono.put (List.mem_of_getElem? (at' ex))))
        · exact k.elim
      | ret d S1 =>
        rw [q] at k
        have k : ContS L W Z D H m (match unlS S1 n with | some S' => .ret d S' | none => .bad) := k
        intro H' m' v ex s1 r
        have hf := ex.frz ad od u upd_same
        refine ⟨hf, ?_⟩
        split at k
        · rename_i S' hS'
          exact k _ m' v (unlock_ext ham e2 e4 e5 ex) (unlock_at s1 (at' ex) hS' hf) (r.mono (Mono.put (List.mem_of_getElem? (at' ex))))
        · exact k.elim
    · exact k.elim
  · exact .inl ⟨env, S, m, he, hs, k⟩
end
end KF

set_option Elab.async false
set_option linter.all false
set_option maxRecDepth 100000
set_option maxHeartbeats 4000000
/-! V12: lambdas without parameters, made in a frame and called in it -/
namespace KF
open PySem PySem.Spec PyProof.Rows L2 LamX
/-- a lambda's object -/
def FunO (f : Addr) (q : Str) (ps : Arguments) (b : Expr) (sc : Scope) (cl : List (Str × Addr)) (c' : Addr) : HO := .ext fun h => ∃ pm ctv, h.get? f = some (PySem.W.kla_obj "<lambda>" q ps b sc cl pm c' ctv)
theorem funO_ne {f : Addr} {q : Str} {ps : Arguments} {b : Expr} {sc : Scope} {cl : List (Str × Addr)} {c' : Addr} (xs : Array Value) : FunO f q ps b sc cl c' ≠ .tbl xs := fun z => by
  unfold FunO at z
  cases z
def LamA (H : Hp) (m : Mp) (f : Addr) (q : Str) (ps : Arguments) (b : Expr) (sc : Scope) (cl : List (Str × Addr)) : Prop :=
  ∃ c', f ∉ m.locs ∧ f ∉ m.pr ∧ H f = some (FunO f q ps b sc cl c') ∧ c' ∉ m.locs ∧ c' ∉ m.pr ∧ H c' = some (CodeO c' q)
theorem LamA.mono {H H' : Hp} {m m' : Mp} {f : Addr} {q : Str} {ps : Arguments} {b : Expr} {sc : Scope} {cl : List (Str × Addr)} (e : Mono H m H' m') (h : LamA H m f q ps b sc cl) : LamA H' m' f q ps b sc cl := by
  obtain ⟨c', h1, h2, h3, h4, h5, h6⟩ := h
  obtain ⟨a1, a2⟩ := notin_mono e h1 h2 (by rw [h3]; simp)
  obtain ⟨b1, b2⟩ := notin_mono e h4 h5 (by rw [h6]; simp)
  exact ⟨c', a1, a2, e.keep _ _ h3 h1 h2 funO_ne, b1, b2, e.keep _ _ h6 h4 h5 codeO_ne⟩
/-- a def that is called one frame deeper -/
def CallOk3 (L : Lk) (g : Cfg) (X : Cx) (f : Nat) (a : Addr) : Prop := ∃ (fd : FuncData) (ps : List Str) (k n : Nat), PySem.W.keepIn X.K (.ref a) = true ∧ Binds X.K fd ps [] ∧ ps.length = n ∧ Room (k + 3) X.A ∧
    FnOk X.prog X.w X.K X.mg X.base (L2.CX X.prog X.w) k a fd ps (spC L n (g.call f)) ∧ ∀ ds S, ds.length ≠ n → g.call f ds S = .bad
/-- what a frame needs that makes lambdas and catches -/
structure LamF (t : Tb) (L : Lk) (g : Cfg) (X : Cx) : Prop where
  code : ∃ cc P, X.env.code = .ref cc ∧ TabB X.base X.mg cc P ∧ (P, X.env.qual ++ "<lambda>") ∈ L.T ∧ ∀ p ∈ L.T, p.1 = P → p.2 = X.env.qual ++ "<lambda>"
  stk : X.stack = X.env :: X.outer
  fr : X.env.frame = some X.env.locals
  room : Room 2 X.A
  call : ∀ f x n, t.fnN[f]? = some (x, n) → ∃ (a : Addr), X.mg x = some (.ref a) ∧ CallOk3 L g X f a
  mth : ∀ k m f, g.mth k m = some f → ∃ a, Meth X.K (L.ca k) m a ∧ CallOk3 L g X f a
section
variable {X : Cx} {pins : List (Addr × Obj)} {σ : L2.St} {H H0 : Hp} {s s0 : Shared}
/-- what is told of an object that stands already, new since s0 -/
theorem inv_adopt {pins0 : List (Addr × Obj)} {σ0 : L2.St} {f : Addr} {o : Obj} {φ : Heap → Prop} (I0 : Inv X pins σ H0 s0) (I : Inv X pins σ H s) (hf : s0.heap.objs.size ≤ f) (ho : s.heap.get? f = some o) (hn : H f = none) (hφ : φ s.heap)
    (st : ∀ h h', φ h → (∀ u, h.get? f = some u → h'.get? f = some u) → φ h') : Inv X pins σ (upd H f (.ext φ)) s := by
  have ne : ∀ b u, s0.heap.get? b = some u → b ≠ f := fun b u e z => by
    rw [z] at e
    exact Nat.lt_irrefl _ (Nat.lt_of_lt_of_le (Heap.lt_size e) hf)
  have lt : X.s_0.heap.objs.size ≤ f := Nat.le_trans (Nat.le_trans I0.ok.above (Nat.le_of_lt I0.lt)) hf
  refine I.step (h' := s.heap) (g' := s.gens) (d' := s.drawn) (t' := s.toks) (ch := [f]) (fun b hb => ?_) (fun b o _ _ _ e n => e) (fun b o _ _ _ e n => ⟨o.slots, e⟩) (fun b o hb e n => ?_) (fun b o _ e => ⟨o, e⟩)
    (fun b xs e => by rw [upd_ne (ne_of_none e hn)]; exact e) (fun b o u e => by rw [upd_ne (ne_of_none e hn)]; exact e) (fun b ps e => ⟨#[], by rw [upd_ne (ne_of_none e hn), e]; simp⟩) (fun m h => h) (fun b u e => ?_) I.bare
  · have e : b = f := List.mem_singleton.mp hb
    subst e
    refine ⟨.inr lt, fun z => ?_, fun x c e z => ?_, fun p hp z => ?_⟩
    · have h1 := I0.lt
      rw [← z] at h1
      exact Nat.lt_irrefl _ (Nat.lt_of_lt_of_le h1 hf)
    · obtain ⟨v, u, hu, _⟩ := I0.cell x c e
      exact ne c u hu z
    · exact ne _ _ (I0.pin p hp).1 z
  · have e2 : b ≠ f := fun z => hb (by rw [z]; exact List.mem_singleton.mpr rfl)
    rw [upd_ne e2]; exact n
  · by_cases hb : b = f
    · rw [hb, upd_same] at e
      cases e
      rw [hb]
      exact ⟨hφ, ⟨o, ho⟩, st⟩
    · rw [upd_ne hb] at e
      exact (I.hok b u e).stay (fun d v _ q => q) (fun d q => by rw [upd_ne (ne_of_none q hn)]; exact q) fun d xs q => by rw [upd_ne (ne_of_none q hn)]; exact q
/-- a lambda is made -/
theorem lam_mk {m : Mp} {S : Store} {L : Lk} {c P : Addr} {params : Arguments} {body : Expr} {scope : Scope} {pos : Pos} {E : Value → Shared → Prop} {Q : Value → Shared → Prop} (I : Inv X pins σ H s) (R : RelS L H m S) (TB : TabB X.base X.mg c P) (hcode : X.env.code = .ref c)
    (hm : (P, X.env.qual ++ "<lambda>") ∈ m.T) (hu : ∀ p ∈ m.T, p.1 = P → p.2 = X.env.qual ++ "<lambda>") (hdef : defaultsOf params X.env = ([], [])) (hfree : ∀ y ∈ scope.names, y.2 = .free → ∃ c, X.env.cells.lookup y.1 = some c)
    (h : ∀ (f : Addr) (H1 : Hp) (s' : Shared), Inv X pins σ H1 s' → Ext H m H1 m → RelS L H1 m S → LamA H1 m f (X.env.qual ++ "<lambda>") params body scope (cloFrom X.env.cells scope.names []) → Q (.ref f) s') :
    wpAny (model X.prog X.w) X.A (eval (.Lambda params body scope pos) X.env) Q E s := by
  obtain ⟨ps, hP, ht, ha⟩ := R.tabs _ hm
  refine PySem.W.kla_eval hdef ?_
  have bP : s.heap.BuiltinsAt X.mg P := TB.bm.keeps I.bk
  have hP' : s.heap.get? P = some { cls := .none, data := .fields ps } := I.hok P _ hP
  have nofr : ∀ f, s.heap.objs.size ≤ f → f ∉ frs X.stack := fun f hf z => by
    rcases List.mem_cons.mp (I.stkSub _ z) with e | e
    · have h1 := I.lt
      rw [← e] at h1
      exact Nat.lt_irrefl _ (Nat.lt_of_lt_of_le h1 hf)
    · exact I.nofs hf e
  have PnL : P ∉ m.locs := fun z => by
    obtain ⟨n, hn⟩ := List.mem_iff_getElem?.mp z
    exact R.notTbl hn _ hP
  have stF : ∀ (f c' : Addr) (h h' : Heap), (∃ pm ctv, h.get? f = some (PySem.W.kla_obj "<lambda>" (X.env.qual ++ "<lambda>") params body scope (cloFrom X.env.cells scope.names []) pm c' ctv)) → (∀ u, h.get? f = some u → h'.get? f = some u) →
      ∃ pm ctv, h'.get? f = some (PySem.W.kla_obj "<lambda>" (X.env.qual ++ "<lambda>") params body scope (cloFrom X.env.cells scope.names []) pm c' ctv) := fun f c' h h' ⟨pm, ctv, e⟩ k => ⟨pm, ctv, k _ e⟩
  -- the object is told of
  have fin : ∀ (f c' : Addr) (pm ctv : Value) (H1 : Hp) (s' : Shared), Inv X pins σ H1 s' → Ext H m H1 m → RelS L H1 m S → s.heap.objs.size ≤ f →
      s'.heap.get? f = some (PySem.W.kla_obj "<lambda>" (X.env.qual ++ "<lambda>") params body scope (cloFrom X.env.cells scope.names []) pm c' ctv) → H1 f = none → c' ∉ m.locs → c' ∉ m.pr → H1 c' = some (CodeO c' (X.env.qual ++ "<lambda>")) → Q (.ref f) s' := by
    intro f c' pm ctv H1 s' I1 ex R1 hsz ho hn k1 k2 k3
    refine h f _ s' (inv_adopt (pins0 := pins) (σ0 := σ) I I1 hsz ho hn (φ := fun h => ∃ pm ctv, h.get? f = some (PySem.W.kla_obj "<lambda>" (X.env.qual ++ "<lambda>") params body scope (cloFrom X.env.cells scope.names []) pm c' ctv)) ⟨pm, ctv, ho⟩ (stF f c')) (ex.trans (Ext.new hn)) (R1.new hn) ?_
    exact ⟨c', R1.fresh hn, R1.nopr hn, upd_same, k1, k2, by rw [upd_ne (ne_of_none k3 hn)]; exact k3⟩
  cases hc : codeAmong pos ps.toList with
  | none =>
    refine PySem.W.kla_makeFunction (mg := X.mg) (c := c) (P := P) (ps := ps) (closure_ok hfree) I.ok.glob (I.mod.glob.keeps I.bk) hcode (TB.code.keeps I.bk) hP' ht hc TB.gP bP fun c' ctv h' tk hx hge hlt hrec htb => ?_
    obtain ⟨c2, oc, vs, t, e2, hoc, hd, hv⟩ := hrec
    cases e2
    have hsz : s.heap.objs.size ≤ h'.objs.size := Nat.le_trans hge (Nat.le_of_lt hlt)
    have nC : H c' = none := I.hok.fresh hge
    have I1 := inv_table (t' := tk) (more := #[rawInt pos.line, rawInt pos.col, .ref c']) (h' := h'.push (PySem.W.kla_obj "<lambda>" (X.env.qual ++ "<lambda>") params body scope (cloFrom X.env.cells scope.names []) ((X.mg "__name__").getD .none) c' ctv)) I hP
      (fun b o hb e => Heap.get?_push_of_some _ (hx b o hb e)) (Heap.get?_push_of_some _ htb) hge ⟨oc, vs, t, Heap.get?_push_of_some _ hoc, hd, hv⟩
    have eL : (ps ++ #[rawInt pos.line, rawInt pos.col, .ref c']).toList = ps.toList ++ [rawInt pos.line, rawInt pos.col, .ref c'] := by simp
    have nPc : P ≠ c' := ne_of_none hP nC
    -- the table's object, then the code object
    have ex1 : Ext H m (upd H P (.tbl (ps ++ #[rawInt pos.line, rawInt pos.col, .ref c']))) m :=
      ⟨fun a o q _ n => by rw [upd_ne (fun z => n ps (Option.some.inj (q.symm.trans (by rw [z]; exact hP))))]; exact q, fun a qs q => by
        by_cases z : a = P
        · exact ⟨_, by rw [z, upd_same]⟩
        · exact ⟨qs, by rw [upd_ne z]; exact q⟩, List.prefix_refl _, fun _ q => .inl q, rfl, rfl, fun a o u q => by rw [upd_ne (fun z => by rw [z, hP] at q; cases q)]; exact q⟩
    have nC1 : upd H P (.tbl (ps ++ #[rawInt pos.line, rawInt pos.col, .ref c'])) c' = none := by rw [upd_ne nPc.symm]; exact nC
    have ex2 : Ext H m (upd (upd H P (.tbl (ps ++ #[rawInt pos.line, rawInt pos.col, .ref c']))) c' (CodeO c' (X.env.qual ++ "<lambda>"))) m := ex1.trans (Ext.new nC1)
    have keepN : ∀ b o, H b = some o → (∀ ps, o ≠ .tbl ps) → upd (upd H P (.tbl (ps ++ #[rawInt pos.line, rawInt pos.col, .ref c']))) c' (CodeO c' (X.env.qual ++ "<lambda>")) b = some o := fun b o e n => by
      rw [upd_ne (ne_of_none e nC), upd_ne (fun z => n ps (Option.some.inj (e.symm.trans (by rw [z]; exact hP))))]
      exact e
    have R2 : RelS L (upd (upd H P (.tbl (ps ++ #[rawInt pos.line, rawInt pos.col, .ref c']))) c' (CodeO c' (X.env.qual ++ "<lambda>"))) m S := by
      refine ⟨R.len, R.nd, R.dis, fun a ha' => ?_, fun p hp => ?_, fun n o e => ?_⟩
      · obtain ⟨o, e, po⟩ := R.prs a ha'
        exact ⟨o, keepN a o e po.1, po⟩
      · by_cases hb : p.1 = P
        · rw [hu p hp hb, hb]
          refine ⟨_, by rw [upd_ne nPc, upd_same], by rw [eL]; exact PySem.TriplesOk_snoc _ _ _ _ ht, fun p' cv hcv => ?_⟩
          rw [eL] at hcv
          rcases among_app _ ht hcv with z | z
          · obtain ⟨c0, e1, e2⟩ := ha p' cv z
            exact ⟨c0, e1, keepN _ _ e2 codeO_ne⟩
          · exact ⟨c', z, upd_same⟩
        · obtain ⟨ps', a1, a2, a3⟩ := R.tabs p hp
          refine ⟨ps', by rw [upd_ne (ne_of_none a1 nC), upd_ne hb]; exact a1, a2, fun p' cv hcv => ?_⟩
          obtain ⟨c0, e1, e2⟩ := a3 p' cv hcv
          exact ⟨c0, e1, keepN _ _ e2 codeO_ne⟩
      · obtain ⟨a, e1, e2⟩ := R.at_ n o e
        refine ⟨a, e1, e2.monoU ex2.mono ?_⟩
        have ne0 : H a ≠ none := by
          obtain ⟨u, q⟩ := R.some (List.mem_of_getElem? e1)
          rw [q]; simp
        rw [upd_ne (fun z => ne0 (by rw [z]; exact nC)), upd_ne (fun z => PnL (by rw [← z]; exact List.mem_of_getElem? e1))]
    refine fin h'.objs.size c' ((X.mg "__name__").getD .none) ctv _ _ I1 ex2 R2 hsz (Heap.get?_push_size _ rfl) ?_ (R.fresh nC) (R.nopr nC) upd_same
    have n1 : h'.objs.size ≠ c' := Nat.ne_of_gt hlt
    have n2 : h'.objs.size ≠ P := Nat.ne_of_gt (Nat.lt_of_lt_of_le (Heap.lt_size hP') hsz)
    rw [upd_ne n1, upd_ne n2]
    exact I.hok.fresh hsz
  | some cv =>
    obtain ⟨c', e, hco⟩ := ha pos cv hc
    subst e
    refine PySem.W.kla_makeFunctionHit (mg := X.mg) (c := c) (P := P) (ps := ps) (closure_ok hfree) I.ok.glob (I.mod.glob.keeps I.bk) hcode (TB.code.keeps I.bk) hP' ht hc bP fun ctv h' tk hx hsz => ?_
    have I1 : Inv X pins σ H { s with heap := h'.push (PySem.W.kla_obj "<lambda>" (X.env.qual ++ "<lambda>") params body scope (cloFrom X.env.cells scope.names []) ((X.mg "__name__").getD .none) c' ctv), toks := tk } := I.kept fun b o e => Heap.get?_push_of_some _ (hx b o e)
    have hcl : c' ∉ m.locs := fun z => by
      obtain ⟨o, e, po⟩ := R.locAt z
      rw [hco] at e
      exact po.2 _ (Option.some.inj e).symm
    have hcp : c' ∉ m.pr := fun z => by
      obtain ⟨o, e, po⟩ := R.prs c' z
      rw [hco] at e
      exact po.2 _ (Option.some.inj e).symm
    exact fin h'.objs.size c' ((X.mg "__name__").getD .none) ctv H _ I1 (Ext.refl _ _) R hsz (Heap.get?_push_size _ rfl) (I.hok.fresh hsz) hcl hcp hco
end
section
variable {t : Tb} {L : Lk} {g : Cfg} {W : WX} {Z : ZP} {X : Cx} {c : Cc}
def lamCc (c : Cc) (sc : Scope) : Cc := ⟨c.N, sc, some sc, none⟩
/-- the frame of a lambda -/
theorem Good.lam (G : Good t L g W Z X c) (LF : LamF t L g X) (hc : c.suite = none) {sc : Scope} (hs : lamSB c.sc sc = true) (s : Shared) (H : Hp) (E : XK) (f c' : Addr) :
    Good t L g (fun cls d _ H => E cls d H) Z (lamCx X X.A X.stack s H E sc f c') (lamCc c sc) where
  K := G.K
  N := G.N
  nd := G.nd
  sc := rfl
  fn := fun x (h : sc.names.lookup x = some .cell) => absurd rfl ((lamS_by hs).own _ (PySem.mem_of_lookup h)).2
  un := by
    have := (LF.room.deeper (lamEnv X sc s.heap.objs.size f c')).un
    show (X.A.deeper (lamEnv X sc s.heap.objs.size f c')).units + 140 < cLine
    omega
  free := G.free
  glob := G.glob
  tk := takes_of rfl rfl rfl rfl
  po := passes_of rfl
  ef := G.ef
  cf := G.cf
  zm := G.zm
  calm := fun _ => rfl
  zt := fun _ => G.zt hc
  call := fun _ f x n h => by
    obtain ⟨a, e1, fd, ps, k, n', e2, e3, e4, e5, e6⟩ := LF.call f x n h
    exact ⟨a, e1, fd, ps, k, n', e2, e3, e4, e5.deeper _, e6⟩
  mth := fun k m f h => by
    obtain ⟨h1, h2, _⟩ := G.mth k m f h
    obtain ⟨a, e1, fd, ps, k, n', e2, e3, e4, e5, e6⟩ := LF.mth k m f h
    exact ⟨h1, h2, a, e1, fd, ps, k, n', e2, e3, e4, e5.deeper _, e6⟩
  cls := G.cls
  nf := G.nf
  big := G.big
  suite := fun i h => by cases h
/-- it is called in the frame that made it -/
theorem e_act {Y : Cx} {pn : List (Addr × Obj)} {xe : Value → Shared → Prop} {i : Nat} {a : Str} {p1 p2 : Pos} (hY : Y = X.tr pn xe) (G : Good t L g W Z X c) (LF : LamF t L g X) (hc : c.suite = none) {W' : WX} (tk : Takes Y W') (hi : c.N[i]? = some a) (hv : visB c.sc a = true) (hd : dunB a = true) :
    PE Y (.Call (.Name a p1) [] [] p2) (fun σ H Q => ∃ (f : Addr) (env : KF.Env) (S : Store) (m : Mp) (ps : Arguments) (b : Expr) (sc : Scope) (fe : Ev), σ[i]? = some (some (.ref f)) ∧ LamA H m f (X.env.qual ++ "<lambda>") ps b sc (cloFrom X.env.cells sc.names []) ∧
      lamSB c.sc sc = true ∧ (∀ (q : Str) (cl : List (Str × Addr)) (pm cv ctv : Value), bindArgs (PySem.W.kla_fn "<lambda>" q ps b sc cl pm cv ctv) ⟨[], []⟩ = pure []) ∧
      (∀ (W2 : WX) (X2 : Cx), Good t L g W2 Z X2 (lamCc c sc) → PE X2 b (tD L W2 Z fe)) ∧ RelE L Z H m env σ ∧ RelS L H m S ∧ Cont L W' σ (RelD L) Q H m (fe env S)) := by
  subst hY
  refine ⟨fun pins s σ H Q I h => ?_⟩
  obtain ⟨f, env, S, m, ps, b, sc, fe, hσ, ⟨c', l1, l2, l3, l4, l5, l6⟩, hs, hb, hbody, he, hS, k⟩ := h
  have hv' : Vis X.env.scope a := by
    rw [G.sc]
    unfold visB at hv
    split at hv
    · exact .inl (by assumption)
    · exact .inr (.inl (by assumption))
    · exact .inr (.inr (by assumption))
    · cases hv
  unfold dunB at hd
  simp only [Bool.and_eq_true, Bool.not_eq_true'] at hd
  refine wpAny_Call_Name_kw (thn ((pe_var (X := X.tr pn xe) (pos := p1) (i := i) (by show X.N[i]? = _; rw [G.N]; exact hi) hv' hd.1 hd.2).run pins s σ H (fun v H1 => v = .ref f ∧ H1 = H) I ⟨.ref f, hσ, rfl, rfl⟩) fun u s1 ⟨v, H1, I1, r1, q1⟩ => ?_)
  obtain ⟨ev, eH⟩ := q1
  subst ev
  rw [eH] at I1
  obtain rfl : u = Value.ref f := r1
  obtain ⟨⟨pm, ctv, of1⟩, _, _⟩ := I1.hok f _ l3
  refine PySem.W.callWith_F0 ⟨_, _, _, _, of1⟩ ?_
  obtain ⟨⟨oc, vs, tt, hoc, hdc, hvc⟩, _, _⟩ := I1.hok c' _ l6
  have LS : LamS X.env.scope sc := by rw [G.sc]; exact lamS_by hs
  have rc : codeAny (model X.prog X.w) X.A (.call (.ref f) ⟨[], []⟩) (CR (L2.CX X.prog X.w) X.stack X.prog X.w H s1 Q (WE W' σ)) s1 := by
    refine PySem.W.kla_callFunE LF.room.depth of1 rfl LS.co LS.gen rfl ⟨c', oc, vs, tt, rfl, hoc, hdc, hvc⟩ ?_
    rw [hb]
    refine wpAny_pure (wpAny_newFunctionEnv (fun y hy => (LS.own y hy).2) (fun y hy => absurd hy (by simp)) (fun h₁ hns hsb => ⟨I1.nolimit.fresh _ hsb, ?_⟩) LS.kind)
    show codeAny _ _ (.expr b (lamEnv X sc s1.heap.objs.size f c')) _ _
    have kp : ∀ b o, s1.heap.get? b = some o → h₁.get? b = some o := fun b o e => hsb.extBut b o (Nat.ne_of_lt (Heap.lt_size e)) (Heap.get?_push_of_some _ e)
    have J : Inv (lamCx X X.A X.stack s1 H (WE W' σ) sc f c') [] σ H { s1 with heap := h₁, toks := s1.toks + ([] : List (Str × Value)).length } :=
      lam_start2 (X := X.tr pn xe) (outer := X.stack) I1 LS I1.env0 LF.room.hd (Un.refl) hns kp
    refine PySem.W.kla_codeExpr (wpAny_mono ((hbody _ _ (G.lam LF hc hs s1 H (WE W' σ) f c')).run [] _ _ H Q J ⟨env, S, m, he, hS, ?_⟩) (fun v s' hq => ?_) fun e s' hq => hq)
    · cases q : fe env S with
      | bad => rw [q] at k; exact k.elim
      | ok d S' => rw [q] at k; exact k
      | exc cc fs S' => rw [q] at k; exact k
    · obtain ⟨w', H', J', rv, q⟩ := hq
      exact ⟨w', H', J'.os, J'.bare, J'.base, J'.hok, rv, q⟩
  have hx : PassesAt (L2.CX X.prog X.w) (X.tr pn xe) σ (WE W' σ) := passAt tk σ
  refine wpAny_call (codeAny_mono rc fun r s' hq => ?_)
  cases r with
  | error e => exact hx pins H s1 e s' I1 hq
  | ok fl =>
    cases fl with
    | ret u => exact I1.after hq
    | next => exact False.elim hq
    | brk => exact False.elim hq
    | cont => exact False.elim hq
end
end KF

set_option Elab.async false
set_option linter.all false
set_option maxRecDepth 100000
set_option maxHeartbeats 4000000
/-! V13: the deeds of a law: what each lambda does, else what it raises -/
namespace KF
open PySem PySem.Spec PyProof.Rows L2 LamX
theorem noArgs_def {ps : Arguments} (h : noArgs ps = true) (env : PySem.Env) : defaultsOf ps env = ([], []) := by
  unfold noArgs at h
  cases ps with | mk a b c d e f g =>
  simp only [Bool.and_eq_true, List.isEmpty_iff, Option.isNone_iff_eq_none] at h
  obtain ⟨rfl, rfl, rfl, rfl, rfl, rfl, rfl⟩ := h
  rfl
theorem noArgs_bind {ps : Arguments} (h : noArgs ps = true) (q : Str) (b : Expr) (sc : Scope) (cl : List (Str × Addr)) (pm cv ctv : Value) : bindArgs (PySem.W.kla_fn "<lambda>" q ps b sc cl pm cv ctv) ⟨[], []⟩ = pure [] := by
  unfold noArgs at h
  cases ps with | mk a b c d e f g =>
  simp only [Bool.and_eq_true, List.isEmpty_iff, Option.isNone_iff_eq_none] at h
  obtain ⟨rfl, rfl, rfl, rfl, rfl, rfl, rfl⟩ := h
  rfl
structure TryF (t : Tb) (L : Lk) (g : Cfg) (X : Cx) : Prop where
  nm : ∀ (k : Nat) (x : Str), t.exN[k]? = some x → X.mg x = some (.ref (L.ea k))
  sub : ∀ j k, g.sub j k = true → PySem.W.exmOne L.K (.ref (L.ea j)) (.ref (L.ea k)) = some true ∧ XfC L.K (L.ea j) ∧ ∀ f ∈ L.ef j, PySem.W.findIn L.K (.ref (L.ea j)) f = some none
section
variable {t : Tb} {L : Lk} {g : Cfg} {W : WX} {Z : ZP} {X : Cx} {c : Cc}
/-- one row, all rows -/
def RowR (L : Lk) (X : Cx) (H : Hp) (m : Mp) : Expr → KF.D → V → Prop
  | .Tuple [.Lambda ps b sc _, _] _ _, x, v => ∃ a f w, v = .ref a ∧ TupA L.K H m a [.ref f, w] ∧ LamA H m f (X.env.qual ++ "<lambda>") ps b sc (cloFrom X.env.cells sc.names []) ∧ RelD L H m x w
  | _, _, _ => False
def RowsR (L : Lk) (X : Cx) (H : Hp) (m : Mp) : List Expr → List KF.D → List V → Prop
  | [], ds, vs => ds = [] ∧ vs = []
  | r :: rs, ds, vs => ∃ x xs v us, ds = x :: xs ∧ vs = v :: us ∧ RowR L X H m r x v ∧ RowsR L X H m rs xs us
theorem RowR.mono {H H' : Hp} {m m' : Mp} (e : Mono H m H' m') {r : Expr} {x : KF.D} {v : V} (h : RowR L X H m r x v) : RowR L X H' m' r x v := by
  unfold RowR at h ⊢
  split at h
  · obtain ⟨a, f, w, h1, h2, h3, h4⟩ := h
    exact ⟨a, f, w, h1, h2.mono e, h3.mono e, h4.mono e⟩
  · exact h.elim
theorem RowsR.mono {H H' : Hp} {m m' : Mp} (e : Mono H m H' m') : ∀ {rs : List Expr} {ds : List KF.D} {vs : List V}, RowsR L X H m rs ds vs → RowsR L X H' m' rs ds vs
  | [], _, _, h => h
  | r :: rs, _, _, h => by
    obtain ⟨x, xs, v, us, h1, h2, h3, h4⟩ := h
    exact ⟨x, xs, v, us, h1, h2, h3.mono e, RowsR.mono e h4⟩
theorem RowsR.length {H : Hp} {m : Mp} : ∀ {rs : List Expr} {ds : List KF.D} {vs : List V}, RowsR L X H m rs ds vs → vs.length = rs.length
  | [], _, _, h => by rw [h.2]; rfl
  | r :: rs, _, _, h => by
    obtain ⟨x, xs, v, us, h1, h2, h3, h4⟩ := h
    rw [h2, List.length_cons, List.length_cons, RowsR.length h4]
theorem RelE.ext {H H' : Hp} {m m' : Mp} {env : KF.Env} {σ : L2.St} (G : Good t L g W Z X c) (e : Ext H m H' m') (h : RelE L Z H m env σ) : RelE L Z H' m' env σ := h.mono G.zm e.mono
/-- (lambda: b, due) -/
theorem e_row (G : Good t L g W Z X c) (LF : LamF t L g X) {ps : Arguments} {b du : Expr} {sc : Scope} {k : Nat} {p p2 : Pos} {fd : Ev} (hps : noArgs ps = true) (hs : lamSB c.sc sc = true) (hn : notStar du = true) (hd : PE X du (tD L W Z fd)) :
    PE X (.Tuple [.Lambda ps b sc p, du] k p2) (tE L W Z (fun H m x v => RowR L X H m (.Tuple [.Lambda ps b sc p, du] k p2) x v) fd) := by
  have hlam : PE X (.Lambda ps b sc p) (fun σ H Q => ∃ S m, m.T = L.T ∧ RelS L H m S ∧ ∀ f H1, Ext H m H1 m → RelS L H1 m S → LamA H1 m f (X.env.qual ++ "<lambda>") ps b sc (cloFrom X.env.cells sc.names []) → Q (.ref f) H1) := by
    refine ⟨fun pins s σ H Q I ⟨S, m, hT, hS, h⟩ => ?_⟩
    obtain ⟨cc, P, h1, h2, h3, h4⟩ := LF.code
    have LS : LamS X.env.scope sc := by rw [G.sc]; exact lamS_by hs
    exact lam_mk I hS h2 h1 (by rw [hT]; exact h3) (by rw [hT]; exact h4) (noArgs_def hps _) (LS.has I.ok) fun f H1 s' I1 ex R1 hl => ⟨.ref f, H1, I1, rfl, h f H1 ex R1 hl⟩
  refine (pe_tup (pa_cons hlam (pa_cons hd pa_nil (star_cons hn)) (star_cons rfl))).imp fun σ H Q ⟨env, S, m, he, hS, w⟩ => ?_
  refine ⟨S, m, he.2.2.2, hS, fun f H1 ex R1 hl => ?_⟩
  refine ⟨env, S, m, he.ext G ex, R1, ?_⟩
  have w := Cont.ext ex w
  cases q : fd env S with
  | bad => rw [q] at w; exact w.elim
  | exc cc fs S' => rw [q] at w; exact w
  | ok x S' =>
    rw [q] at w
    intro H2 m2 v e2 s2 r2
    refine ⟨by show 2 ≤ sizeLine; decide, fun a ha => ?_⟩
    exact w _ m2 _ (e2.trans (Ext.new ha)) (s2.new ha) ⟨a, f, v, rfl, TupA.new s2 ha, (hl.mono e2.mono).mono (Mono.new ha), r2.mono (Mono.new ha)⟩
theorem e_rows (G : Good t L g W Z X c) (KO : KitOk t L X) (LF : LamF t L g X) : ∀ (rows : Dds) (rs : List Expr), rs.all notStar = true → chkRows t rows c rs = true → PA X rs (tE L W Z (fun H m ds vs => RowsR L X H m rs ds vs) (fun env S => evD g rows env S))
  | .nil, rs, _, h => by
    unfold chkRows at h
    have e := List.isEmpty_iff.mp h
    subst e
    exact pa_nil.imp fun σ H Q ⟨env, S, m, he, hS, k⟩ => k H m [] (Ext.refl _ _) hS ⟨rfl, rfl⟩
  | .cons e d r, rs, hn, h => by
    unfold chkRows at h
    split at h
    · rename_i ps b sc p du k p2 rs'
      simp only [Bool.and_eq_true] at h
      obtain ⟨h1, h2, h3, h4, h5, h6⟩ := h
      rw [List.all_cons, Bool.and_eq_true] at hn
      refine (pa_cons (e_row (b := b) (k := k) (p := p) (p2 := p2) G LF h1 h2 h5 (sound d c du h4 G KO).1) (e_rows G KO LF r rs' hn.2 h6) (star_cons hn.1)).imp fun σ H Q w => ?_
      refine (tE.seq (Rl := fun H m x v => RowR L X H m (.Tuple [.Lambda ps b sc p, du] k p2) x v) G.zm (g := fun env x S1 => (evD g r env S1).bind fun xs S2 => .ok (x :: xs) S2) w).imp fun v H1 ⟨env, S1, m1, x, he, hS, hr, kk⟩ => ?_
      refine ⟨env, S1, m1, he, hS, kk.bind.imp fun vs H2 ⟨m2, xs, S2, e2, s2, r2, k2⟩ => ?_⟩
      exact k2 H2 m2 _ (Ext.refl _ _) s2 ⟨x, xs, v, vs, rfl, rfl, hr.mono e2.mono, r2⟩
    · cases h
/-- they are walked -/
theorem i_rows (G : Good t L g W Z X c) (KO : KitOk t L X) (LF : LamF t L g X) {rows : Dds} {rs : List Expr} {tg : Expr} {k : Nat} {p : Pos} (hn : rs.all notStar = true) (h : chkRows t rows c rs = true) :
    PI X tg (.Tuple rs k p) (fun σ H R => rs.length ≤ sizeLine ∧ tE L W Z (fun H m ds (v : Wk) => RowsR L X H m rs ds v.2.1 ∧ WalkJ v.1 v.2.1 v.2.2 ∧ v.2.2 H ∧ ∀ H2 m2, Mono H m H2 m2 → (∀ a o u, H a = some (.frz o u) → H2 a = some (.frz o u)) → v.2.2 H2) (fun env S => evD g rows env S) σ H fun v H' => R v.1 H') := by
  refine ⟨fun pins s σ H R I w => ?_⟩
  obtain ⟨hz, env, S, m, he, hS, w⟩ := w
  refine thn ((pe_tup (pos := p) (x1 := k) (e_rows (W := W) G KO LF rows rs hn h)).run pins s σ H (fun v H1 => ∃ a m1 ds vs S1, v = .ref a ∧ TupA L.K H1 m1 a vs ∧ RowsR L X H1 m1 rs ds vs ∧ Ext H m H1 m1 ∧ RelS L H1 m1 S1 ∧
      ∀ J : L2.It, WalkJ J vs (fun H => SqT X.K H a vs) → R J H1) I ?_) fun v s1 ⟨x, H1, I1, r1, a, m1, ds, vs, S1, hx, ha, hr, ex, hS1, k1⟩ => ?_
  · refine ⟨env, S, m, he, hS, ?_⟩
    dsimp only at w ⊢
    cases q : evD g rows env S with
    | bad => rw [q] at w; exact w.elim
    | exc cc fs S' => rw [q] at w; exact w
    | ok ds S' =>
      rw [q] at w
      intro H2 m2 vs e2 s2 r2
      refine ⟨by rw [r2.length]; exact hz, fun a ha => ?_⟩
      refine ⟨a, m2, ds, vs, S', rfl, TupA.new s2 ha, r2.mono (Mono.new ha), e2.trans (Ext.new ha), s2.new ha, fun J wj => ?_⟩
      have ta : TupA L.K (upd H2 a (.tup vs)) m2 a vs := TupA.new s2 ha
      exact w _ m2 (J, vs, fun H => SqT X.K H a vs) (e2.trans (Ext.new ha)) (s2.new ha) ⟨r2.mono (Mono.new ha), wj, by rw [G.K]; exact ta.sq, fun H3 m3 e3 _ => by rw [G.K]; exact (ta.mono e3).sq⟩
  · subst hx
    cases r1
    have hq : SqT X.K H1 a vs := by rw [G.K]; exact ha.sq
    obtain ⟨its, rv, pp, hz⟩ := I1.tuple hq
    refine wpAny_pyIter_tuple (show s1.heap.IsTuple a its.toArray from pp) ?_
    refine ⟨s1.heap.objs.size, [s1.heap.objs.size], _, Itt X.K a, H1, rfl, I1.kept (t' := s1.toks) fun b o e => Heap.get?_push_of_some _ e, turn_tuple a _, ⟨_, Heap.get?_push_size _ rfl, rfl, rfl⟩, fun b hb => ?_, ?_⟩
    · have e : b = s1.heap.objs.size := by simpa using hb
      subst e
      exact I1.fpOk (Nat.le_refl _) (I1.hok.fresh (Nat.le_refl _))
    · exact k1 _ walk_tup
theorem Good.tr (G : Good t L g W Z X c) (hc : c.suite = none) {W' : WX} {pn : List (Addr × Obj)} {xe : Value → Shared → Prop} (tk : Takes (X.tr pn xe) W') (po : PassesOwn (model X.prog X.w) X.A X.env xe) : Good t L g W' Z (X.tr pn xe) c where
  K := G.K
  N := G.N
  nd := G.nd
  sc := G.sc
  fn := G.fn
  un := G.un
  free := G.free
  glob := G.glob
  tk := tk
  po := po
  ef := G.ef
  cf := G.cf
  zm := G.zm
  calm := G.calm
  zt := G.zt
  call := G.call
  mth := G.mth
  cls := G.cls
  nf := G.nf
  big := G.big
  suite := fun i h => by rw [hc] at h; cases h
theorem KitOk.of (KO : KitOk t L X) {Y : Cx} (h : Y.K = X.K) : KitOk t L Y := by
  refine ⟨?_, ?_, ?_⟩
  · rw [h]; exact KO.own
  · rw [h]; exact KO.bas
  · rw [h]; exact KO.bis
theorem KitOk.tr (KO : KitOk t L X) {pn : List (Addr × Obj)} {xe : Value → Shared → Prop} : KitOk t L (X.tr pn xe) := ⟨KO.own, KO.bas, KO.bis⟩
theorem KitOk.sui (KO : KitOk t L X) {a : Addr} {pn : List (Addr × Obj)} : KitOk t L (X.suite a pn) := ⟨KO.own, KO.bas, KO.bis⟩
def Cfg.at_ (g : Cfg) (k : Nat) (fs : List KF.D) : Cfg := { g with cur := some (k, fs), mth := fun _ _ => none }
theorem Good.sui (G : Good t L g W Z X c) (hc : c.suite = none) {a : Addr} {oe : Obj} {k i : Nat} {fs : List KF.D} {dd : Addr} {pn : List (Addr × Obj)} (hz : Zc (.ref (L.ea k)) (some dd) oe) (ho : ∃ vs, oe.data = .fields vs) (hx : XfC L.K (L.ea k)) (hf : ∀ f ∈ L.ef k, PySem.W.findIn L.K (.ref (L.ea k)) f = some none) :
    Good t L (g.at_ k fs) W0 (ZX L i a dd k fs) (X.suite a ((a, oe) :: pn)) ⟨c.N, c.sc, c.own, some i⟩ where
  K := G.K
  N := G.N
  nd := G.nd
  sc := G.sc
  fn := G.fn
  un := G.un
  free := G.free
  glob := G.glob
  tk := L2.takes0
  po := PassesOwn.never
  ef := G.ef
  cf := G.cf
  mth := fun _ _ _ h => by cases h
  cls := G.cls
  nf := G.nf
  big := G.big
  zm := ZX.mono
  calm := fun h => by cases h
  zt := fun h => by cases h
  call := fun h => by cases h
  suite := fun j h => by
    cases h
    exact ⟨a, oe, k, fs, dd, pn, X, rfl, hz, ho, rfl, hx, hf, rfl⟩
end
end KF

set_option Elab.async false
set_option linter.all false
set_option maxRecDepth 100000
set_option maxHeartbeats 4000000
/-! V14: the deeds, caught; all statements -/
namespace KF
open PySem PySem.Spec PyProof.Rows L2 LamX
section
variable {t : Tb} {L : Lk} {g : Cfg} {W : WX} {Z : ZP} {X : Cx} {c : Cc}
/-- what the handler does -/
abbrev hOf (g : Cfg) (fi : Nat) (h : Sts) : Nat → List KF.D → KF.Env → Store → RS := fun k fs env S => unset fi (execs (g.at_ k fs) h (env.set fi none) S)
theorem RelE.unset {L : Lk} {Z Z' : ZP} {H : Hp} {m : Mp} {env : KF.Env} {σ : L2.St} (zt : ∀ σ H m, Z' σ H m) (he : RelE L Z H m env σ) (i : Nat) : RelE L Z' H m (env.set i none) (σ.set i none) := by
  refine ⟨by rw [List.length_set, List.length_set]; exact he.1, fun j d q => ?_, zt _ _ _, he.2.2.2⟩
  by_cases hj : i = j
  · subst hj
    by_cases hl : i < env.length
    · rw [List.getElem?_set_self hl] at q; cases q
    · rw [List.getElem?_eq_none (by rw [List.length_set]; omega)] at q; cases q
  · rw [List.getElem?_set_ne hj] at q
    obtain ⟨v, e2, r2⟩ := he.2.1 j d q
    exact ⟨v, by rw [List.getElem?_set_ne hj]; exact e2, r2⟩
def tDeed (t : Tb) (L : Lk) (g : Cfg) (W : WX) (Z : ZP) (X : Cx) (c : Cc) (di fi : Nat) (bd : KF.Env → Store → RS) (x : Nat) (h : Sts) : TS := fun D σ H =>
  ∃ (f : Addr) (env : KF.Env) (S : Store) (m : Mp) (ps : Arguments) (b : Expr) (sc : Scope) (fe : Ev), (di < σ.length → σ[di]? = some (some (.ref f))) ∧ LamA H m f (X.env.qual ++ "<lambda>") ps b sc (cloFrom X.env.cells sc.names []) ∧
      lamSB c.sc sc = true ∧ (∀ (q : Str) (cl : List (Str × Addr)) (pm cv ctv : Value), bindArgs (PySem.W.kla_fn "<lambda>" q ps b sc cl pm cv ctv) ⟨[], []⟩ = pure []) ∧
      (∀ (W2 : WX) (X2 : Cx), Good t L g W2 Z X2 (lamCc c sc) → PE X2 b (tD L W2 Z fe)) ∧ RelE L Z H m env σ ∧ RelS L H m S ∧
      ContS L W Z D H m (deed1 (fe env S) (bd env) (fun k => g.sub k x) (fun k fs => hOf g fi h k fs env))
/-- what the clause is told -/
def tsH (L : Lk) (g : Cfg) (fi x : Nat) (h : Sts) : Addr → Value → Option Addr → TS := fun a cls d D σ H =>
  ∃ k fs dd env S m, cls = .ref (L.ea k) ∧ d = some dd ∧ g.sub k x = true ∧ RelE L (ZX L fi a dd k fs) H m env σ ∧ RelS L H m S ∧ ContS L W0 (ZX L fi a dd k fs) D H m (execs (g.at_ k fs) h env S)
/-- one deed, tried -/
theorem s_deed (G : Good t L g W Z X c) (LF : LamF t L g X) (TF : TryF t L g X) (hc : c.suite = none) {bd : KF.Env → Store → RS} {h : Sts} {di fi x : Nat} {dn fn xn : Str} {bs hs : List Stmt} {h0 : Stmt} {p1 p2 p3 p4 p5 p6 : Pos}
    (hi : c.N[di]? = some dn) (hv : visB c.sc dn = true) (hd : dunB dn = true) (hfi : c.N[fi]? = some fn) (hfl : c.sc.names.lookup fn = some .local) (hx : t.exN[x]? = some xn) (hg : glB c.sc xn = true) (hxd : dunB xn = true)
    (hb : ∀ (W' : WX) (pn : List (Addr × Obj)) (xe : Value → Shared → Prop), Good t L g W' Z (X.tr pn xe) c → PSs (X.tr pn xe) bs (tS L W' Z bd))
    (hh : ∀ (g' : Cfg) (Z' : ZP) (Y : Cx), Good t L g' W0 Z' Y ⟨c.N, c.sc, c.own, some fi⟩ → PSs Y (h0 :: hs) (tS L W0 Z' fun env S => execs g' h env S)) :
    PS X (.Try (.Expr (.Call (.Name dn p1) [] [] p2) p3 :: bs) [.ExceptHandler (some (.Name xn p4)) (some fn) (h0 :: hs) p5] [] [] p6) (tDeed t L g W Z X c di fi bd x h) := by
  have hxd2 := hxd
  unfold dunB at hxd2
  simp only [Bool.and_eq_true, Bool.not_eq_true'] at hxd2
  have kl : X.env.kindOf fn = some .local := by show X.env.scope.names.lookup fn = _; rw [G.sc]; exact hfl
  refine ⟨fun pins s σ H D I w => (ps_try_as (X := X) (x := xn) (n := fn) (c := .ref (L.ea x)) (i := fi) (Wout := W) LF.stk LF.fr (by rw [G.N]; exact G.nd) (by rw [G.N]; exact hfi) kl ⟨gl_of G hg, hxd2.1, .inl (TF.nm x xn hx)⟩ G.tk
    (tb := fun W' D σ H => ∃ (f : Addr) (env : KF.Env) (S : Store) (m : Mp) (ps : Arguments) (b : Expr) (sc : Scope) (fe : Ev), σ[di]? = some (some (.ref f)) ∧ LamA H m f (X.env.qual ++ "<lambda>") ps b sc (cloFrom X.env.cells sc.names []) ∧
      lamSB c.sc sc = true ∧ (∀ (q : Str) (cl : List (Str × Addr)) (pm cv ctv : Value), bindArgs (PySem.W.kla_fn "<lambda>" q ps b sc cl pm cv ctv) ⟨[], []⟩ = pure []) ∧
      (∀ (W2 : WX) (X2 : Cx), Good t L g W2 Z X2 (lamCc c sc) → PE X2 b (tD L W2 Z fe)) ∧ RelE L Z H m env σ ∧ RelS L H m S ∧
      Cont L W' σ (RelD L) (fun _ H' => tS L W' Z bd D σ H') H m (fe env S))
    (ts := tsH L g fi x h) (fun W' pn xe tk po => ?_) (fun a oe cls d pn hz ho => ?_)).run pins s σ H D I ?_⟩
  · have G' := G.tr hc tk po
    have h1 : PS (X.tr pn xe) (.Expr (.Call (.Name dn p1) [] [] p2) p3) _ := ps_expr (pos := p3) (e_act (p1 := p1) (p2 := p2) rfl G LF hc tk hi hv hd) (notComp_ok rfl _ _ _)
    exact (pss_cons h1 (hb W' pn xe G')).imp fun D σ H w => w
  · refine ⟨fun pins s σ H D I w => ?_⟩
    obtain ⟨k, fs, dd, env, S, m, rfl, rfl, hsub, he, hS, w⟩ := w
    obtain ⟨_, s2, s3⟩ := TF.sub k x hsub
    have Gs := G.sui (a := a) (i := fi) (fs := fs) (pn := pn) hc hz ho s2 s3
    exact (hh _ _ _ Gs).run pins s σ H D I ⟨env, S, m, he, hS, w⟩
  · obtain ⟨f, env, S, m, ps, b, sc, fe, w1, w2, w3, w4, w5, he, hS, w⟩ := w
    refine ⟨f, env, S, m, ps, b, sc, fe, w1 (by rw [I.len, G.N]; exact (List.getElem?_eq_some_iff.mp hi).1), w2, w3, w4, w5, he, hS, ?_⟩
    cases q : fe env S with
    | bad => rw [q] at w; exact w.elim
    | ok d S' =>
      rw [q] at w
      intro H1 m1 v ex s1 r1
      refine ⟨env, S', m1, he.mono G.zm ex.mono, s1, ?_⟩
      have w : ContS L W Z D H m (match bd env S' with
        | .exc _ _ _ _ => .bad
        | r => r) := w
      have w := ContS.ext ex w
      cases q2 : bd env S' with
      | exc _ _ _ _ => rw [q2] at w; exact w.elim
      | bad => rw [q2] at w; exact w.elim
      | next _ _ => rw [q2] at w; exact w
      | ret _ _ => rw [q2] at w; exact w
      | brk _ _ => rw [q2] at w; exact w
      | cont _ _ => rw [q2] at w; exact w
    | exc k fs S' =>
      rw [q] at w
      have w : ContS L W Z D H m (if g.sub k x = true then hOf g fi h k fs env S' else .bad) := w
      intro H1 m1 dx vs ex s1 r1 hdx n1 n2
      split at w
      · rename_i hsub
        obtain ⟨e1, s2, s3⟩ := TF.sub k x hsub
        refine ⟨true, by rw [G.K]; exact e1, fun _ a ha => ?_, fun z => by cases z⟩
        have he1 := he.mono G.zm ex.mono
        refine ⟨k, fs, dx, env.set fi none, S', m1, rfl, rfl, hsub, ⟨?_, ?_, ⟨?_, vs, hdx, n1, n2, r1⟩, he1.2.2.2⟩, s1, ?_⟩
        · rw [List.length_set, List.length_set]; exact he1.1
        · intro j d q3
          by_cases hj : fi = j
          · subst hj
            by_cases hl : fi < env.length
            · rw [List.getElem?_set_self hl] at q3; cases q3
            · rw [List.getElem?_eq_none (by rw [List.length_set]; omega)] at q3; cases q3
          · rw [List.getElem?_set_ne hj] at q3
            obtain ⟨v, e2, r2⟩ := he1.2.1 j d q3
            exact ⟨v, by rw [List.getElem?_set_ne hj]; exact e2, r2⟩
        · rw [List.getElem?_set_self (by rw [I.len, G.N]; exact (List.getElem?_eq_some_iff.mp hfi).1)]
        · have w := ContS.ext ex w
          unfold hOf unset at w
          cases q2 : execs (g.at_ k fs) h (env.set fi none) S' with
          | bad => rw [q2] at w; exact w.elim
          | exc _ _ _ _ => rw [q2] at w; exact w.elim
          | next e3 S3 => 
            rw [q2] at w
            exact fun H' m' σ' e s r => w H' m' _ e s (RelE.unset (G.zt hc) r fi)
          | brk e3 S3 => 
            rw [q2] at w
            exact fun H' m' σ' e s r => w H' m' _ e s (RelE.unset (G.zt hc) r fi)
          | cont e3 S3 => 
            rw [q2] at w
            exact fun H' m' σ' e s r => w H' m' _ e s (RelE.unset (G.zt hc) r fi)
          | ret d S3 => rw [q2] at w; exact w
      · exact w.elim
theorem RelE.put' {L : Lk} {Z : ZP} (zt : ∀ σ H m, Z σ H m) {H : Hp} {m : Mp} {env : KF.Env} {σ : L2.St} {i : Nat} {o : Option KF.D} {v : V} (he : RelE L Z H m env σ) (r : ∀ d, o = some d → RelD L H m d v) : RelE L Z H m (env.set i o) (σ.set i (some v)) := by
  refine ⟨by rw [List.length_set, List.length_set]; exact he.1, fun j e q => ?_, zt _ _ _, he.2.2.2⟩
  by_cases hij : i = j
  · subst hij
    by_cases hi : i < env.length
    · rw [List.getElem?_set_self hi] at q
      cases q
      exact ⟨v, by rw [List.getElem?_set_self (by rw [← he.1]; exact hi)], r _ rfl⟩
    · rw [List.getElem?_eq_none (by rw [List.length_set]; omega)] at q; cases q
  · rw [List.getElem?_set_ne hij] at q
    obtain ⟨w, e1, r1⟩ := he.2.1 j e q
    exact ⟨w, by rw [List.getElem?_set_ne hij]; exact e1, r1⟩
theorem s_deeds (G : Good t L g W Z X c) (KO : KitOk t L X) (LF : LamF t L g X) (TF : TryF t L g X) (hc : c.suite = none) {bd : KF.Env → Store → RS} {h : Sts} {rows : Dds} {rs : List Expr} {di du fi x k k2 : Nat} {dn un fn xn : Str} {bs hs : List Stmt} {h0 : Stmt} {p1 p2 p3 p4 p5 p6 q1 q2 q3 q4 q5 : Pos}
    (hne : di ≠ du) (ht : chkT c (.t (.cons (.n di) (.cons (.n du) .nil))) (.Tuple [.Name dn q1, .Name un q2] k q3) = true) (hn : rs.all notStar = true) (hz : rs.length ≤ sizeLine) (hr : chkRows t rows c rs = true)
    (hi : c.N[di]? = some dn) (hv : visB c.sc dn = true) (hd : dunB dn = true) (hfi : c.N[fi]? = some fn) (hfl : c.sc.names.lookup fn = some .local) (hx : t.exN[x]? = some xn) (hg : glB c.sc xn = true) (hxd : dunB xn = true)
    (hb : ∀ (W' : WX) (pn : List (Addr × Obj)) (xe : Value → Shared → Prop), Good t L g W' Z (X.tr pn xe) c → PSs (X.tr pn xe) bs (tS L W' Z bd))
    (hh : ∀ (g' : Cfg) (Z' : ZP) (Y : Cx), Good t L g' W0 Z' Y ⟨c.N, c.sc, c.own, some fi⟩ → PSs Y (h0 :: hs) (tS L W0 Z' fun env S => execs g' h env S)) :
    PS X (.For (.Tuple [.Name dn q1, .Name un q2] k q3) (.Tuple rs k2 q4) [.Try (.Expr (.Call (.Name dn p1) [] [] p2) p3 :: bs) [.ExceptHandler (some (.Name xn p4)) (some fn) (h0 :: hs) p5] [] [] p6] [] q5)
      (tS L W Z fun env S => (evD g rows env S).st env fun ds S1 => deedL g rows di du bd (fun k => g.sub k x) (hOf g fi h) ds env S1) := by
  have hgt := g_ok G (G.calm hc) _ _ ht
  rw [G.K] at hgt
  have hbody := pss_one (s_deed (p1 := p1) (p2 := p2) (p3 := p3) (p4 := p4) (p5 := p5) (p6 := p6) G LF TF hc hi hv hd hfi hfl hx hg hxd hb hh)
  refine (ps_for G.po (G.calm hc) (i_rows (p := q4) (k := k2) G KO LF hn hr) hgt hbody (fun _ => rfl)).imp fun D σ H w => ?_
  refine ⟨hz, ?_⟩
  obtain ⟨env, S, m, he, hS, w⟩ := w
  refine ⟨env, S, m, he, hS, ?_⟩
  dsimp only at w ⊢
  cases q : evD g rows env S with
  | bad => rw [q] at w; exact w.elim
  | exc cc fs S' =>
    rw [q] at w
    exact fun H' m' dx vs e s r h1 h2 h3 => w H' m' σ dx vs e s (he.mono G.zm e.mono) r h1 h2 h3
  | ok ds S1 =>
  rw [q] at w
  rintro H1 m1 ⟨J, vs, std⟩ e1 hs1 ⟨hrow, wj, st0, stm⟩
  have he1 := he.mono G.zm e1.mono
  have w : ContS L W Z D H1 m1 (deedL g rows di du bd (fun k => g.sub k x) (hOf g fi h) ds env S1) := ContS.ext e1 w
  clear q
  have hrow : RowsR L X H1 m1 rs ds vs := hrow
  let Inv' : Nat → L2.St → Hp → Prop := fun i σ' H' => ∃ rows' rs' ds' env' S' m', chkRows t rows' c rs' = true ∧ RowsR L X H1 m1 rs' ds' (vs.drop i) ∧ RelE L Z H' m' env' σ' ∧ RelS L H' m' S' ∧ Ext H1 m1 H' m' ∧
    ContS L W Z D H1 m1 (deedL g rows' di du bd (fun k => g.sub k x) (hOf g fi h) ds' env' S')
  refine ⟨fun i n σ' H' => n = vs.length - i ∧ i ≤ vs.length ∧ Inv' i σ' H', ⟨vs.length, by simp, Nat.zero_le _, rows, rs, ds, env, S1, m1, hr, hrow, he1, hs1, Ext.refl _ _, w⟩, ?_⟩
  rintro i n σ' H' ⟨rfl, hil0, rows', rs', ds', env', S', m', hr', hrow', hE', hs', hx', hk⟩
  have hil : i ≤ vs.length := hil0
  have hstd : std H' := stm _ _ hx'.mono hx'.frz
  by_cases hlt : i < vs.length
  · refine .inr ⟨wj.go i H' hstd hlt, Inv' (i + 1), fun σ2 H2 h2 => ⟨vs.length - (i + 1), by omega, rfl, hlt, h2⟩, fun v H2 hy => ?_⟩
    obtain ⟨rfl, hxi⟩ := wj.yld i H' v H2 hstd hlt hy
    rw [List.drop_eq_getElem_cons hlt] at hrow'
    have hxi2 : vs[i] = v := by
      rw [List.getElem?_eq_getElem hlt] at hxi
      exact Option.some.inj hxi
    rw [hxi2] at hrow'
    cases rs' with
    | nil => have z := hrow'.2; cases z
    | cons r rs' =>
      obtain ⟨d, dr, v', us, rfl, e2, hR, hRs⟩ := hrow'
      cases e2
      unfold chkRows at hr'
      cases rows' with
      | nil => cases hr'
      | cons e0 d0 r0 =>
        dsimp only at hr'
        split at hr'
        · rename_i ps b sc p du' kk pp rs2 heq
          cases heq
          simp only [Bool.and_eq_true] at hr'
          obtain ⟨c1, c2, c3, c4, c5, c6⟩ := hr'
          have hR2 := hR.mono (X := X) hx'.mono
          obtain ⟨a, f, wv, rfl, hT, hL, hD⟩ := hR2
          have hD : RelD L H2 m' d wv := hD
          refine ⟨a, [.ref f, wv], rfl, hT.sq, rfl, .ref f, [wv], rfl, wv, [], rfl, rfl, ?_⟩
          have hE2 : RelE L Z H2 m' ((env'.set di none).set du (some d)) ((σ'.set di (some (.ref f))).set du (some wv)) :=
            RelE.put' (G.zt hc) (RelE.put' (G.zt hc) hE' (fun d z => by cases z)) (fun d' z => by cases z; exact hD)
          refine ⟨f, _, S', m', ps, b, sc, fun env S => ev g e0 false env S, fun hl => ?_, hL, c2, fun q cl pm cv ctv => noArgs_bind c1 q b sc cl pm cv ctv, fun W2 X2 G2 => (sound e0 (lamCc c sc) b c3 G2 (KO.of (G2.K.trans G.K.symm))).1, hE2, hs', ?_⟩
          · rw [List.getElem?_set_ne hne.symm, List.getElem?_set_self (by rw [List.length_set, List.length_set] at hl; exact hl)]
          · unfold deedL at hk
            cases q5 : deed1 (ev g e0 false ((env'.set di none).set du (some d)) S') (bd ((env'.set di none).set du (some d))) (fun k => g.sub k x) (fun k fs => hOf g fi h k fs ((env'.set di none).set du (some d))) with
            | bad => rw [q5] at hk; exact hk.elim
            | exc _ _ _ _ => rw [q5] at hk; exact hk.elim
            | next env3 S3 =>
              rw [q5] at hk
              exact fun H3 m3 σ3 e3 s3 r3 => ⟨r0, rs', dr, env3, S3, m3, c6, hRs, r3, s3, hx'.trans e3, hk⟩
            | cont env3 S3 =>
              rw [q5] at hk
              exact fun H3 m3 σ3 e3 s3 r3 => ⟨r0, rs', dr, env3, S3, m3, c6, hRs, r3, s3, hx'.trans e3, hk⟩
            | brk env3 S3 =>
              rw [q5] at hk
              exact fun H3 m3 σ3 e3 s3 r3 => hk H3 m3 σ3 (hx'.trans e3) s3 r3
            | ret d S3 =>
              rw [q5] at hk
              exact fun H3 m3 v e3 s3 r3 => hk H3 m3 v (hx'.trans e3) s3 r3
        · cases hr'
  · have ed : vs.drop i = [] := List.drop_eq_nil_of_le (by omega)
    rw [ed] at hrow'
    refine .inl ⟨wj.stop i H' hstd (show vs.length ≤ i by omega), ?_⟩
    cases rs' with
    | nil =>
      obtain ⟨rfl, _⟩ := hrow'
      cases rows' with
      | nil => exact hk H' m' σ' hx' hs' hE'
      | cons _ _ _ => exact hk.elim
    | cons r rs' =>
      obtain ⟨d, dr, v', us, _, e2, _⟩ := hrow'
      cases e2
end
end KF

set_option Elab.async false
set_option linter.all false
set_option maxRecDepth 100000
set_option maxHeartbeats 4000000
/-! V15: soundness of all statements -/
namespace KF
open PySem PySem.Spec PyProof.Rows L2 LamX
structure SF (t : Tb) (L : Lk) (g : Cfg) (dl : Bool) (X : Cx) (c : Cc) : Prop where
  ko : KitOk t L X
  ex : c.suite = none → ∀ pn xe, ExcOk t L (X.tr pn xe)
  lam : dl = true → c.suite = none → LamF t L g X ∧ TryF t L g X
section
variable {t : Tb} {L : Lk} {g : Cfg} {W : WX} {Z : ZP} {X : Cx} {c : Cc} {dl : Bool}
theorem SF.tr (F : SF t L g dl X c) {pn : List (Addr × Obj)} {xe : Value → Shared → Prop} : SF t L g dl (X.tr pn xe) c where
  ko := ⟨F.ko.own, F.ko.bas, F.ko.bis⟩
  ex := fun hc pn' xe' => F.ex hc pn' xe'
  lam := fun h1 h2 => ⟨⟨(F.lam h1 h2).1.code, (F.lam h1 h2).1.stk, (F.lam h1 h2).1.fr, (F.lam h1 h2).1.room, (F.lam h1 h2).1.call, (F.lam h1 h2).1.mth⟩, ⟨(F.lam h1 h2).2.nm, (F.lam h1 h2).2.sub⟩⟩
theorem walk_st {D : Ends} {H : Hp} {m : Mp} {it : It} {env : KF.Env} {S : Store} {f : Store → R KF.D} {i : Nat} (k : ContS L W Z D H m ((walkE g it env S f).st env fun d S1 => match asg (.n i) d env with
      | some env' => .next env' S1
      | none => .bad)) : ContS L W Z D H m (match lkI g it env S with
    | some n => (match lockS S n with
      | some S0 => unlR n ((f S0).st env fun d S1 => match asg (.n i) d env with
        | some env' => .next env' S1
        | none => .bad)
      | none => .bad)
    | none => (f S).st env fun d S1 => match asg (.n i) d env with
      | some env' => .next env' S1
      | none => .bad) := by
  unfold walkE at k
  cases q : lkI g it env S with
  | none => rw [q] at k; exact k
  | some n =>
    rw [q] at k
    dsimp only at k ⊢
    cases q2 : lockS S n with
    | none => rw [q2] at k; exact k
    | some S0 =>
      rw [q2] at k
      dsimp only at k ⊢
      cases q3 : f S0 with
      | bad => rw [q3] at k; exact k
      | exc _ _ _ => rw [q3] at k; exact k.elim
      | ok d S1 =>
        rw [q3] at k
        unfold unlD at k
        dsimp only [R.st] at k ⊢
        cases q4 : unlS S1 n with
        | none => rw [q4] at k; exact k.elim
        | some S' =>
          rw [q4] at k
          dsimp only at k ⊢
          cases q5 : asg (.n i) d env with
          | none => rw [q5] at k; exact k
          | some env' =>
            rw [q5] at k
            unfold unlR
            dsimp only
            rw [q4]
            exact k
/-- stored from a comprehension -/
theorem s_asgL (G : Good t L g W Z X c) (KO : KitOk t L X) (hc : c.suite = none) {i : Nat} {x : Str} {e : E} {v : Expr} {p p2 : Pos} (hi : c.N[i]? = some x) (hl : locB c x = true) (hs : swB c v x p = true) (h : chk t e c v = true) :
    PS X (.Assign [.Name x p] v p2) (tS L W Z fun env S => (ev g e false env S).st env fun d S1 => match asg (.n i) d env with
      | some env' => .next env' S1
      | none => .bad) := by
  obtain ⟨h1, h2⟩ := fn_loc G hl
  obtain ⟨hsw, hyl, _⟩ := sw_ok (env := X.env) (l := p2.line) G.sc hs
  cases v <;> try (cases hs; done)
  rename_i elt gens s spp q
  cases e <;> try (unfold chk at h; cases h; done)
  rename_i fz e tg it cs
  unfold chk at h
  split at h
  · rename_i heq
    cases heq
    rename_i tgt iter ifs k
    simp only [Bool.and_eq_true, decide_eq_true_eq] at h
    obtain ⟨g1, rfl, g3, g4, g5, g6, g7, g8⟩ := h
    refine (s_walk (it := it) G ((s_lc (fz := fz) G hc g3 hi hyl hsw (soundI it c iter g5 G KO) g4 (fun s' H C cl fp => ?_) (fun s' H C cl fp => soundC cs (blkCc c s) ifs g7 (G.blk hc s' H C cl fp) (KO.blk s' H C cl fp)) (fun s' H C cl fp => (sound e (blkCc c s) elt g8 (G.blk hc s' H C cl fp) (KO.blk s' H C cl fp)).1)).imp fun D σ H w => s_asgR (tg := .n i) G hc w)).imp fun D σ H w => ?_
    · have h := g_ok (G.blk hc (s := s) s' H C cl fp) (G.calm hc) tg tgt g6
      have e : (X.blk s' H s (compEnvC s cl C X.env) fp).K = L.K := G.K
      rw [e] at h
      exact h
    obtain ⟨env, S, m, he, hs, kk⟩ := w
    exact ⟨env, S, m, he, hs, walk_st kk⟩
  · cases h
end
mutual
theorem soundS {t : Tb} {L : Lk} {dl : Bool} : ∀ (s : St) (c : Cc) (a : Stmt), chkS t dl s c a = true → ∀ {g : Cfg} {W : WX} {Z : ZP} {X : Cx}, Good t L g W Z X c → SF t L g dl X c → PS X a (tS L W Z fun env S => exec g s env S)
  | .ex e, c, a, h, g, W, Z, X, G, F => by
    unfold chkS at h
    split at h
    · rw [Bool.and_eq_true] at h
      exact s_ex G (sound e c _ h.2 G F.ko).1 h.1
    · cases h
  | .ret e, c, a, h, g, W, Z, X, G, F => by
    unfold chkS at h
    split at h
    · exact s_ret G (sound e c _ h G F.ko).1
    · cases h
  | .retN, c, a, h, g, W, Z, X, G, F => by
    unfold chkS at h
    split at h
    · exact s_retN
    · cases h
  | .asg tg e, c, a, h, g, W, Z, X, G, F => by
    unfold chkS at h
    rw [Bool.and_eq_true] at h
    obtain ⟨hc, h⟩ := h
    have hc := calm_of hc
    rw [Bool.and_eq_true] at h
    obtain ⟨h1, h2⟩ := h
    split at h2
    · rename_i x p v pos
      dsimp only at h1
      split at h2
      · rename_i i
        simp only [Bool.and_eq_true, Bool.or_eq_true, decide_eq_true_eq] at h2
        obtain ⟨g1, g2, g3⟩ := h2
        rcases g3 with g3 | g3 | g3
        · exact s_asgN G hc g1 g2 (notComp_ok g3 _ _ _) (sound e c _ h1 G F.ko).1
        · exact s_asgL G F.ko hc g1 g2 g3 h1
        · exact s_asgN G hc g1 g2 (nsw_ok G.sc g3) (sound e c _ h1 G F.ko).1
      · cases h2
    · rename_i ts k p vs k2 p2 pos
      dsimp only at h1
      rw [Bool.and_eq_true, Bool.or_eq_true, Bool.or_eq_true] at h2
      obtain ⟨g1, g2⟩ := h2
      rcases g2 with g2 | g2 | g2
      · exact s_asgT G hc g1 rfl (npar_ok G.sc g2) (sound e c _ h1 G F.ko).1
      · have g2' := g2
        unfold parB at g2'
        split at g2'
        · cases e <;> try (unfold chk at h1; cases h1; done)
          rename_i as
          unfold chk at h1
          dsimp only at h1
          exact s_par G hc g1 g2 (sounds as c _ h1 G F.ko)
        · cases g2'
      · have g2' := g2
        unfold parB3 at g2'
        split at g2'
        · cases e <;> try (unfold chk at h1; cases h1; done)
          rename_i as
          unfold chk at h1
          dsimp only at h1
          exact s_par3 G hc g1 g2 (sounds as c _ h1 G F.ko)
        · cases g2'
    · rename_i ts k p v pos hv
      dsimp only at h1
      simp only [Bool.and_eq_true] at h2
      obtain ⟨g1, g2, g3⟩ := h2
      exact s_asgT G hc g1 g3 (ntup_ok g2) (sound e c _ h1 G F.ko).1
    · cases h2
  | .augN i o e, c, a, h, g, W, Z, X, G, F => by
    unfold chkS at h
    rw [Bool.and_eq_true] at h
    obtain ⟨hc, h⟩ := h
    have hc := calm_of hc
    split at h
    · simp only [Bool.and_eq_true, decide_eq_true_eq] at h
      obtain ⟨h1, h2, h3, h4, h5⟩ := h
      rw [O2.is_eq h1]
      exact s_augN G hc h3 h4 (sound e c _ h5 G F.ko).1
    · cases h
  | .augX x i o e, c, a, h, g, W, Z, X, G, F => by
    unfold chkS at h
    rw [Bool.and_eq_true] at h
    obtain ⟨hc, h⟩ := h
    have hc := calm_of hc
    split at h
    · simp only [Bool.and_eq_true] at h
      obtain ⟨h1, h2, h3, h4, h5, h6⟩ := h
      rw [O2.is_eq h1]
      exact s_augX G h3 (sound x c _ h4 G F.ko).1 (sound i c _ h5 G F.ko).1 (sound e c _ h6 G F.ko).1
    · cases h
  | .augA x f o e, c, a, h, g, W, Z, X, G, F => by
    unfold chkS at h
    rw [Bool.and_eq_true] at h
    obtain ⟨hc, h⟩ := h
    split at h
    · simp only [Bool.and_eq_true, decide_eq_true_eq] at h
      obtain ⟨h1, h2, rfl, h4, h5⟩ := h
      rw [O2.is_eq h1]
      exact s_augA G (sound x c _ h4 G F.ko).1 (sound e c _ h5 G F.ko).1
    · cases h
  | .stX x i e, c, a, h, g, W, Z, X, G, F => by
    unfold chkS at h
    rw [Bool.and_eq_true] at h
    obtain ⟨hc, h⟩ := h
    split at h
    · simp only [Bool.and_eq_true] at h
      obtain ⟨h1, h2, h3, h4⟩ := h
      exact s_stX G h1 (sound x c _ h2 G F.ko).1 (sound i c _ h3 G F.ko).1 (sound e c _ h4 G F.ko).1
    · cases h
  | .stA x f e, c, a, h, g, W, Z, X, G, F => by
    unfold chkS at h
    rw [Bool.and_eq_true] at h
    obtain ⟨hc, h⟩ := h
    split at h
    · simp only [Bool.and_eq_true, decide_eq_true_eq] at h
      obtain ⟨rfl, h2, h3⟩ := h
      exact s_stA G (sound x c _ h2 G F.ko).1 (sound e c _ h3 G F.ko).1
    · cases h
  | .whl x b, c, a, h, g, W, Z, X, G, F => by
    unfold chkS at h
    rw [Bool.and_eq_true] at h
    obtain ⟨hc, h⟩ := h
    split at h
    · rw [Bool.and_eq_true] at h
      exact s_whl G (sound x c _ h.1 G F.ko).2 (soundSs b c _ h.2 G F) g.fuel
    · cases h
  | .try_ _ _ _ _, c, a, h, g, W, Z, X, G, F => by
    unfold chkS at h
    cases h
  | .ifs x aa b, c, s, h, g, W, Z, X, G, F => by
    unfold chkS at h
    split at h
    · simp only [Bool.and_eq_true] at h
      obtain ⟨h1, h2, h3⟩ := h
      exact s_if G (sound x c _ h1 G F.ko).2 (soundSs aa c _ h2 G F) (soundSs b c _ h3 G F)
    · cases h
  | .for_ tg it b, c, a, h, g, W, Z, X, G, F => by
    unfold chkS at h
    rw [Bool.and_eq_true] at h
    obtain ⟨hc, h⟩ := h
    have hc := calm_of hc
    split at h
    · simp only [Bool.and_eq_true] at h
      obtain ⟨h1, h2, h3, h4⟩ := h
      exact s_walk G (s_for G hc h1 h2 (soundI it c _ h3 G F.ko) (soundSs b c _ h4 G F))
    · cases h
  | .raise k as, c, a, h, g, W, Z, X, G, F => by
    unfold chkS at h
    rw [Bool.and_eq_true] at h
    obtain ⟨hc, h⟩ := h
    have hc := calm_of hc
    split at h
    · rename_i xx pp1 e0 es0 pp2 pp3
      simp only [Bool.and_eq_true, decide_eq_true_eq] at h
      obtain ⟨h1, h2, h3, h4, h5⟩ := h
      have q := s_raise (p := pp1) (p2 := pp2) (p3 := pp3) G (F.ex hc X.pn X.xe) hc h1 h2 h3 h4 (sounds as c _ h5 G F.ko)
      rw [← G.ef] at q
      exact q
    · cases h
  | .pass, c, a, h, g, W, Z, X, G, F => by
    unfold chkS at h
    split at h
    · exact s_pass
    · cases h
  | .brk, c, a, h, g, W, Z, X, G, F => by
    unfold chkS at h
    split at h
    · exact s_brk
    · cases h
  | .cont, c, a, h, g, W, Z, X, G, F => by
    unfold chkS at h
    split at h
    · exact s_cont
    · cases h
  | .deeds rows di du fi k b hd, c, a, h, g, W, Z, X, G, F => by
    unfold chkS at h
    rw [Bool.and_eq_true, Bool.and_eq_true] at h
    obtain ⟨hdl, hc, h⟩ := h
    have hc := calm_of hc
    obtain ⟨LF, TF⟩ := F.lam hdl hc
    split at h
    · simp only [Bool.and_eq_true, decide_eq_true_eq] at h
      obtain ⟨h1, h2, h3, h4, h5, h6, h7, h8, h9, h10, h11, h12, h13, h14, h15, h16, h17, h18⟩ := h
      subst h3
      exact s_deeds G F.ko LF TF hc h1 (by unfold chkT chkTs chkT chkTs chkT chkTs; simp [h2, h4, h7, h8, notStar]) h14 h15 h16 h2 h9 h10 h5 h6 h11 h12 h13
        (fun W' pn xe G' => soundSs b c _ h17 G' F.tr) (fun g' Z' Y G' => soundSs hd _ _ h18 G' ⟨F.ko.of (G'.K.trans G.K.symm), fun z => (nomatch z), fun _ z => (nomatch z)⟩)
    · cases h
theorem soundSs {t : Tb} {L : Lk} {dl : Bool} : ∀ (ss : Sts) (c : Cc) (as : List Stmt), chkSs t dl ss c as = true → ∀ {g : Cfg} {W : WX} {Z : ZP} {X : Cx}, Good t L g W Z X c → SF t L g dl X c → PSs X as (tS L W Z fun env S => execs g ss env S)
  | .nil, c, as, h, g, W, Z, X, G, F => by
    unfold chkSs at h
    have e := List.isEmpty_iff.mp h
    subst e
    exact ss_nil
  | .cons s r, c, as, h, g, W, Z, X, G, F => by
    unfold chkSs at h
    split at h
    · rw [Bool.and_eq_true] at h
      exact ss_cons G (soundS s c _ h.1 G F) (soundSs r c _ h.2 G F)
    · cases h
end
end KF

set_option Elab.async false
set_option linter.all false
set_option maxRecDepth 100000
set_option maxHeartbeats 4000000
/-! V16: what a call leaves: new dicts are locked for good, the store is cut back -/
namespace KF
open PySem PySem.Spec PyProof.Rows L2 LamX
theorem pss_lkd {X : Cx} {ss : List Stmt} {t : TS} (h : PSs X ss t) : PSs X ss (fun D σ H => t { nx := fun σ' H' => Lkd (D.nx σ') H', rt := fun v H' => Lkd (D.rt v) H', bk := D.bk, ct := D.ct } σ H) := by
  refine ⟨fun pins s σ H D I hw => ?_⟩
  refine thn (h.run pins s σ H _ I hw) fun f s1 q => ?_
  cases f with
  | next =>
    obtain ⟨σ', H', I2, q⟩ := q
    obtain ⟨H'', I3, q⟩ := lkd_run q I2
    exact ⟨σ', H'', I3, q⟩
  | brk => exact q
  | cont => exact q
  | ret v =>
    obtain ⟨x, σ', H', I2, r, q⟩ := q
    obtain ⟨H'', I3, q⟩ := lkd_run q I2
    exact ⟨x, σ', H'', I3, r, q⟩
section
variable {L : Lk} {H H' : Hp} {m m' : Mp}
/-- a def's end, its outcome cut back -/
def endR : RS → R KF.D
  | .ret d S => .ok d S
  | .next _ S => .ok .non S
  | .exc c fs _ S => .exc c fs S
  | _ => .bad
theorem gc_ok {W : WX} {Z : ZP} {E : XK} {S : Store} {Q : VK} (hW : ∀ cls d σ H, E cls d H → W cls d σ H) (hs : RelS L H m S) : ∀ {r : RS}, Cont L (fun cls d _ H => E cls d H) [] (RelD L) Q H m (gcR S.length (endR r)) → ContS L W Z { nx := fun _ H' => Lkd (Q .non) H', rt := fun v H' => Lkd (Q v) H' } H m r
  | .ret d S', h => gc_end hs h
  | .next env S', h => fun H' m' σ' e s _ => gc_end hs h H' m' .non e s rfl
  | .exc c fs env S', h => fun H' m' σ' dx vs e s _ r1 r2 r3 r4 => by
    unfold endR gcR at h
    dsimp only at h
    split at h
    · exact hW _ _ _ _ (h H' m' dx vs e s r1 r2 r3 r4)
    · split at h
      · rename_i fs' h1 h2
        exact hW _ _ _ _ (h H' (m'.cut S.length) dx vs (cut_ext e hs.len.symm) (cut_S s h2) (frzs_ok (frz_ok s 64) _ _ _ h1 r1) r2 (cut_not r3) r4)
      · exact h.elim
  | .brk _ _, h => h.elim
  | .cont _ _, h => h.elim
  | .bad, h => h.elim
theorem ends_ok {W : WX} {Z : ZP} {E : XK} {Q : VK} (hW : ∀ cls d σ H, E cls d H → W cls d σ H) : ∀ {r : RS}, Cont L (fun cls d _ H => E cls d H) [] (RelD L) Q H m (endR r) → ContS L W Z { nx := fun _ H' => Lkd (Q .non) H', rt := fun v H' => Lkd (Q v) H' } H m r
  | .ret _ _, h => fun H' m' v e s r => .here (h H' m' v e s r)
  | .next env S, h => fun H' m' σ' e s _ => .here (h H' m' .non e s rfl)
  | .exc _ _ _ _, h => fun H' m' σ' dx vs e s _ r1 r2 r3 r4 => hW _ _ _ _ (h H' m' dx vs e s r1 r2 r3 r4)
  | .brk _ _, h => h.elim
  | .cont _ _, h => h.elim
  | .bad, h => h.elim
end
end KF

set_option Elab.async false
set_option linter.all false
set_option maxRecDepth 100000
set_option maxHeartbeats 4000000
/-! V17: defs, their table, errors' classes -/
namespace KF
open PySem PySem.Spec PyProof.Rows L2 LamX
/-- a def: its name, parameters, names, body; dl: deeds among it; gc: what it leaves is cut back -/
structure Df where
  x : Str
  n : Nat
  N : List Str
  b : Sts
  dl : Bool := false
  gc : Bool := true
structure Lw where
  t : Tb
  defs : List Df
  ef : Nat → List Str
  glob : Nat → Option D
  sub : Nat → Nat → Bool
  cf : Nat → List Str
  mth : Nat → Str → Option Nat
  fuel : Nat
  fzc : Nat → Bool
def startE (N : List Str) (ds : List D) : KF.Env := ds.map some ++ List.replicate (N.length - ds.length) none
def cfgN (w : Lw) (call : Nat → List D → Store → R D) : Cfg := ⟨call, w.glob, w.ef, none, w.sub, w.cf, w.mth, w.fuel, w.fzc⟩
def runD (g : Cfg) (d : Df) (ds : List D) (S : Store) : R D := if ds.length = d.n then (if d.gc = true then gcR S.length (endR (execs g d.b (startE d.N ds) S)) else endR (execs g d.b (startE d.N ds) S)) else .bad
def callN (w : Lw) : Nat → Nat → List D → Store → R D
  | 0, _, _, _ => .bad
  | k + 1, f, ds, S => match w.defs[f]? with
    | some d => if d.gc = true ∧ lows 0 ds = true then frR S (runD (cfgN w (callN w k)) d ds []) else runD (cfgN w (callN w k)) d ds S
    | none => .bad
/-! ### an error's class: its __init__ -/
def oexB (K : PySem.W.Frag) (C : Addr) : Bool := (match K.lookup C with
  | some ⟨.type "type", _, .cls cd, sl⟩ => (match cd.mro, sl.toList with
    | .ref C' :: bm, [_, _, _, _, some (.builtin n), _] => C' == C && (n == "ValueError.__new__" && (!cd.hasDel && (cd.hasDict && PySem.HandSPX.refsVE bm)))
    | _, _ => false)
  | _ => false) && (decide (PySem.W.findIn K (.ref C) "__setattr__" = some (some (.builtin "object.__setattr__"))) && (decide (PySem.W.subIn K (.ref C) (.type "BaseException") = some true) && (decide (PySem.W.typeIn K (.ref C) = some (.type "type")) && PySem.W.keepIn K (.ref C))))
theorem oexB_ok {K : PySem.W.Frag} {C : Addr} (h : oexB K C = true) : OexC K C := by
  unfold oexB at h
  simp only [Bool.and_eq_true, decide_eq_true_eq] at h
  obtain ⟨h0, h1, h2, h3, h4⟩ := h
  refine ⟨?_, h1, h2, h3, h4⟩
  split at h0
  · rename_i dd cd sl ho
    split at h0
    · rename_i C' bm k0 k1 k2 k3 n k5 hm hs
      simp only [Bool.and_eq_true, beq_iff_eq, Bool.not_eq_true'] at h0
      obtain ⟨rfl, rfl, hdel, hd, ht⟩ := h0
      obtain ⟨nm, bs, mro, ns, qn, hd', sn, sub, ab, col, del⟩ := cd
      dsimp only at hm hdel hd
      subst hm hdel hd
      have hsl : sl = #[k0, k1, k2, k3, some (.builtin "ValueError.__new__"), k5] := by
        obtain ⟨l⟩ := sl
        simp only at hs
        rw [hs]
      subst hsl
      exact ⟨nm, qn, ns, bs, bm, sn, sub, ab, col, dd, k0, k1, k2, k3, k5, ho, ht⟩
    · cases h0
  · cases h0
/-- what its __init__ does -/
def spI (K : PySem.W.Frag) (C : Addr) (ns : List Str) : Sp := fun vs H Q E => ∃ a ws, vs = .ref a :: ws ∧ ws.length = ns.length ∧ H a = some (exo a C none) ∧ ∀ d, H d = none → d ≠ a → Q .non (upd (upd H d (exd d (ns.zip ws).reverse)) a (exo a C (some d)))
structure ExcC (P : Program) (wo : World) (K : PySem.W.Frag) (mg : Str → Option Value) (base : Heap) (x : Str) (C : Addr) (ns : List Str) : Prop where
  glo : mg x = some (.ref C)
  oe : OexC K C
  xf : XfC K C
  no : ∀ f ∈ ns, PySem.W.findIn K (.ref C) f = some none
  ini : ∃ (fI : Addr) (fd : FuncData) (ps : List Str), PySem.W.findIn K (.ref C) "__init__" = some (some (.ref fI)) ∧ PySem.W.typeIn K (.ref fI) = some (.type "function") ∧ FnOk P wo K mg base (L2.CX P wo) 1 fI fd ps (spI K C ns) ∧ Binds K fd ps []
theorem upd_del {H1 : Hp} {a d C : Addr} {fs : List (Str × V)} (ha : H1 a = none) (hd : d ≠ a) :
    upd (del (upd (upd (upd H1 a (exo a C none)) d (exd d fs)) a (exo a C (some d))) a) d (.xd fs) = upd H1 d (.xd fs) := by
  funext b
  by_cases hb : b = d
  · rw [hb, upd_same, upd_same]
  · rw [upd_ne hb, upd_ne hb]
    by_cases hba : b = a
    · rw [hba, del_same, ha]
    · rw [del_ne hba, upd_ne hba, upd_ne hb, upd_ne hba]
theorem passesF {X : Cx} : Passes (L2.CX X.prog X.w) X (fun _ _ _ => False) := fun _ _ _ _ _ _ _ h => by
  obtain ⟨_, _, _, _, _, _, _, _, _, _, _, _, z⟩ := h
  exact z.elim
theorem PA.weak {X : Cx} {es : List Expr} {t : TA} (h : PA X es t) : PA X es (fun σ H Q' => ∃ Q0 : List V → Hp → Prop, t σ H Q0 ∧ ∀ vs H1, Q0 vs H1 → Q' vs H1) :=
  ⟨fun pos pins s σ H Q I ⟨Q0, h1, h2⟩ => thn (h.run pos pins s σ H Q0 I h1) fun us s' ⟨vs, H', I', r, q⟩ => ⟨vs, H', I', r, h2 vs H' q⟩⟩
theorem exc_ok {X : Cx} (hr : Room 2 X.A) {x : Str} {C : Addr} {ns : List Str} (hz : ns.length ≤ 1000) (E : ExcC X.prog X.w X.K X.mg X.base x C ns) {e : Expr} {es : List Expr} {p p2 : Pos} {ta : TA} (hg : Gl X x) (hdb : (x == ("__debug__" : Str)) = false) (hn : (e :: es).all notStar = true) (ha : PA X (e :: es) ta) :
    PMk X (.Call (.Name x p) (e :: es) [] p2) (fun σ H Q => ta σ H fun vs H1 => vs.length = ns.length ∧ ∀ d, H1 d = none → Q (.ref C) (some d) (upd H1 d (.xd (ns.zip vs).reverse))) := by
  obtain ⟨fI, fd, ps, i1, i2, i3, i4⟩ := E.ini
  rw [List.all_cons, Bool.and_eq_true] at hn
  intro pins s σ H Q I h
  refine pmk_oex (pos := p2) (p := p) E.oe i1 i2 i3 hr i4 .nil passesF hg E.glo (PA.weak ha) hdb (star_cons hn.1) (star_any hn.2) pins s σ H Q I ?_
  exact ⟨_, h, fun vs H1 ⟨hl, q⟩ => ⟨by omega, fun a ha => ⟨a, vs ++ [], rfl, by rw [List.append_nil]; exact hl, upd_same, fun d hd hda => ⟨rfl, d, _, upd_same, by rw [upd_ne hda, upd_same], by rw [upd_ne hda] at hd; exact hd, by
      rw [List.append_nil, upd_del ha hda]
      exact q d (by rw [upd_ne hda] at hd; exact hd)⟩⟩⟩⟩
section
variable {P : Program} {wo : World} {K : PySem.W.Frag} {mg : Str → Option Value} {base : Heap}
def isPut (f x : Str) : Stmt → Bool
  | .Assign [.Attribute (.Name s _) g _] (.Name y _) _ => decide (s = "self") && (decide (g = f) && decide (y = x))
  | _ => false
theorem isPut_ok {f x : Str} {st : Stmt} (h : isPut f x st = true) : ∃ p1 p2 p3 p4, st = .Assign [.Attribute (.Name "self" p1) f p2] (.Name x p3) p4 := by
  unfold isPut at h
  split at h
  · simp only [Bool.and_eq_true, decide_eq_true_eq] at h
    obtain ⟨rfl, rfl, rfl⟩ := h
    exact ⟨_, _, _, _, rfl⟩
  · cases h
theorem ini_var {X : Cx} {i : Nat} {x : Str} {p : Pos} (hN : X.N[i]? = some x) (hv : X.env.scope.names.lookup x = some .local) (hd : dunB x = true) : PE X (.Name x p) (tVar i) := by
  unfold dunB at hd
  simp only [Bool.and_eq_true, Bool.not_eq_true'] at hd
  exact pe_var hN (.inl hv) hd.1 hd.2
def locs (ps : List Str) (sc : Scope) : Bool := ps.all fun x => decide (sc.names.lookup x = some .local) && dunB x
theorem ini1 {x q : Str} {pa : Arguments} {b : List Stmt} {sc : Scope} {dvs : List V} {kws : List (Str × V)} {fI : Addr} {fd : FuncData} {C : Addr} {f y : Str} (F : FunD K x q pa b sc dvs kws fI fd) (S : FnScope ["self", y] ["self", y] sc) (hl : locs ["self", y] sc = true) (O : OexC K C) (hno : PySem.W.findIn K (.ref C) f = some none) {s1 : Stmt} (hb : b = [s1]) (h1 : isPut f y s1 = true) :
    FnOk P wo K mg base (L2.CX P wo) 1 fI fd ["self", y] (spI K C [f]) := by
  subst hb
  obtain ⟨p1, p2, p3, p4, rfl⟩ := isPut_ok h1
  unfold locs at hl
  simp only [List.all_cons, List.all_nil, Bool.and_true, Bool.and_eq_true, decide_eq_true_eq] at hl
  obtain ⟨⟨l1, l2⟩, l3, l4⟩ := hl
  refine F.ok S (fun vs H Q E h => ?_) fun cdv A outer s H vs Q E hr h => ⟨_, pss_one (ps_ost (ini_var (i := 0) rfl l1 l2) (ini_var (i := 1) rfl l3 l4) rfl), ?_⟩
  · obtain ⟨a, ws, rfl, e, _⟩ := h
    rw [List.length_cons, e]; rfl
  · obtain ⟨a, ws, rfl, e, hA, hq⟩ := h
    match ws, e with
    | [w0], _ => exact ⟨w0, rfl, .ref a, rfl, a, C, rfl, O, hno, .inl ⟨hA, fun dx h1 h2 => hq dx h1 h2⟩⟩
theorem ini2 {x q : Str} {pa : Arguments} {b : List Stmt} {sc : Scope} {dvs : List V} {kws : List (Str × V)} {fI : Addr} {fd : FuncData} {C : Addr} {f1 f2 y1 y2 : Str} (F : FunD K x q pa b sc dvs kws fI fd) (S : FnScope ["self", y1, y2] ["self", y1, y2] sc) (hl : locs ["self", y1, y2] sc = true) (O : OexC K C)
    (hno1 : PySem.W.findIn K (.ref C) f1 = some none) (hno2 : PySem.W.findIn K (.ref C) f2 = some none) {s1 s2 : Stmt} (hb : b = [s1, s2]) (h1 : isPut f1 y1 s1 = true) (h2 : isPut f2 y2 s2 = true) :
    FnOk P wo K mg base (L2.CX P wo) 1 fI fd ["self", y1, y2] (spI K C [f1, f2]) := by
  subst hb
  obtain ⟨p1, p2, p3, p4, rfl⟩ := isPut_ok h1
  obtain ⟨r1, r2, r3, r4, rfl⟩ := isPut_ok h2
  unfold locs at hl
  simp only [List.all_cons, List.all_nil, Bool.and_true, Bool.and_eq_true, decide_eq_true_eq] at hl
  obtain ⟨⟨l1, l2⟩, ⟨l3, l4⟩, l5, l6⟩ := hl
  refine F.ok S (fun vs H Q E h => ?_) fun cdv A outer s H vs Q E hr h => ⟨_, pss_cons (ps_ost (ini_var (i := 0) rfl l1 l2) (ini_var (i := 1) rfl l3 l4) rfl) (pss_one (ps_ost (ini_var (i := 0) rfl l1 l2) (ini_var (i := 2) rfl l5 l6) rfl)), ?_⟩
  · obtain ⟨a, ws, rfl, e, _⟩ := h
    rw [List.length_cons, e]; rfl
  · obtain ⟨a, ws, rfl, e, hA, hq⟩ := h
    match ws, e with
    | [w0, w1], _ =>
      refine ⟨w0, rfl, .ref a, rfl, a, C, rfl, O, hno1, .inl ⟨hA, fun dx h1 h2 => ?_⟩⟩
      refine ⟨w1, rfl, .ref a, rfl, a, C, rfl, O, hno2, .inr ⟨dx, [(f1, w0)], upd_same, by rw [upd_ne h2, upd_same], by simp, ?_⟩⟩
      have e : upd (upd (upd H dx (exd dx [(f1, w0)])) a (exo a C (some dx))) dx (exd dx [(f2, w1), (f1, w0)]) = upd (upd H dx (exd dx [(f2, w1), (f1, w0)])) a (exo a C (some dx)) := by
        funext b
        by_cases hb : b = dx
        · rw [hb, upd_same, upd_ne h2, upd_same]
        · rw [upd_ne hb]
          by_cases hba : b = a
          · rw [hba, upd_same, upd_same]
          · rw [upd_ne hba, upd_ne hb, upd_ne hba, upd_ne hb]
      show Q .non (upd (upd (upd H dx (exd dx [(f1, w0)])) a (exo a C (some dx))) dx (exd dx [(f2, w1), (f1, w0)]))
      rw [e]
      exact hq dx h1 h2
end
/-! ### defs -/
/-- one def's text and its IR -/
structure DfOk (w : Lw) (d : Df) (ar : Arguments) (b : List Stmt) (sc : Scope) : Prop where
  scp : FnScope d.N (d.N.take d.n) sc
  len : (d.N.take d.n).length = d.n
  chk : chkSs w.t d.dl d.b ⟨d.N, sc, none, none⟩ b = true
  bind : ∀ (x q : Str) (kV doc pm : Value) (an : Option Addr) (cdv ct : Value) (us : List Value), us.length = d.n → bindArgs (PySem.W.fnOf x q ar b sc .none kV doc pm an cdv ct) ⟨us, []⟩ = pure ((d.N.take d.n).zip us)
/-- the def number f stands at a -/
def DAt (w : Lw) (L : Lk) (mg : Str → Option Value) (base : Heap) (f : Nat) (a : Addr) : Prop := ∃ (fd : FuncData) (d : Df) (ar : Arguments) (b : List Stmt) (sc : Scope) (x q : Str), w.defs[f]? = some d ∧ DfOk w d ar b sc ∧ FunD L.K x q ar b sc [] [] a fd ∧
    (d.dl = true → ∃ cc Pt, fd.code = .ref cc ∧ TabB base mg cc Pt ∧ (Pt, q ++ ".<locals>." ++ "<lambda>") ∈ L.T ∧ ∀ p ∈ L.T, p.1 = Pt → p.2 = q ++ ".<locals>." ++ "<lambda>")
/-- what stands at the head -/
structure Wd (w : Lw) (L : Lk) (P : Program) (wo : World) (mg : Str → Option Value) (base : Heap) : Prop where
  ef : w.ef = L.ef
  cf : w.cf = L.cf
  efl : ∀ k, (L.ef k).length ≤ 1000
  free : ∀ x ∈ w.t.blt, mg x = none
  glob : ∀ k x d, w.t.glN[k]? = some x → w.glob k = some d → ∃ v u, mg x = some u ∧ RelV v u ∧ ∀ H m, RelD L H m d v
  exn : ∀ (k : Nat) (x : Str), w.t.exN[k]? = some x → ExcC P wo L.K mg base x (L.ea k) (L.ef k)
  sub : ∀ j k, w.sub j k = true → (∃ x, w.t.exN[j]? = some x) ∧ PySem.W.exmOne L.K (.ref (L.ea j)) (.ref (L.ea k)) = some true
  fn : ∀ (f : Nat) (x : Str) (n : Nat), w.t.fnN[f]? = some (x, n) → ∃ a, mg x = some (.ref a) ∧ DAt w L mg base f a
  mth : ∀ k m f, w.mth k m = some f → k < w.t.clN.length ∧ m ∉ L.cf k ∧ ∃ a, Meth L.K (L.ca k) m a ∧ DAt w L mg base f a
  cls : ∀ k x, w.t.clN[k]? = some x → mg x = some (.ref (L.ca k)) ∧ ClsOk L.K (L.ca k) (L.cf k)
  nf : ∀ k k', k < w.t.clN.length → k' < w.t.clN.length → PySem.W.notFirst L.K (L.ca k) (.ref (L.ca k')) = true
  big : ∀ k, w.t.clN.length ≤ k → L.cf k = []
  own : ∀ k k', k < w.t.clN.length → k' < w.t.clN.length → PySem.W.kitOne L.K (.ref (L.ca k)) (.ref (L.ca k')) = some (k' == k)
  bas : ∀ k, k < w.t.clN.length → ∀ y : Ty, (∀ k', y ≠ .cls k') → PySem.W.kitOne L.K (.ref (L.ca k)) (.type y.ts) = some false
  bis : ∀ k, k < w.t.clN.length → ∀ T ∈ ["NoneType", "bool", "int", "str", "tuple", "list", "dict"], PySem.W.kitOne L.K (.type T) (.ref (L.ca k)) = some false
/-- what a def at a keeps, k calls deep -/
def DefOk (w : Lw) (L : Lk) (P : Program) (wo : World) (mg : Str → Option Value) (base : Heap) (k f : Nat) (a : Addr) : Prop := ∃ (fd : FuncData) (d : Df), w.defs[f]? = some d ∧ PySem.W.keepIn L.K (.ref a) = true ∧ Binds L.K fd (d.N.take d.n) [] ∧ (d.N.take d.n).length = d.n ∧ (∃ oc od osl, L.K.lookup a = some ⟨oc, od, .func fd, osl⟩) ∧
  FnOk P wo L.K mg base (L2.CX P wo) (4 * k + 1) a fd (d.N.take d.n) (spC L d.n (callN w k f)) ∧ ∀ ds S, ds.length ≠ d.n → callN w k f ds S = .bad
section
variable {w : Lw} {L : Lk} {P : Program} {wo : World} {mg : Str → Option Value} {base : Heap}
theorem startE_rel {H : Hp} {m : Mp} {N : List Str} {ds : List D} {vs : List V} (hT : m.T = L.T) (r : RelDs L H m ds vs) : RelE L (fun _ _ _ => True) H m (startE N ds) (L2.start N vs) := by
  have hl := r.length
  refine ⟨?_, fun i d h => ?_, trivial, hT⟩
  · unfold startE L2.start
    rw [List.length_append, List.length_append, List.length_map, List.length_map, List.length_replicate, List.length_replicate, hl]
  · unfold startE at h
    by_cases hi : i < ds.length
    · rw [List.getElem?_append_left (by rw [List.length_map]; exact hi), List.getElem?_map, List.getElem?_eq_getElem hi] at h
      cases h
      obtain ⟨v, e1, rv⟩ := r.get (List.getElem?_eq_getElem hi)
      refine ⟨v, ?_, rv⟩
      unfold L2.start
      rw [List.getElem?_append_left (by rw [List.length_map, hl]; exact hi), List.getElem?_map, e1]
      rfl
    · rw [List.getElem?_append_right (by rw [List.length_map]; omega), List.getElem?_replicate] at h
      split at h <;> cases h
theorem callN_len {k f : Nat} {d : Df} (hd : w.defs[f]? = some d) : ∀ ds S, ds.length ≠ d.n → callN w k f ds S = .bad := by
  intro ds S h
  cases k with
  | zero => rfl
  | succ k =>
    unfold callN
    rw [hd]
    show (if d.gc = true ∧ lows 0 ds = true then frR S (runD (cfgN w (callN w k)) d ds []) else runD (cfgN w (callN w k)) d ds S) = .bad
    unfold runD
    rw [if_neg h, if_neg h]
    split <;> rfl
theorem def_step (D : Wd w L P wo mg base) (k : Nat) (ih : ∀ f a, DAt w L mg base f a → DefOk w L P wo mg base k f a) : ∀ f a, DAt w L mg base f a → DefOk w L P wo mg base (k + 1) f a := by
  intro f a hA
  obtain ⟨fd, d, ar, b, sc, x, q, e2, O, F, hlam⟩ := hA
  have F' := F
  obtain ⟨oc, od, dV, kV, doc, pm, an, cdv, ct, osl, hfd, lk, hcd, hdf, _⟩ := F.ex
  subst hfd
  refine ⟨_, d, e2, F.kp, F'.bindsN (fun kV doc pm an cdv ct us hl => O.bind x q kV doc pm an cdv ct us (by rw [hl, O.len])), O.len, ⟨oc, od, osl, lk⟩, ?_, callN_len e2⟩
  refine (fn_of (k := 4 * k + 4) lk hcd O.scp (fun vs H Q E h => by rw [O.len]; exact h.1) fun A outer s H vs Q E hr h => ?_)
  obtain ⟨hlen, ds, S, m, hT, hS, hD, hC⟩ := h
  have un := hr.un
  have co : ∀ {j} {f' : Nat} {a' : Addr}, j ≤ 3 → DAt w L mg base f' a' → ∃ (fd : FuncData) (ps : List Str) (k' n : Nat), PySem.W.keepIn L.K (.ref a') = true ∧ Binds L.K fd ps [] ∧ ps.length = n ∧ Room (k' + j) (A.deeper (envOfC q sc s.heap.objs.size a cdv)) ∧ FnOk P wo L.K mg base (L2.CX P wo) k' a' fd ps (spC L n (callN w k f')) ∧ ∀ ds S, ds.length ≠ n → callN w k f' ds S = .bad := fun hj h' => by
    obtain ⟨fd', d', g1, g2, g3, g4, _, g5, g6⟩ := ih _ _ h'
    exact ⟨fd', _, 4 * k + 1, d'.n, g2, g3, g4, hr.mono (by omega), g5, g6⟩
  have G : Good w.t L (cfgN w (callN w k)) (fun cls d _ H => E cls d H) (fun _ _ _ => True) (cxOf (L2.CX P wo) P wo L.K mg base d.N q sc a cdv A outer s H E) ⟨d.N, sc, none, none⟩ :=
    { K := rfl, N := rfl, nd := O.scp.nd, sc := rfl, fn := fun _ _ => rfl, un := by show (A.deeper (envOfC q sc s.heap.objs.size a cdv)).units + 140 < cLine; omega, free := D.free, glob := D.glob, tk := takes_of rfl rfl rfl rfl, po := passes_of rfl, ef := D.ef, cf := D.cf, zm := fun _ _ _ _ _ _ _ => trivial, calm := fun _ => rfl, zt := fun _ _ _ _ => trivial,
      call := fun _ f' x' n' h' => by
        obtain ⟨a', g1, g2⟩ := D.fn f' x' n' h'
        exact ⟨a', g1, co (by omega) g2⟩
      mth := fun kc mm f' h' => by
        obtain ⟨g1, g2, a', g3, g4⟩ := D.mth kc mm f' h'
        exact ⟨g1, g2, a', g3, co (by omega) g4⟩
      cls := D.cls
      nf := D.nf
      big := D.big
      suite := fun i h => by cases h }
  have SFx : SF w.t L (cfgN w (callN w k)) d.dl (cxOf (L2.CX P wo) P wo L.K mg base d.N q sc a cdv A outer s H E) ⟨d.N, sc, none, none⟩ := by
    refine ⟨⟨D.own, D.bas, D.bis⟩, fun _ pn xe => ?_, fun hdl _ => ⟨?_, ?_⟩⟩
    · intro j x' hj e es p p2 ta hg hdb hn ha
      exact exc_ok (hr.mono (by omega)) (D.efl j) (D.exn j x' hj) hg hdb hn ha
    · obtain ⟨cc, Pt, h1, h2, h3, h4⟩ := hlam hdl
      refine ⟨⟨cc, Pt, h1, h2, h3, h4⟩, rfl, rfl, hr.mono (by omega), fun f' x' n' h' => ?_, fun kc mm f' h' => ?_⟩
      · obtain ⟨a', g1, g2⟩ := D.fn f' x' n' h'
        exact ⟨a', g1, co (by omega) g2⟩
      · obtain ⟨g1, g2, a', g3, g4⟩ := D.mth kc mm f' h'
        exact ⟨a', g3, co (by omega) g4⟩
    · refine ⟨fun j x' h' => (D.exn j x' h').glo, fun j k h' => ?_⟩
      obtain ⟨⟨x', hx'⟩, h2⟩ := D.sub j k h'
      exact ⟨h2, (D.exn j x' hx').xf, (D.exn j x' hx').no⟩
  have e : callN w (k + 1) f ds S = if d.gc = true ∧ lows 0 ds = true then frR S (runD (cfgN w (callN w k)) d ds []) else runD (cfgN w (callN w k)) d ds S := by
    unfold callN
    rw [e2]
  have hC : Cont L (fun cls d _ H => E cls d H) [] (RelD L) Q H m (callN w (k + 1) f ds S) := hC
  rw [e] at hC
  obtain ⟨S, m, hT, hS, hD, hC⟩ : ∃ (S : Store) (m : Mp), m.T = L.T ∧ RelS L H m S ∧ RelDs L H m ds vs ∧ Cont L (fun cls d _ H => E cls d H) [] (RelD L) Q H m (runD (cfgN w (callN w k)) d ds S) := by
    split at hC
    · rename_i hg
      refine ⟨[], m.shut, hT, shut_S hS, shut_Ds ds vs hg.2 hD, fr_cont hS ?_ hC⟩
      unfold runD
      split
      · rw [if_pos hg.1]
        exact gc_emp
      · trivial
    · exact ⟨S, m, hT, hS, hD, hC⟩
  refine ⟨_, pss_lkd (soundSs d.b ⟨d.N, sc, none, none⟩ b O.chk G SFx), startE d.N ds, S, m, startE_rel hT hD, hS, ?_⟩
  unfold runD at hC
  rw [if_pos (by rw [← hD.length]; exact hlen)] at hC
  split at hC
  · exact gc_ok (fun _ _ _ _ h => h) hS hC
  · exact ends_ok (fun _ _ _ _ h => h) hC
theorem def_all (D : Wd w L P wo mg base) : ∀ k f a, DAt w L mg base f a → DefOk w L P wo mg base k f a
  | 0 => fun f a hA => by
    obtain ⟨fd, d, ar, b, sc, x, q, e2, O, F, hlam⟩ := hA
    refine ⟨_, d, e2, F.kp, F.bindsN (fun kV doc pm an cdv ct us hl => O.bind x q kV doc pm an cdv ct us (by rw [hl, O.len])), O.len, (by obtain ⟨oc, od, dV, kV, doc, pm, an, cdv, ct, osl, hfd, lk, hcd, hdf, _⟩ := F.ex; exact ⟨oc, od, osl, lk⟩), ⟨fun vs H Q E h => by rw [O.len]; exact h.1, fun A outer s H args us vs Q E _ _ _ _ h => ?_⟩, callN_len e2⟩
    obtain ⟨_, ds, S, m, _, _, _, hC⟩ := h
    exact hC.elim
  | k + 1 => def_step D k (def_all D k)
end
end KF

set_option Elab.async false
set_option linter.all false
set_option maxRecDepth 100000
set_option maxHeartbeats 4000000
/-! V18: from the head's facts to the law's promise -/
namespace KF
open PySem PySem.Spec PyProof.Rows L2 LamX
/-- an error's class: its name, its fields, its __init__'s statement -/
structure Xc where
  x : Str
  fs : List Str
  st : Stmt
/-- a class: its name, its fields, its methods' numbers -/
structure Kc where
  x : Str
  fs : List Str
  ms : List (Str × Nat)
  fz : Bool
/-- a law's text: defs and where they stand, methods (of which class), errors' classes, constants, builtins, which class is under which, classes -/
structure Tx where
  defs : List (Df × Stmt)
  mts : List (Df × Str × Stmt)
  exs : List Xc
  gls : List (Str × D)
  blt : List Str
  subs : List (Nat × Nat)
  cls : List Kc
  fuel : Nat
def Tx.allp (t : Tx) : List (Df × Stmt) := t.defs ++ t.mts.map fun p => (p.1, p.2.2)
def kcOf : List Kc → Nat → Kc
  | [], _ => ⟨"", [], [], false⟩
  | e :: _, 0 => e
  | _ :: r, k + 1 => kcOf r k
theorem kcOf_get : ∀ {l : List Kc} {k : Nat} {e : Kc}, l[k]? = some e → kcOf l k = e
  | [], _, _, h => by simp at h
  | e :: _, 0, _, h => by simp at h; subst h; rfl
  | _ :: r, k + 1, _, h => kcOf_get (l := r) (by simpa using h)
theorem kcOf_big : ∀ {l : List Kc} {k : Nat}, l.length ≤ k → kcOf l k = ⟨"", [], [], false⟩
  | [], _, _ => rfl
  | e :: _, 0, h => by simp at h
  | _ :: r, k + 1, h => kcOf_big (l := r) (by simpa using h)
def msLook (m : Str) : List (Str × Nat) → Option Nat
  | [] => none
  | (g, f) :: r => if m = g then some f else msLook m r
theorem msLook_mem {m : Str} {f : Nat} : ∀ {l : List (Str × Nat)}, msLook m l = some f → (m, f) ∈ l
  | [], h => by cases h
  | (g, f') :: r, h => by
    unfold msLook at h
    split at h
    · rename_i e
      cases h
      rw [e]; exact List.mem_cons_self
    · exact List.mem_cons_of_mem _ (msLook_mem h)
def efOf : List Xc → Nat → List Str
  | [], _ => []
  | e :: _, 0 => e.fs
  | _ :: r, k + 1 => efOf r k
def glOf : List (Str × D) → Nat → Option D
  | [], _ => none
  | e :: _, 0 => some e.2
  | _ :: r, k + 1 => glOf r k
def nmOf : List Xc → Nat → Str
  | [], _ => ""
  | e :: _, 0 => e.x
  | _ :: r, k + 1 => nmOf r k
theorem efOf_get : ∀ {l : List Xc} {k : Nat} {e : Xc}, l[k]? = some e → efOf l k = e.fs ∧ nmOf l k = e.x
  | [], _, _, h => by simp at h
  | e :: _, 0, _, h => by simp at h; subst h; exact ⟨rfl, rfl⟩
  | _ :: r, k + 1, _, h => efOf_get (l := r) (by simpa using h)
theorem glOf_get : ∀ {l : List (Str × D)} {k : Nat} {x : Str} {d : D}, (l.map (·.1))[k]? = some x → glOf l k = some d → (x, d) ∈ l
  | [], _, _, _, h, _ => by simp at h
  | e :: _, 0, _, _, h, h2 => by
    simp at h; subst h
    cases h2
    exact List.mem_cons_self
  | _ :: r, k + 1, _, _, h, h2 => List.mem_cons_of_mem _ (glOf_get (l := r) (by simpa using h) h2)
def Tx.w (t : Tx) : Lw := ⟨⟨t.defs.map fun d => (d.1.x, d.1.n), t.exs.map (·.x), t.gls.map (·.1), t.blt, t.cls.map (·.x)⟩, t.allp.map (·.1), efOf t.exs, glOf t.gls, fun j k => t.subs.contains (j, k), fun k => (kcOf t.cls k).fs, fun k m => msLook m (kcOf t.cls k).ms, t.fuel, fun k => (kcOf t.cls k).fz⟩
/-- each class's methods stand where they should -/
def mOk (t : Tx) : Bool := t.cls.all (fun c => c.ms.all fun p => decide (t.defs.length ≤ p.2) && (!(c.fs.contains p.1) && (match t.mts[p.2 - t.defs.length]? with
  | some (d, c', _) => decide (c' = c.x) && (decide (d.x = p.1) && !d.dl)
  | none => false)))
def D.dv : D → Option He.Dv
  | .non => some .non
  | .bl b => some (.bl b)
  | .int i => some (.int i)
  | .str x => some (.str x)
  | _ => none
def dvs : List D → Option (List He.Dv)
  | [] => some []
  | d :: r => match d.dv, dvs r with
    | some v, some vs => some (v :: vs)
    | _, _ => none
theorem dvs_rel {L : Lk} {K : PySem.W.Frag} {H : Hp} {m : Mp} : ∀ {ds : List D} {vs : List He.Dv}, dvs ds = some vs → RelDs L H m ds (vs.map (He.Dv.v K))
  | [], _, h => by cases h; rfl
  | d :: r, vs, h => by
    unfold dvs at h
    split at h
    · rename_i v us h1 h2
      cases h
      refine ⟨_, _, rfl, ?_, dvs_rel h2⟩
      cases d <;> first | (cases h1; rfl) | cases h1
    · cases h
def glChk (K : PySem.W.Frag) (x : Str) : D → Bool
  | .int i => (He.Fa.int x i).ok K
  | .str z => (He.Fa.str x z).ok K
  | .tup ds => (He.Fa.glo x).ok K && (match dvs ds with
    | some vs => He.tupB K x vs
    | none => false)
  | _ => false
theorem glChk_ok {L : Lk} {K : PySem.W.Frag} (hL : L.K = K) {h : Heap} {mg : Str → Option Value} (X : K.In h) (G : h.Ns mainGlobals mg) {x : Str} {d : D} (c : glChk K x d = true) : ∃ v u, mg x = some u ∧ RelV v u ∧ ∀ H m, RelD L H m d v := by
  subst hL
  cases d <;> try (cases c; done)
  · obtain ⟨t, e⟩ := He.int_ok X G (show (He.Fa.int x _).ok L.K = true from c)
    exact ⟨.int _, _, e, ⟨t, rfl⟩, fun _ _ => rfl⟩
  · obtain ⟨t, e⟩ := He.str_ok X G (show (He.Fa.str x _).ok L.K = true from c)
    exact ⟨.str _, _, e, ⟨t, rfl⟩, fun _ _ => rfl⟩
  · rename_i ds
    unfold glChk at c
    rw [Bool.and_eq_true] at c
    obtain ⟨c1, c2⟩ := c
    split at c2
    · rename_i vs hv
      refine ⟨.ref (He.ga L.K x), _, He.glo_ok X G c1, rfl, fun H m => ⟨He.ga L.K x, _, rfl, .inr ?_, dvs_rel (K := L.K) hv⟩⟩
      rcases He.tupB_ok c2 (fun _ => none) with z | z
      · rcases z with z | ⟨_, z⟩ <;> cases z
      · exact z
    · cases c2
/-- no lists in what is looked at -/
def noLst (K : PySem.W.Frag) : Bool := K.all fun p => match p.2 with
  | ⟨.type c, _, .seq _ _, _⟩ => !(c == "list")
  | _ => true
theorem noLst_ok {K : PySem.W.Frag} (h : noLst K = true) {H : Hp} {a : Addr} {xs : List V} (s : SqL K H a xs) : Rd H a (.lst xs) := by
  rcases s with s | ⟨o, its, n, e1, e2, _, e3, _⟩
  · exact s
  · have q := List.all_eq_true.mp h _ (He.lookup_mem e1)
    obtain ⟨oc, od, dt, sl⟩ := o
    cases e2
    cases e3
    simp at q
def xcChk (K : PySem.W.Frag) (e : Xc) : Bool := oexB K (He.ga K e.x) && (xfB K (He.ga K e.x) && (e.fs.all (fun f => decide (PySem.W.findIn K (.ref (He.ga K e.x)) f = some none)) && (decide (e.fs.length ≤ 1000) && (decide (PySem.W.findIn K (.ref (He.ga K e.x)) "__init__" = some (some (.ref (He.ma K (He.ga K e.x) "__init__")))) &&
  decide (PySem.W.typeIn K (.ref (He.ma K (He.ga K e.x) "__init__")) = some (.type "function"))))))
/-- a class, as it stands -/
def kcChk (K : PySem.W.Frag) (e : Kc) : Bool := (He.Fa.cls e.x).ok K && (e.fs.all (fun f => (He.Fa.noat e.x f).ok K) && (decide (e.fs.length < 900) && (decide e.fs.Nodup && (PySem.W.makesIn K (He.ga K e.x) && (PySem.W.keepIn K (.ref (He.ga K e.x)) &&
  (decide (PySem.W.findIn K (.ref (He.ga K e.x)) "__class__" = some (some (.builtin "object.__class__"))) && (decide (PySem.W.specialIn K (.builtin "object.__class__") "__get__" = some (some (.builtin "getset_descriptor.__get__"))) && (decide (PySem.W.takesIn K (.builtin "object.__class__") = some true) &&
  (decide (PySem.W.mroIn K (He.ga K e.x) (.type "object") = some true) && (decide (PySem.W.findIn K (.ref (He.ga K e.x)) "__ne__" = some (some (.builtin "object.__ne__"))) && e.ms.all fun p => (He.Fa.meth e.x p.1).ok K))))))))))
def tyNs : List String := ["NoneType", "bool", "int", "str", "tuple", "list", "dict"]
/-- two classes, each to each; a class and the builtin types -/
def kpChk (K : PySem.W.Frag) (l : List Kc) : Bool := (List.range l.length).all fun k => (List.range l.length).all (fun k' => PySem.W.notFirst K (He.ga K (kcOf l k).x) (.ref (He.ga K (kcOf l k').x)) && decide (PySem.W.kitOne K (.ref (He.ga K (kcOf l k).x)) (.ref (He.ga K (kcOf l k').x)) = some (k' == k))) &&
  tyNs.all fun T => decide (PySem.W.kitOne K (.ref (He.ga K (kcOf l k).x)) (.type T) = some false) && decide (PySem.W.kitOne K (.type T) (.ref (He.ga K (kcOf l k).x)) = some false)
def lamT (K : PySem.W.Frag) (tf : List Str) : List (Addr × Str) := tf.map fun x => ((He.cT K (x, none)).2, x ++ ".<locals>." ++ "<lambda>")
def exAll (t : Tx) (tf : List Str) (K : PySem.W.Frag) : Bool := noLst K && (t.exs.all (xcChk K) && (t.subs.all (fun p => decide (p.1 < t.exs.length) && decide (PySem.W.exmOne K (.ref (He.ga K (nmOf t.exs p.1))) (.ref (He.ga K (nmOf t.exs p.2))) = some true)) && (t.gls.all (fun g => glChk K g.1 g.2) &&
  (decide (tf.map fun x => (He.cT K (x, none)).2).Nodup && (t.cls.all (kcChk K) && kpChk K t.cls)))))
def ddOf (d : Df × Stmt) : He.DefD := ⟨(d.1.x, none), d.1.x, d.1.x, defArgs d.2, defBody d.2, defScope d.2, [], []⟩
def xdOf (e : Xc) : He.DefD := ⟨(e.x, some "__init__"), "__init__", e.x ++ ".__init__", defArgs e.st, defBody e.st, defScope e.st, [], []⟩
def mdOf (p : Df × Str × Stmt) : He.DefD := ⟨(p.2.1, some p.1.x), p.1.x, p.2.1 ++ "." ++ p.1.x, defArgs p.2.2, defBody p.2.2, defScope p.2.2, [], []⟩
def fnAll (t : Tx) : List He.DefD := t.defs.map ddOf ++ (t.mts.map mdOf ++ t.exs.map xdOf)
def faAll (t : Tx) : List He.Fa := t.defs.map (fun d => .glo d.1.x) ++ (t.exs.map (fun e => .glo e.x) ++ (t.cls.map (fun c => .glo c.x) ++ t.blt.map .free))
def IniOk (e : Xc) : Prop := ∀ (P : Program) (wo : World) (K : PySem.W.Frag) (mg : Str → Option Value) (base : Heap) (C fI : Addr) (fd : FuncData), FunD K "__init__" (e.x ++ ".__init__") (defArgs e.st) (defBody e.st) (defScope e.st) [] [] fI fd → OexC K C → (∀ f ∈ e.fs, PySem.W.findIn K (.ref C) f = some none) →
  ∃ ps, FnOk P wo K mg base (L2.CX P wo) 1 fI fd ps (spI K C e.fs) ∧ Binds K fd ps []
def AllOk (w : Lw) : List (Df × Stmt) → Prop
  | [] => True
  | d :: r => DfOk w d.1 (defArgs d.2) (defBody d.2) (defScope d.2) ∧ AllOk w r
theorem AllOk.get {w : Lw} : ∀ {l : List (Df × Stmt)} {i : Nat} {d : Df × Stmt}, AllOk w l → l[i]? = some d → DfOk w d.1 (defArgs d.2) (defBody d.2) (defScope d.2)
  | [], _, _, _, h => by simp at h
  | d :: r, 0, _, h, e => by simp at e; subst e; exact h.1
  | d :: r, i + 1, _, h, e => AllOk.get h.2 (by simpa using e)
def AllIni : List Xc → Prop
  | [] => True
  | e :: r => IniOk e ∧ AllIni r
theorem AllIni.get : ∀ {l : List Xc} {i : Nat} {e : Xc}, AllIni l → l[i]? = some e → IniOk e
  | [], _, _, _, h => by simp at h
  | d :: r, 0, _, h, e => by simp at e; subst e; exact h.1
  | d :: r, i + 1, _, h, e => AllIni.get h.2 (by simpa using e)
def lkOf (t : Tx) (tf : List Str) (K : PySem.W.Frag) : Lk := ⟨K, fun k => He.ga K (nmOf t.exs k), efOf t.exs, lamT K tf, fun k => He.ga K (kcOf t.cls k).x, fun k => (kcOf t.cls k).fs⟩
theorem wd_of {t : Tx} {tf : List Str} {wo : World} {h base : Heap} {K : PySem.W.Frag} {mg : Str → Option Value} {P : Program} (c : He.SaysX (faAll t) (fnAll t) [] (tf.map fun x => (x, none)) (exAll t tf) wo h K) (KB : K.In base) (GB : base.Ns mainGlobals mg)
    (hok : AllOk t.w t.allp) (hmo : mOk t = true) (hini : AllIni t.exs) (htf : ∀ d ∈ t.defs, d.1.dl = true → d.1.x ∈ tf) (TB : ∀ p ∈ tf.map fun x => He.cT K (x, none), TabB base mg p.1 p.2) : Wd t.w (lkOf t tf K) P wo mg base := by
  have sd : He.SaysD (faAll t) (fnAll t) K := c.t.d
  have hm := c.more
  unfold exAll at hm
  simp only [Bool.and_eq_true, List.all_eq_true, decide_eq_true_eq] at hm
  obtain ⟨m1, m2, m3, m4, m5, m6, m7⟩ := hm
  have hglo : ∀ x, (.glo x : He.Fa) ∈ faAll t → mg x = some (.ref (He.ga K x)) := fun x hx => He.glo_ok KB GB (sd.facts hx)
  have exq : ∀ (k : Nat) (e : Xc), t.exs[k]? = some e → ExcC P wo K mg base e.x (He.ga K e.x) e.fs := by
    intro k e he
    have hmem : e ∈ t.exs := List.mem_of_getElem? he
    have q := m2 e hmem
    unfold xcChk at q
    simp only [Bool.and_eq_true, List.all_eq_true, decide_eq_true_eq] at q
    obtain ⟨q1, q2, q3, q4, q5, q6⟩ := q
    obtain ⟨fd, F⟩ := sd.defs (d := xdOf e) (List.mem_append_right _ (List.mem_append_right _ (List.mem_map.mpr ⟨e, hmem, rfl⟩)))
    obtain ⟨ps, g1, g2⟩ := (hini.get he) P wo K mg base (He.ga K e.x) (He.ma K (He.ga K e.x) "__init__") fd F (oexB_ok q1) q3
    exact ⟨hglo _ (List.mem_append_right _ (List.mem_append_left _ (List.mem_map.mpr ⟨e, hmem, rfl⟩))), oexB_ok q1, xfB_ok q2, q3, _, fd, ps, q5, q6, g1, g2⟩
  have nmK : ∀ k x, t.w.t.clN[k]? = some x → kcOf t.cls k ∈ t.cls ∧ (kcOf t.cls k).x = x := by
    intro k x h1
    have h1 : (t.cls.map (·.x))[k]? = some x := h1
    rw [List.getElem?_map] at h1
    cases q : t.cls[k]? with
    | none => rw [q] at h1; cases h1
    | some e =>
      rw [q] at h1
      cases h1
      rw [kcOf_get q]
      exact ⟨List.mem_of_getElem? q, rfl⟩
  have clL : t.w.t.clN.length = t.cls.length := by show (t.cls.map (·.x)).length = _; rw [List.length_map]
  unfold kpChk at m7
  simp only [Bool.and_eq_true, List.all_eq_true, decide_eq_true_eq, List.mem_range] at m7
  refine ⟨rfl, rfl, fun k => ?_, fun x hx => ?_, fun k x d h1 h2 => ?_, fun k x h1 => ?_, fun j k h1 => ?_, fun f x n hf => ?_, fun kc mm f hm => ?_, fun kc x h1 => ?_, fun kc kc' h1 h2 => ?_, fun kc h1 => ?_, fun kc kc' h1 h2 => ?_, fun kc h1 y hy => ?_, fun kc h1 T hT => ?_⟩
  · show (efOf t.exs k).length ≤ 1000
    cases q : t.exs[k]? with
    | none =>
      have : ∀ (l : List Xc) (k : Nat), l[k]? = none → efOf l k = [] := by
        intro l
        induction l with
        | nil => intro k _; cases k <;> rfl
        | cons e r ih => intro k hk; cases k with
          | zero => simp at hk
          | succ k => exact ih k (by simpa using hk)
      rw [this _ _ q]; exact Nat.zero_le _
    | some e =>
      rw [(efOf_get q).1]
      have q' := m2 e (List.mem_of_getElem? q)
      unfold xcChk at q'
      simp only [Bool.and_eq_true, List.all_eq_true, decide_eq_true_eq] at q'
      exact q'.2.2.2.1
  · exact He.free_ok KB GB (sd.facts (List.mem_append_right _ (List.mem_append_right _ (List.mem_append_right _ (List.mem_map.mpr ⟨x, hx, rfl⟩)))))
  · exact glChk_ok (L := lkOf t tf K) rfl KB GB (m4 _ (glOf_get h1 h2))
  · have h1 : (t.exs.map (·.x))[k]? = some x := h1
    rw [List.getElem?_map] at h1
    cases q : t.exs[k]? with
    | none => rw [q] at h1; cases h1
    | some e =>
      rw [q] at h1
      cases h1
      show ExcC P wo K mg base e.x (He.ga K (nmOf t.exs k)) (efOf t.exs k)
      rw [(efOf_get q).1, (efOf_get q).2]
      exact exq k e q
  · have h1 : t.subs.contains (j, k) = true := h1
    have hmem : (j, k) ∈ t.subs := List.contains_iff_mem.mp h1
    obtain ⟨q1, q2⟩ := m3 _ hmem
    refine ⟨⟨t.exs[j].x, ?_⟩, q2⟩
    show (t.exs.map (·.x))[j]? = _
    rw [List.getElem?_map, List.getElem?_eq_getElem q1]; rfl
  · have hf : (t.defs.map fun d => (d.1.x, d.1.n))[f]? = some (x, n) := hf
    rw [List.getElem?_map] at hf
    cases q : t.defs[f]? with
    | none => rw [q] at hf; cases hf
    | some d =>
      rw [q] at hf
      cases hf
      have hmem := List.mem_of_getElem? q
      obtain ⟨fd, F⟩ := sd.defs (d := ddOf d) (List.mem_append_left _ (List.mem_map.mpr ⟨d, hmem, rfl⟩))
      refine ⟨_, hglo _ (List.mem_append_left _ (List.mem_map.mpr ⟨d, hmem, rfl⟩)), fd, d.1, _, _, _, _, _, ?_, hok.get (i := f) (d := d) ?_, F, fun hdl => ?_⟩
      · show (t.allp.map (·.1))[f]? = _
        rw [List.getElem?_map]
        unfold Tx.allp
        rw [List.getElem?_append_left (List.getElem?_eq_some_iff.mp q).1, q]; rfl
      · unfold Tx.allp
        rw [List.getElem?_append_left (List.getElem?_eq_some_iff.mp q).1, q]
      · have hx := htf d hmem hdl
        obtain ⟨oc, od, dV, kV, doc, pm, an, cdv, ct, osl, hfd, lk, hcd, _, _⟩ := F.ex
        obtain ⟨cc, ec⟩ := He.codeIn_ref hcd
        have e1 : He.codeOf K (d.1.x, none) = cc := He.codeOf_eq lk (by rw [hfd]; exact ec)
        refine ⟨cc, (He.cT K (d.1.x, none)).2, by rw [hfd]; exact ec, ?_, List.mem_map.mpr ⟨d.1.x, hx, rfl⟩, fun p hp hpe => ?_⟩
        · have tb := TB _ (List.mem_map.mpr ⟨d.1.x, hx, rfl⟩)
          have e2 : (He.cT K (d.1.x, none)).1 = cc := e1
          rw [e2] at tb
          exact tb
        · obtain ⟨y, hy, rfl⟩ := List.mem_map.mp hp
          have inj : ∀ {l : List Str}, (l.map fun x => (He.cT K (x, none)).2).Nodup → ∀ a ∈ l, ∀ b ∈ l, (He.cT K (a, none)).2 = (He.cT K (b, none)).2 → a = b := by
            intro l
            induction l with
            | nil => intro _ a ha; cases ha
            | cons z r ih =>
              intro hn a ha b hb e
              rw [List.map_cons, List.nodup_cons] at hn
              rcases List.mem_cons.mp ha with ha | ha
              · rcases List.mem_cons.mp hb with hb | hb
                · rw [ha, hb]
                · exact absurd (List.mem_map.mpr ⟨b, hb, by rw [← e, ha]⟩) hn.1
              · rcases List.mem_cons.mp hb with hb | hb
                · exact absurd (List.mem_map.mpr ⟨a, ha, by rw [e, hb]⟩) hn.1
                · exact ih hn.2 a ha b hb e
          show y ++ ".<locals>." ++ "<lambda>" = _
          rw [inj m5 y hy d.1.x hx hpe] <;> rfl
  · have hm : msLook mm (kcOf t.cls kc).ms = some f := hm
    have hk : kc < t.cls.length := by
      rcases Nat.lt_or_ge kc t.cls.length with z | z
      · exact z
      · rw [kcOf_big z] at hm; cases hm
    have he : kcOf t.cls kc ∈ t.cls := by rw [kcOf_get (List.getElem?_eq_getElem hk)]; exact List.getElem_mem hk
    have hp := msLook_mem hm
    have c1 := List.all_eq_true.mp (List.all_eq_true.mp hmo _ he) _ hp
    simp only [Bool.and_eq_true, decide_eq_true_eq, Bool.not_eq_true'] at c1
    obtain ⟨c1, c2, c3⟩ := c1
    have q := m6 _ he
    unfold kcChk at q
    simp only [Bool.and_eq_true, List.all_eq_true] at q
    have qm := q.2.2.2.2.2.2.2.2.2.2.2 _ hp
    refine ⟨by rw [clL]; exact hk, fun z => ?_, _, He.meth_ok qm, ?_⟩
    · have z2 : mm ∈ (kcOf t.cls kc).fs := z
      rw [List.contains_iff_mem.mpr z2] at c2; cases c2
    · split at c3
      · rename_i d c' st q2
        simp only [Bool.and_eq_true, decide_eq_true_eq, Bool.not_eq_true'] at c3
        obtain ⟨g1, g2, g3⟩ := c3
        obtain ⟨fd, F⟩ := sd.defs (d := mdOf (d, c', st)) (List.mem_append_right _ (List.mem_append_left _ (List.mem_map.mpr ⟨_, List.mem_of_getElem? q2, rfl⟩)))
        have F : FunD K d.x (c' ++ "." ++ d.x) (defArgs st) (defBody st) (defScope st) [] [] (He.ma K (He.ga K c') d.x) fd := F
        rw [g1, g2] at F
        have e : t.allp[f]? = some (d, st) := by
          unfold Tx.allp
          rw [List.getElem?_append_right c1, List.getElem?_map, q2]
          rfl
        refine ⟨fd, d, _, _, _, _, _, ?_, hok.get e, F, fun z => ?_⟩
        · show (t.allp.map (·.1))[f]? = _
          rw [List.getElem?_map, e]; rfl
        · rw [g3] at z; cases z
      · cases c3
  · obtain ⟨he, rfl⟩ := nmK kc x h1
    have q := m6 _ he
    unfold kcChk at q
    simp only [Bool.and_eq_true, List.all_eq_true, decide_eq_true_eq] at q
    obtain ⟨q1, q2, q3, q4, q5, q6, q7, q8, q9, q10, q11, q12⟩ := q
    exact ⟨hglo _ (List.mem_append_right _ (List.mem_append_right _ (List.mem_append_left _ (List.mem_map.mpr ⟨_, he, rfl⟩)))), He.cls_ok q1, fun f hf => He.noat_ok (q2 f hf), q3, q4, q5, q6, q7, q8, q9, q10, q11⟩
  · rw [clL] at h1 h2
    exact ((m7 kc h1).1 kc' h2).1
  · rw [clL] at h1
    show (kcOf t.cls kc).fs = []
    rw [kcOf_big h1]
  · rw [clL] at h1 h2
    exact ((m7 kc h1).1 kc' h2).2
  · rw [clL] at h1
    have z := (m7 kc h1).2 y.ts
    cases y <;> first | exact absurd rfl (hy _) | exact (z (by simp [tyNs, Ty.ts])).1
  · rw [clL] at h1
    exact ((m7 kc h1).2 T hT).2
/-- the law: a script's ints in, True out -/
def LawSays (t : Tx) (f k : Nat) : Prop := ∀ ns : List Int, ns.length ≤ 63 → (∀ z ∈ ns, Builtin.Int.intBits z ≤ 1048576) → ∃ S, callN t.w k f [.lst (ns.map .int)] [] = .ok (.bl true) S
theorem law_at {l : PySem.W.OpenLaw} {t : Tx} {tf : List Str} {f k : Nat} {wo : World} {h : Heap} {mg : Str → Option Value} {fa : Addr} {d : Df × Stmt} (hd : t.defs[f]? = some d) (hdx : d.1.x = ("law" : Str)) (hdn : d.1.n = 1) (hdN : d.1.N.take 1 = [("script" : Str)]) (hok : AllOk t.w t.allp) (hmo : mOk t = true) (hini : AllIni t.exs) (htf : ∀ d ∈ t.defs, d.1.dl = true → d.1.x ∈ tf)
    (says : LawSays t f k) (Y : ∃ K : PySem.W.Frag, K.In h ∧ He.SaysX (faAll t) (fnAll t) [] (tf.map fun x => (x, none)) (exAll t tf) wo h K) (G : h.Ns mainGlobals mg) (hfa : mg ("law" : Str) = some (.ref fa)) :
    ∃ K : PySem.W.Frag, K.In h ∧ LawAtS l wo K (L2.CX l.prog wo) (4 * k + 1) 63 "script" mg fa h := by
  obtain ⟨K, KX, c⟩ := Y
  have sd : He.SaysD (faAll t) (fnAll t) K := c.t.d
  have hmem := List.mem_of_getElem? hd
  obtain ⟨fd, F⟩ := sd.defs (d := ddOf d) (List.mem_append_left _ (List.mem_map.mpr ⟨d, hmem, rfl⟩))
  have ea : mg d.1.x = some (.ref (He.ga K d.1.x)) := He.glo_ok KX G (sd.facts (List.mem_append_left _ (List.mem_map.mpr ⟨d, hmem, rfl⟩)))
  have efa : He.ga K d.1.x = fa := by
    rw [hdx] at ea ⊢
    rw [hfa] at ea
    cases ea; rfl
  have hd2 : t.allp[f]? = some d := by
    unfold Tx.allp
    rw [List.getElem?_append_left (List.getElem?_eq_some_iff.mp hd).1, hd]
  have O := hok.get hd2
  refine ⟨K, KX, fd, tf.map (fun x => He.cT K (x, none)), spC (lkOf t tf K) 1 (callN t.w k f), fun p hp => ?_, fun p hp => ?_, fun p hp => ?_, fun s u => ?_, fun H a ns hl hb hH hS => ?_, fun base KB GB TB => ?_⟩
  · obtain ⟨x, hx, rfl⟩ := List.mem_map.mp hp
    exact c.empty (x, none) (List.mem_map.mpr ⟨x, hx, rfl⟩)
  · obtain ⟨x, hx, rfl⟩ := List.mem_map.mp hp
    exact c.out (x, none) (List.mem_map.mpr ⟨x, hx, rfl⟩)
  · obtain ⟨x, hx, rfl⟩ := List.mem_map.mp hp
    exact PySem.W.codeHd_of_K KX (c.hd (x, none) (List.mem_map.mpr ⟨x, hx, rfl⟩))
  · have b := FunD.bindsA (ps := d.1.N.take d.1.n) F (fun kV doc pm an cdv ct us hl => O.bind _ _ kV doc pm an cdv ct us (by rw [hl, O.len]))
    have b2 := b s [u] (by rw [O.len, hdn]; rfl)
    rw [hdn, hdN] at b2
    exact b2
  · have hm := c.more
    unfold exAll at hm
    simp only [Bool.and_eq_true] at hm
    obtain ⟨S, e⟩ := says ns hl hb
    refine ⟨rfl, [.lst (ns.map .int)], [], ⟨[], [], lamT K tf⟩, rfl, ⟨rfl, List.nodup_nil, fun a h => absurd h (by simp), fun a h => absurd h (by simp), fun p hp => ?_, fun n o h => absurd h (by simp)⟩, ⟨.ref a, [], rfl, ⟨a, _, rfl, ⟨fun z => (nomatch z), fun z => (nomatch z), noLst_ok hm.1 hS⟩, RelDs.ints ns⟩, rfl⟩, ?_⟩
    · obtain ⟨x, hx, rfl⟩ := List.mem_map.mp hp
      exact TabS.nil (hH _ (List.mem_map.mpr ⟨x, hx, rfl⟩))
    · rw [e]
      exact fun H' m' v _ _ r => r
  · have hfa' : mg (("law" : Str)) = some (.ref fa) := hfa
    have D := wd_of (P := l.prog) c KB GB hok hmo hini htf TB
    have hf : t.w.t.fnN[f]? = some (d.1.x, 1) := by
      show (t.defs.map fun d => (d.1.x, d.1.n))[f]? = _
      rw [List.getElem?_map, hd, ← hdn]; rfl
    obtain ⟨a', g1, g2⟩ := D.fn f _ _ hf
    obtain ⟨fd', d', g6, g3, g4, g5, ⟨oc', od', osl', g8⟩, g7, _⟩ := def_all D k f a' g2
    have ea' : a' = fa := by
      rw [hdx, hfa'] at g1
      cases g1; rfl
    obtain ⟨oc, od, dV, kV, doc, pm, an, cdv, ct, osl, hfd, lk, hcd, _, _⟩ := F.ex
    have lk' : K.lookup fa = some ⟨oc, od, .func fd, osl⟩ := by rw [← efa]; exact lk
    have g5' : K.lookup a' = some ⟨oc', od', .func fd', osl'⟩ := g8
    rw [ea', lk'] at g5'
    cases g5'
    have g6' : (t.allp.map (·.1))[f]? = some d' := g6
    rw [List.getElem?_map, hd2] at g6'
    cases g6'
    rw [ea', hdn, hdN] at g7
    exact g7
end KF

set_option Elab.async false
set_option linter.all false
set_option maxRecDepth 100000
set_option maxHeartbeats 4000000
/-! V19: checks of a def's scope, of an __init__ -/
namespace KF
open PySem PySem.Spec PyProof.Rows L2 LamX
def scC (N P : List Str) (sc : Scope) : Bool :=
  decide (sc.kind = .function) && (!sc.isCoroutine && (!sc.isGenerator && (decide N.Nodup && (decide (N.take P.length = P) && (P.all (fun x => decide (sc.names.lookup x = some .local) || decide (sc.names.lookup x = some .cell)) && sc.names.all fun y => !decide (y.2 = .free))))))
theorem fnScope_by {N P : List Str} {sc : Scope} (h : scC N P sc = true) : FnScope N P sc := by
  unfold scC at h
  simp only [Bool.and_eq_true, Bool.not_eq_true', decide_eq_true_eq, List.all_eq_true, Bool.or_eq_true, decide_eq_false_iff_not] at h
  obtain ⟨h1, h2, h3, h4, h5, h6, h7⟩ := h
  exact ⟨h1, h2, h3, h4, h5, h6, h7⟩
theorem iniOk1 {e : Xc} {s1 : Stmt} (f y : Str) (hf : e.fs = [f]) (hs : scC ["self", y] ["self", y] (defScope e.st) = true) (hl : locs ["self", y] (defScope e.st) = true) (hb : defBody e.st = [s1]) (h1 : isPut f y s1 = true)
    (hbind : ∀ (kV doc pm : Value) (an : Option Addr) (cdv ct : Value) (us : List Value), us.length = 2 → bindArgs (PySem.W.fnOf "__init__" (e.x ++ ".__init__") (defArgs e.st) (defBody e.st) (defScope e.st) .none kV doc pm an cdv ct) ⟨us, []⟩ = pure ((["self", y] : List Str).zip us)) : IniOk e := by
  intro P wo K mg base C fI fd F O hno
  rw [hf] at hno ⊢
  exact ⟨["self", y], ini1 F (fnScope_by hs) hl O (hno f List.mem_cons_self) hb h1, F.bindsN hbind⟩
theorem iniOk2 {e : Xc} {s1 s2 : Stmt} (f1 f2 y1 y2 : Str) (hf : e.fs = [f1, f2]) (hs : scC ["self", y1, y2] ["self", y1, y2] (defScope e.st) = true) (hl : locs ["self", y1, y2] (defScope e.st) = true) (hb : defBody e.st = [s1, s2]) (h1 : isPut f1 y1 s1 = true) (h2 : isPut f2 y2 s2 = true)
    (hbind : ∀ (kV doc pm : Value) (an : Option Addr) (cdv ct : Value) (us : List Value), us.length = 3 → bindArgs (PySem.W.fnOf "__init__" (e.x ++ ".__init__") (defArgs e.st) (defBody e.st) (defScope e.st) .none kV doc pm an cdv ct) ⟨us, []⟩ = pure ((["self", y1, y2] : List Str).zip us)) : IniOk e := by
  intro P wo K mg base C fI fd F O hno
  rw [hf] at hno ⊢
  exact ⟨["self", y1, y2], ini2 F (fnScope_by hs) hl O (hno f1 List.mem_cons_self) (hno f2 (List.mem_cons_of_mem _ List.mem_cons_self)) hb h1 h2, F.bindsN hbind⟩
end KF

set_option Elab.async false
set_option linter.all false
set_option maxRecDepth 100000
set_option maxHeartbeats 4000000
/-! V20: the head's hook over chosen objects; the run's equation in pieces -/
namespace KF
open PySem PySem.Spec PyProof.Rows L2 LamX
/-- what a namespace has under a name, if it is an object -/
def nsA (g : Addr → Option Obj) (ns : Addr) (x : Str) : List Addr := match g ns with
  | some ⟨_, _, .dict es _, _⟩ => (match es.toList.find? (·.key.isStr x) with
    | some e => He.refV e.val
    | none => [])
  | _ => []
/-- a function and its code -/
def fnA (g : Addr → Option Obj) (a : Addr) : List Addr := a :: (match g a with
  | some ⟨_, _, .func fd, _⟩ => He.refV fd.code
  | _ => [])
/-- a class, its namespace, those of the classes above, its methods -/
def clA (g : Addr → Option Obj) (ms : List Str) (a : Addr) : List Addr := match g a with
  | some ⟨_, _, .cls cd, _⟩ => (a :: cd.ns :: (cd.mro.flatMap He.refV).flatMap (fun b => if b == a then [] else b :: (match g b with
    | some ⟨_, _, .cls cb, _⟩ => [cb.ns]
    | _ => []))) ++ ms.flatMap fun m => (nsA g cd.ns m).flatMap (fnA g)
  | _ => []
/-- the objects that the checks look at -/
def asL (t : Tx) (g : Addr → Option Obj) : List Addr := mainGlobals :: (t.cls.flatMap (fun c => (nsA g mainGlobals c.x).flatMap (clA g (c.ms.map (·.1)))) ++ (t.exs.flatMap (fun e => (nsA g mainGlobals e.x).flatMap (clA g ["__init__"])) ++
  (t.gls.flatMap (fun c => nsA g mainGlobals c.1) ++ t.defs.flatMap fun d => (nsA g mainGlobals d.1.x).flatMap (fnA g))))
def obsY (al : (Addr → Option Obj) → List Addr) (fa : List He.Fa) (fn : List He.DefD) (tf : List He.Defn) (ex : PySem.W.Frag → Bool) (g : Addr → Option Obj) : He.AlX := (He.obsT fa fn [] (He.frT g (al g)), ex (He.frT g (al g)) && He.tabsB g tf (He.frT g (al g)))
theorem saysY {al : (Addr → Option Obj) → List Addr} {fa : List He.Fa} {fn : List He.DefD} {tf : List He.Defn} {ex : PySem.W.Frag → Bool} {w : World} {h : Heap} (e : obsY al fa fn tf ex h.get? = He.valX fn [] w) : ∃ K : PySem.W.Frag, K.In h ∧ He.SaysX fa fn [] tf ex w h K := by
  have a1 := congrArg Prod.fst e
  have a2 := congrArg Prod.snd e
  have a2 : (ex (He.frT h.get? (al h.get?)) && He.tabsB h.get? tf (He.frT h.get? (al h.get?))) = true := a2
  generalize hK : He.frT h.get? (al h.get?) = K at a2
  rw [Bool.and_eq_true] at a2
  obtain ⟨b1, b2⟩ := a2
  have tab : ∀ p ∈ tf, PySem.W.codeHdIn K (He.cT K p).1 (He.cT K p).2 = true ∧ ∃ o, h.get? (He.cT K p).2 = some o ∧ He.emptyTab o = true := by
    intro p hp
    have z := List.all_eq_true.mp b2 p hp
    rw [Bool.and_eq_true] at z
    refine ⟨z.1, ?_⟩
    have z2 := z.2
    split at z2
    · exact ⟨_, by assumption, z2⟩
    · cases z2
  refine ⟨K, by rw [← hK]; exact He.frT_in, ?_, b1, fun p hp => (tab p hp).1, fun p hp => ?_, fun p hp => ?_⟩
  · rw [← hK]; exact a1
  · obtain ⟨_, o, q, z⟩ := tab p hp
    rw [← hK] at q ⊢
    exact He.frT_none q z
  · obtain ⟨_, o, q, z⟩ := tab p hp
    rw [q, He.emptyTab_eq z]
/-- the hook -/
def hookY (al : (Addr → Option Obj) → List Addr) (fa : List He.Fa) (fn : List He.DefD) (tf : List He.Defn) (ex : PySem.W.Frag → Bool) : PySem.W.Hook where
  α := He.AlX
  obs := fun s => obsY al fa fn tf ex s.heap.get?
  val := fun w => He.valX fn [] w
  says := fun w h => ∃ K : PySem.W.Frag, K.In h ∧ He.SaysX fa fn [] tf ex w h K
  of := fun _ _ e => saysY e
  keeps := fun _ _ _ ⟨K, hK, c⟩ k => ⟨K, PySem.W.Frag.In.keeps hK k, c.t, c.more, c.hd, c.out, fun p hp => k _ _ (c.empty p hp)⟩
theorem obsY_eq {al : (Addr → Option Obj) → List Addr} {fa : List He.Fa} {fn : List He.DefD} {tf : List He.Defn} {ex : PySem.W.Frag → Bool} {g : Addr → Option Obj} {s : Shared} (h : ∀ a, g a = s.heap.get? a) : obsY al fa fn tf ex g = (hookY al fa fn tf ex).obs s := by
  rw [show g = s.heap.get? from funext h]
  rfl
theorem map_two {α β γ : Type} {o : Option α} {f : α → β} {k : α → γ} {b : β} {c : γ} (h1 : o.map f = some b) (h2 : o.map k = some c) : o.map (fun s => (f s, k s)) = some (b, c) := by
  cases o with
  | none => cases h1
  | some s =>
    cases h1
    cases h2
    rfl
theorem map_nil {α β γ : Type} {o : Option α} {f : α → β} {b : β} (h1 : o.map f = some b) : o.map (fun _ => ([] : List γ)) = some [] := by
  cases o with
  | none => cases h1
  | some s => rfl
/-- the run's equation from its pieces -/
theorem runY {α β : Type} {o : Option PySem.W.SharedT} {t : Tx} {tf : List Str} {al : (Addr → Option Obj) → List Addr} {A : PySem.W.SharedT → α} {B : PySem.W.SharedT → β} {a : α} {b : β} {w : World} {kk : PySem.W.SharedT → PySem.W.Frag}
    (hkk : ∀ s, He.frT (HandSHeadRun.getT s) (al (HandSHeadRun.getT s)) = kk s) (e1 : o.map (fun s => A s) = some a) (e2 : o.map (fun s => B s) = some b) (e3 : o.map (fun s => ((faAll t).all fun f => f.ok (kk s)) && (t.defs.map ddOf).all fun d => d.ok (kk s)) = some true) (e3' : o.map (fun s => (t.mts.map mdOf ++ t.exs.map xdOf).all fun d => d.ok (kk s)) = some true)
    (e4 : o.map (fun s => (t.defs.map ddOf).map fun d => He.fnW (kk s) d.at_) = some ((t.defs.map ddOf).map He.DefD.val)) (e4' : o.map (fun s => (t.mts.map mdOf ++ t.exs.map xdOf).map fun d => He.fnW (kk s) d.at_) = some ((t.mts.map mdOf ++ t.exs.map xdOf).map He.DefD.val)) (e5 : o.map (fun s => t.cls.all (kcChk (kk s)) && kpChk (kk s) t.cls) = some true)
    (e7 : o.map (fun s => noLst (kk s) && (t.exs.all (xcChk (kk s)) && (t.subs.all (fun p => decide (p.1 < t.exs.length) && decide (PySem.W.exmOne (kk s) (.ref (He.ga (kk s) (nmOf t.exs p.1))) (.ref (He.ga (kk s) (nmOf t.exs p.2))) = some true)) && (t.gls.all (fun g => glChk (kk s) g.1 g.2) && (decide (tf.map fun x => (He.cT (kk s) (x, none)).2).Nodup && He.tabsB (HandSHeadRun.getT s) (tf.map fun x => (x, none)) (kk s)))))) = some true) :
    o.map (fun s => (A s, B s, obsY al (faAll t) (fnAll t) (tf.map fun x => (x, none)) (exAll t tf) (HandSHeadRun.getT s))) = some (a, b, He.valX (fnAll t) [] w) := by
  cases o with
  | none => cases e1
  | some s =>
    have e1 : A s = a := Option.some.inj e1
    have e2 : B s = b := Option.some.inj e2
    have e3 : (((faAll t).all fun f => f.ok (kk s)) && (t.defs.map ddOf).all fun d => d.ok (kk s)) = true := Option.some.inj e3
    have e3' : ((t.mts.map mdOf ++ t.exs.map xdOf).all fun d => d.ok (kk s)) = true := Option.some.inj e3'
    have e3 : (((faAll t).all fun f => f.ok (kk s)) && (fnAll t).all fun d => d.ok (kk s)) = true := by
      rw [Bool.and_eq_true] at e3 ⊢
      refine ⟨e3.1, ?_⟩
      unfold fnAll
      rw [List.all_append, e3.2, e3']
      rfl
    have e4 : ((t.defs.map ddOf).map fun d => He.fnW (kk s) d.at_) = (t.defs.map ddOf).map He.DefD.val := Option.some.inj e4
    have e4' : ((t.mts.map mdOf ++ t.exs.map xdOf).map fun d => He.fnW (kk s) d.at_) = (t.mts.map mdOf ++ t.exs.map xdOf).map He.DefD.val := Option.some.inj e4'
    have e4 : ((fnAll t).map fun d => He.fnW (kk s) d.at_) = (fnAll t).map He.DefD.val := by
      unfold fnAll
      rw [List.map_append, e4, e4', ← List.map_append]
    have e5 : (t.cls.all (kcChk (kk s)) && kpChk (kk s) t.cls) = true := Option.some.inj e5
    have e7 := Option.some.inj e7
    simp only [Bool.and_eq_true] at e5 e7
    obtain ⟨e5, e6⟩ := e5
    obtain ⟨a1, a2, a3, a4, a5, e8⟩ := e7
    show some (A s, B s, obsY al (faAll t) (fnAll t) (tf.map fun x => (x, none)) (exAll t tf) (HandSHeadRun.getT s)) = _
    have ex : exAll t tf (kk s) = true := by
      unfold exAll
      rw [a1, a2, a3, a4, a5, e5, e6]
      rfl
    unfold obsY
    rw [hkk s, e1, e2, ex, e8]
    unfold He.obsT He.obsD He.valX He.valT He.valD
    rw [e3, e4]
    rfl
theorem map_and {α : Type} {o : Option α} {f k : α → Bool} (h1 : o.map f = some true) (h2 : o.map k = some true) : o.map (fun s => f s && k s) = some true := by
  cases o with
  | none => cases h1
  | some s =>
    have e1 : f s = true := Option.some.inj h1
    have e2 : k s = true := Option.some.inj h2
    show some (f s && k s) = some true
    rw [e1, e2]; rfl
end KF

set_option Elab.async false
set_option linter.all false
set_option maxRecDepth 100000
set_option maxHeartbeats 0
namespace K22
open PySem PySem.Spec PyProof.Rows L2 LamX KF
def top (i : Nat) : Stmt := PySem.Challenge.pw_knownfirst_k22_like_things.main.body.getD i (.Pass ⟨0, 0, 0, 0⟩)
def clsB : Stmt → List Stmt
  | .ClassDef _ _ _ b _ _ _ _ _ _ _ => b
  | _ => []
def cls (i j : Nat) : Stmt := (clsB (top i)).getD j (.Pass ⟨0, 0, 0, 0⟩)
/-- _wall -/
def b0 : Sts := (.cons 
  (.whl (.kb true) (.cons 
  .pass .nil)) .nil)
def d0 : Df := ⟨"_wall", 1, ["k"], b0, false, true⟩
/-- is_row -/
def b1 : Sts := (.cons 
  (.ret (.isi (.v 0) [.list, .tuple])) .nil)
def d1 : Df := ⟨"is_row", 1, ["thing"], b1, false, true⟩
/-- is_number -/
def b2 : Sts := (.cons 
  (.ret (.and (.isi (.v 0) [.int]) (.and (.not (.isi (.v 0) [.bool])) (.cmp .ge (.v 0) (.ki 0))))) .nil)
def d2 : Df := ⟨"is_number", 1, ["thing"], b2, false, true⟩
/-- is_below -/
def b3 : Sts := (.cons 
  (.ret (.and (.call 2 (.cons (.v 0) .nil)) (.cmp .lt (.v 0) (.v 1)))) .nil)
def d3 : Df := ⟨"is_below", 2, ["thing", "bound"], b3, false, true⟩
/-- is_name -/
def b4 : Sts := (.cons 
  (.ifs (.or (.not (.isi (.v 0) [.str])) (.or (.not (.chn .le .le (.ki 1) (.bi .len (.cons (.v 0) .nil)) (.ki 8))) (.cmp .nin (.ix (.v 0) (.ki 0)) (.g 0)))) (.cons 
  (.ret (.kb false)) .nil) .nil) (.cons 
  (.ret (.bi .all (.cons (.lc true (.or (.cmp .inn (.v 1) (.g 0)) (.cmp .inn (.v 1) (.g 1))) (.n 1) (.val (.v 0)) .no) .nil))) .nil))
def d4 : Df := ⟨"is_name", 1, ["thing", "sign"], b4, false, true⟩
/-- is_word -/
def b5 : Sts := (.cons 
  (.ret (.and (.isi (.v 0) [.str]) (.bi .all (.cons (.lc true (.cmp .inn (.v 2) (.v 1)) (.n 2) (.val (.v 0)) .no) .nil)))) .nil)
def d5 : Df := ⟨"is_word", 2, ["thing", "letters", "sign"], b5, false, true⟩
/-- check_letters -/
def b6 : Sts := (.cons 
  (.ifs (.or (.not (.isi (.v 0) [.str])) (.or (.not (.chn .le .le (.ki 1) (.bi .len (.cons (.v 0) .nil)) (.ki 3))) (.not (.bi .all (.cons (.lc true (.call 4 (.cons (.v 1) .nil)) (.n 1) (.val (.v 0)) .no) .nil))))) (.cons 
  (.raise 0 (.cons (.ks "letters") (.cons .kn .nil))) .nil) .nil) (.cons 
  (.ifs (.cmp .lt (.bi .len (.cons (.dc true (.v 1) (.kb true) (.n 1) (.val (.v 0)) .no) .nil)) (.bi .len (.cons (.v 0) .nil))) (.cons 
  (.raise 0 (.cons (.ks "letters") (.cons .kn .nil))) .nil) .nil) .nil))
def d6 : Df := ⟨"check_letters", 1, ["letters", "one"], b6, false, true⟩
/-- check_body -/
def b7 : Sts := (.cons 
  (.ifs (.or (.cmp .eq (.v 2) (.ki 0)) (.not (.call 8 (.cons (.v 0) (.cons (.v 1) .nil))))) (.cons 
  (.raise 0 (.cons (.ks "body") (.cons (.v 1) .nil))) .nil) .nil) (.cons 
  (.for_ (.n 3) (.val (.call 10 (.cons (.v 1) .nil))) (.cons 
  (.ex (.call 7 (.cons (.v 0) (.cons (.v 3) (.cons (.op .sub (.v 2) (.ki 1)) .nil))))) .nil)) .nil))
def d7 : Df := ⟨"check_body", 3, ["known", "body", "deep", "part"], b7, false, true⟩
/-- is_deed -/
def b8 : Sts := (.cons 
  (.asg (.t (.cons (.n 2) (.cons (.n 3) (.cons (.n 4) .nil)))) (.v 0)) (.cons 
  (.ifs (.or (.not (.call 1 (.cons (.v 1) .nil))) (.or (.cmp .eq (.bi .len (.cons (.v 1) .nil)) (.ki 0)) (.not (.isi (.ix (.v 1) (.ki 0)) [.str])))) (.cons 
  (.ret (.kb false)) .nil) .nil) (.cons 
  (.asg (.t (.cons (.n 5) (.cons (.n 6) .nil))) (.tup (.cons (.ix (.v 1) (.ki 0)) (.cons (.slc (.v 1) (.ki 1) .kn) .nil)))) (.cons 
  (.ifs (.cmp .eq (.v 5) (.ks "read")) (.cons 
  (.ret (.cmp .eq (.bi .len (.cons (.v 6) .nil)) (.op .add (.bi .len (.cons (.v 2) .nil)) (.ki 1)))) .nil) .nil) (.cons 
  (.ifs (.cmp .eq (.v 5) (.ks "less")) (.cons 
  (.ret (.and (.cmp .eq (.bi .len (.cons (.v 6) .nil)) (.ki 4)) (.and (.call 9 (.cons (.v 3) (.cons (.ix (.v 6) (.ki 0)) .nil))) (.call 3 (.cons (.ix (.v 6) (.ki 1)) (.cons (.op .add (.g 2) (.ki 1)) .nil)))))) .nil) .nil) (.cons 
  (.ifs (.cmp .eq (.v 5) (.ks "set")) (.cons 
  (.ret (.and (.cmp .eq (.bi .len (.cons (.v 6) .nil)) (.ki 3)) (.and (.call 9 (.cons (.v 3) (.cons (.ix (.v 6) (.ki 0)) .nil))) (.call 3 (.cons (.ix (.v 6) (.ki 1)) (.cons (.ki 10) .nil)))))) .nil) .nil) (.cons 
  (.ifs (.cmp .eq (.v 5) (.ks "add")) (.cons 
  (.ret (.and (.cmp .eq (.bi .len (.cons (.v 6) .nil)) (.ki 3)) (.and (.call 9 (.cons (.v 3) (.cons (.ix (.v 6) (.ki 0)) .nil))) (.and (.call 2 (.cons (.ix (.v 6) (.ki 1)) .nil)) (.chn .le .le (.ki 1) (.ix (.v 6) (.ki 1)) (.ki 3)))))) .nil) .nil) (.cons 
  (.ifs (.cmp .eq (.v 5) (.ks "copy")) (.cons 
  (.ret (.and (.cmp .eq (.bi .len (.cons (.v 6) .nil)) (.ki 3)) (.and (.call 9 (.cons (.v 3) (.cons (.ix (.v 6) (.ki 0)) .nil))) (.call 9 (.cons (.v 3) (.cons (.ix (.v 6) (.ki 1)) .nil)))))) .nil) .nil) (.cons 
  (.ifs (.cmp .eq (.v 5) (.ks "put")) (.cons 
  (.ret (.and (.cmp .eq (.bi .len (.cons (.v 6) .nil)) (.ki 2)) (.and (.call 5 (.cons (.ix (.v 6) (.ki 0)) (.cons (.v 2) .nil))) (.chn .le .le (.ki 1) (.bi .len (.cons (.ix (.v 6) (.ki 0)) .nil)) (.ki 4))))) .nil) .nil) (.cons 
  (.ifs (.cmp .eq (.v 5) (.ks "go")) (.cons 
  (.ret (.and (.cmp .eq (.bi .len (.cons (.v 6) .nil)) (.ki 1)) (.and (.isi (.ix (.v 6) (.ki 0)) [.str]) (.cmp .inn (.ix (.v 6) (.ki 0)) (.v 4))))) .nil) .nil) (.cons 
  (.ret (.and (.cmp .eq (.v 5) (.ks "stop")) (.and (.cmp .eq (.bi .len (.cons (.v 6) .nil)) (.ki 1)) (.and (.call 5 (.cons (.ix (.v 6) (.ki 0)) (.cons (.v 2) .nil))) (.cmp .le (.bi .len (.cons (.ix (.v 6) (.ki 0)) .nil)) (.ki 4)))))) .nil)))))))))))
def d8 : Df := ⟨"is_deed", 2, ["known", "body", "letters", "registers", "functions", "word", "rest"], b8, false, true⟩
/-- is_register -/
def b9 : Sts := (.cons 
  (.ret (.and (.isi (.v 1) [.str]) (.cmp .inn (.v 1) (.v 0)))) .nil)
def d9 : Df := ⟨"is_register", 2, ["registers", "thing"], b9, false, true⟩
/-- parts_of -/
def b10 : Sts := (.cons 
  (.ifs (.cmp .eq (.ix (.v 0) (.ki 0)) (.ks "read")) (.cons 
  (.ret (.bi .list (.cons (.slc (.v 0) (.ki 1) .kn) .nil))) .nil) .nil) (.cons 
  (.ifs (.cmp .eq (.ix (.v 0) (.ki 0)) (.ks "less")) (.cons 
  (.ret (.lst true (.cons (.ix (.v 0) (.ki 3)) (.cons (.ix (.v 0) (.ki 4)) .nil)))) .nil) .nil) (.cons 
  (.ret (.ite (.cmp .inn (.ix (.v 0) (.ki 0)) (.tup (.cons (.ks "set") (.cons (.ks "add") (.cons (.ks "copy") (.cons (.ks "put") .nil)))))) (.lst true (.cons (.ix (.v 0) (.neg (.ki 1))) .nil)) (.lst true .nil))) .nil)))
def d10 : Df := ⟨"parts_of", 1, ["body"], b10, false, true⟩
/-- plain -/
def b11 : Sts := (.cons 
  (.asg (.n 1) (.call 10 (.cons (.v 0) .nil))) (.cons 
  (.asg (.n 2) (.slc (.v 0) .kn (.op .sub (.bi .len (.cons (.v 0) .nil)) (.bi .len (.cons (.v 1) .nil))))) (.cons 
  (.ret (.tup (.star (.v 2) (.star (.lc true (.call 11 (.cons (.v 3) .nil)) (.n 3) (.val (.v 1)) .no) .nil)))) .nil)))
def d11 : Df := ⟨"plain", 1, ["body", "parts", "front", "part"], b11, false, true⟩
/-- check_program -/
def b12 : Sts := (.cons 
  (.ifs (.not (.isi (.v 0) [.cls 0])) (.cons 
  (.raise 0 (.cons (.ks "program") (.cons .kn .nil))) .nil) .nil) .nil)
def d12 : Df := ⟨"check_program", 1, ["program"], b12, false, true⟩
/-- check_known -/
def b13 : Sts := (.cons 
  (.ex (.call 12 (.cons (.v 0) .nil))) (.cons 
  (.ifs (.or (.not (.isi (.v 1) [.dict])) (.not (.bi .all (.cons (.lc true (.call 9 (.cons (.at_ (.v 0) "registers") (.cons (.v 3) .nil))) (.n 3) (.val (.v 1)) .no) .nil)))) (.cons 
  (.raise 1 (.cons (.v 1) .nil)) .nil) .nil) (.cons 
  (.ifs (.not (.bi .all (.cons (.lc true (.call 2 (.cons (.v 2) .nil)) (.n 2) (.vals (.v 1)) .no) .nil))) (.cons 
  (.raise 1 (.cons (.v 1) .nil)) .nil) .nil) .nil)))
def d13 : Df := ⟨"check_known", 2, ["program", "known", "number", "name"], b13, false, true⟩
/-- inputs_of -/
def b14 : Sts := (.cons 
  (.ex (.call 13 (.cons (.v 0) (.cons (.v 1) .nil)))) (.cons 
  (.ret (.lc true (.v 2) (.n 2) (.val (.at_ (.v 0) "registers")) (.one (.cmp .nin (.v 2) (.v 1))))) .nil))
def d14 : Df := ⟨"inputs_of", 2, ["program", "known", "name"], b14, false, true⟩
/-- all_parts -/
def b15 : Sts := (.cons 
  (.ex (.call 12 (.cons (.v 0) .nil))) (.cons 
  (.asg (.n 1) (.lst false .nil)) (.cons 
  (.for_ (.n 2) (.val (.at_ (.v 0) "functions")) (.cons 
  (.asg (.n 3) (.lst false (.cons (.ix (.at_ (.v 0) "functions") (.v 2)) .nil))) (.cons 
  (.whl (.cmp .ne (.v 3) (.lst true .nil)) (.cons 
  (.asg (.n 4) (.bm .pop (.v 3) .nil)) (.cons 
  (.ex (.bm .app (.v 1) (.cons (.v 4) .nil))) (.cons 
  (.augN 3 .add (.rev (.call 10 (.cons (.v 4) .nil)))) .nil)))) .nil))) (.cons 
  (.ret (.v 1)) .nil))))
def d15 : Df := ⟨"all_parts", 1, ["program", "found", "name", "line", "body"], b15, false, true⟩
/-- tests_of -/
def b16 : Sts := (.cons 
  (.ret (.bi .sorted (.cons (.dc true (.slc (.v 1) (.ki 1) (.ki 3)) (.kb true) (.n 1) (.val (.call 15 (.cons (.v 0) .nil))) (.one (.cmp .eq (.ix (.v 1) (.ki 0)) (.ks "less")))) .nil))) .nil)
def d16 : Df := ⟨"tests_of", 1, ["program", "body"], b16, false, true⟩
/-- bound_of -/
def b17 : Sts := (.cons 
  (.ret (.bi .max (.cons (.lst true (.cons (.ki 0) (.star (.lc true (.v 2) (.t (.cons (.n 1) (.cons (.n 2) .nil))) (.val (.call 16 (.cons (.v 0) .nil))) .no) .nil))) .nil))) .nil)
def d17 : Df := ⟨"bound_of", 1, ["program", "name", "number"], b17, false, true⟩
/-- check_span -/
def b18 : Sts := (.cons 
  (.ifs (.or (.not (.call 1 (.cons (.v 0) .nil))) (.or (.cmp .ne (.bi .len (.cons (.v 0) .nil)) (.ki 2)) (.not (.call 2 (.cons (.ix (.v 0) (.ki 0)) .nil))))) (.cons 
  (.raise 1 (.cons (.v 0) .nil)) .nil) .nil) (.cons 
  (.ifs (.and (.isn true (.ix (.v 0) (.ki 1))) (.or (.not (.call 2 (.cons (.ix (.v 0) (.ki 1)) .nil))) (.cmp .lt (.ix (.v 0) (.ki 1)) (.ix (.v 0) (.ki 0))))) (.cons 
  (.raise 1 (.cons (.v 0) .nil)) .nil) .nil) .nil))
def d18 : Df := ⟨"check_span", 1, ["span"], b18, false, true⟩
/-- below -/
def b19 : Sts := (.cons 
  (.ex (.call 18 (.cons (.v 0) .nil))) (.cons 
  (.ifs (.not (.call 2 (.cons (.v 1) .nil))) (.cons 
  (.raise 1 (.cons (.v 1) .nil)) .nil) .nil) (.cons 
  (.ifs (.cmp .ge (.ix (.v 0) (.ki 0)) (.v 1)) (.cons 
  (.ret .kn) .nil) .nil) (.cons 
  (.ret (.tup (.cons (.ix (.v 0) (.ki 0)) (.cons (.ite (.isn false (.ix (.v 0) (.ki 1))) (.op .sub (.v 1) (.ki 1)) (.bi .min (.cons (.ix (.v 0) (.ki 1)) (.cons (.op .sub (.v 1) (.ki 1)) .nil)))) .nil)))) .nil))))
def d19 : Df := ⟨"below", 2, ["span", "number"], b19, false, true⟩
/-- from_on -/
def b20 : Sts := (.cons 
  (.ex (.call 18 (.cons (.v 0) .nil))) (.cons 
  (.ifs (.not (.call 2 (.cons (.v 1) .nil))) (.cons 
  (.raise 1 (.cons (.v 1) .nil)) .nil) .nil) (.cons 
  (.ifs (.and (.isn true (.ix (.v 0) (.ki 1))) (.cmp .lt (.ix (.v 0) (.ki 1)) (.v 1))) (.cons 
  (.ret .kn) .nil) .nil) (.cons 
  (.ret (.tup (.cons (.bi .max (.cons (.ix (.v 0) (.ki 0)) (.cons (.v 1) .nil))) (.cons (.ix (.v 0) (.ki 1)) .nil)))) .nil))))
def d20 : Df := ⟨"from_on", 2, ["span", "number"], b20, false, true⟩
/-- told -/
def b21 : Sts := (.cons 
  (.ifs (.isn false (.call 19 (.cons (.v 0) (.cons (.v 1) .nil)))) (.cons 
  (.ret (.kb false)) .nil) .nil) (.cons 
  (.ret (.ite (.isn false (.call 20 (.cons (.v 0) (.cons (.v 1) .nil)))) (.kb true) .kn)) .nil))
def d21 : Df := ⟨"told", 2, ["span", "number"], b21, false, true⟩
/-- added -/
def b22 : Sts := (.cons 
  (.ex (.call 18 (.cons (.v 0) .nil))) (.cons 
  (.ifs (.not (.call 2 (.cons (.v 1) .nil))) (.cons 
  (.raise 1 (.cons (.v 1) .nil)) .nil) .nil) (.cons 
  (.ret (.tup (.cons (.op .add (.ix (.v 0) (.ki 0)) (.v 1)) (.cons (.ite (.isn false (.ix (.v 0) (.ki 1))) .kn (.op .add (.ix (.v 0) (.ki 1)) (.v 1))) .nil)))) .nil)))
def d22 : Df := ⟨"added", 2, ["span", "number"], b22, false, true⟩
/-- capped -/
def b23 : Sts := (.cons 
  (.ex (.call 18 (.cons (.v 0) .nil))) (.cons 
  (.ifs (.not (.call 2 (.cons (.v 1) .nil))) (.cons 
  (.raise 1 (.cons (.v 1) .nil)) .nil) .nil) (.cons 
  (.asg (.n 2) (.ite (.and (.isn true (.ix (.v 0) (.ki 1))) (.cmp .lt (.ix (.v 0) (.ki 1)) (.v 1))) (.ix (.v 0) (.ki 1)) .kn)) (.cons 
  (.ret (.tup (.cons (.bi .min (.cons (.ix (.v 0) (.ki 0)) (.cons (.v 1) .nil))) (.cons (.v 2) .nil)))) .nil))))
def d23 : Df := ⟨"capped", 2, ["span", "bound", "high"], b23, false, true⟩
/-- check_names -/
def b24 : Sts := (.cons 
  (.ex (.call 12 (.cons (.v 0) .nil))) (.cons 
  (.ifs (.or (.not (.call 1 (.cons (.v 1) .nil))) (.not (.bi .all (.cons (.lc true (.call 9 (.cons (.at_ (.v 0) "registers") (.cons (.v 2) .nil))) (.n 2) (.val (.v 1)) .no) .nil)))) (.cons 
  (.raise 1 (.cons (.v 1) .nil)) .nil) .nil) .nil))
def d24 : Df := ⟨"check_names", 2, ["program", "names", "name"], b24, false, true⟩
/-- copies_of -/
def b25 : Sts := (.cons 
  (.ret (.bi .sorted (.cons (.dc true (.tup (.cons (.ix (.v 1) (.ki 2)) (.cons (.ix (.v 1) (.ki 1)) .nil))) (.kb true) (.n 1) (.val (.call 15 (.cons (.v 0) .nil))) (.one (.and (.cmp .eq (.ix (.v 1) (.ki 0)) (.ks "copy")) (.cmp .ne (.ix (.v 1) (.ki 1)) (.ix (.v 1) (.ki 2)))))) .nil))) .nil)
def d25 : Df := ⟨"copies_of", 1, ["program", "body"], b25, false, true⟩
/-- later_ones -/
def b26 : Sts := (.cons 
  (.ex (.call 24 (.cons (.v 0) (.cons (.v 1) .nil)))) (.cons 
  (.asg (.t (.cons (.n 3) (.cons (.n 4) .nil))) (.tup (.cons (.dc false (.v 7) (.kb true) (.n 7) (.val (.v 1)) .no) (.cons (.bi .lstM (.cons (.v 1) .nil)) .nil)))) (.cons 
  (.asg (.n 2) (.call 25 (.cons (.v 0) .nil))) (.cons 
  (.whl (.cmp .ne (.v 4) (.lst true .nil)) (.cons 
  (.asg (.n 5) (.bm .pop (.v 4) .nil)) (.cons 
  (.for_ (.t (.cons (.n 6) (.cons (.n 7) .nil))) (.val (.v 2)) (.cons 
  (.ifs (.and (.cmp .eq (.v 6) (.v 5)) (.cmp .nin (.v 7) (.v 3))) (.cons 
  (.stX (.v 3) (.v 7) (.kb true)) (.cons 
  (.ex (.bm .app (.v 4) (.cons (.v 7) .nil))) .nil)) .nil) .nil)) .nil))) (.cons 
  (.ret (.bi .tuple (.cons (.bi .sorted (.cons (.v 3) .nil)) .nil))) .nil)))))
def d26 : Df := ⟨"later_ones", 2, ["program", "names", "pairs", "found", "line", "here", "source", "name"], b26, false, true⟩
/-- known_ones -/
def b27 : Sts := (.cons 
  (.asg (.n 2) (.call 26 (.cons (.v 0) (.cons (.v 1) .nil)))) (.cons 
  (.ret (.bi .tuple (.cons (.lc true (.v 3) (.n 3) (.val (.at_ (.v 0) "registers")) (.one (.cmp .nin (.v 3) (.v 2)))) .nil))) .nil))
def d27 : Df := ⟨"known_ones", 2, ["program", "names", "late", "name"], b27, false, true⟩
/-- number_of -/
def b28 : Sts := (.cons 
  (.ifs (.cmp .eq (.ix (.v 0) (.ki 0)) (.ks "set")) (.cons 
  (.ret (.ix (.v 0) (.ki 2))) .nil) .nil) (.cons 
  (.ret (.ite (.cmp .eq (.ix (.v 0) (.ki 0)) (.ks "add")) (.op .add (.ix (.v 1) (.ix (.v 0) (.ki 1))) (.ix (.v 0) (.ki 2))) (.ix (.v 1) (.ix (.v 0) (.ki 2))))) .nil))
def d28 : Df := ⟨"number_of", 2, ["body", "numbers"], b28, false, true⟩
/-- span_of -/
def b29 : Sts := (.cons 
  (.ifs (.cmp .eq (.ix (.v 0) (.ki 0)) (.ks "set")) (.cons 
  (.ret (.tup (.cons (.ix (.v 0) (.ki 2)) (.cons (.ix (.v 0) (.ki 2)) .nil)))) .nil) .nil) (.cons 
  (.ifs (.cmp .eq (.ix (.v 0) (.ki 0)) (.ks "add")) (.cons 
  (.ret (.call 22 (.cons (.ix (.v 2) (.ix (.v 0) (.ki 1))) (.cons (.ix (.v 0) (.ki 2)) .nil)))) .nil) .nil) (.cons 
  (.ret (.ite (.cmp .inn (.ix (.v 0) (.ki 2)) (.v 1)) (.tup (.cons (.ix (.v 1) (.ix (.v 0) (.ki 2))) (.cons (.ix (.v 1) (.ix (.v 0) (.ki 2))) .nil))) (.ix (.v 2) (.ix (.v 0) (.ki 2))))) .nil)))
def d29 : Df := ⟨"span_of", 3, ["body", "numbers", "spans"], b29, false, true⟩
/-- with_one -/
def b30 : Sts := (.cons 
  (.ret (.bi .tuple (.cons (.lc true (.tup (.cons (.v 3) (.cons (.ite (.cmp .eq (.v 3) (.v 1)) (.v 2) (.v 4)) .nil))) (.t (.cons (.n 3) (.cons (.n 4) .nil))) (.val (.v 0)) .no) .nil))) .nil)
def d30 : Df := ⟨"with_one", 3, ["rows", "name", "thing", "one", "old"], b30, false, true⟩
/-- _law_number -/
def b31 : Sts := (.cons 
  (.asg (.t (.cons (.n 5) (.cons (.n 6) .nil))) (.ite (.cmp .ne (.v 0) (.lst true .nil)) (.tup (.cons (.ix (.v 0) (.op .mod (.v 1) (.bi .len (.cons (.v 0) .nil)))) (.cons (.op .fdiv (.v 1) (.bi .len (.cons (.v 0) .nil))) .nil))) (.tup (.cons (.ki 12345) (.cons (.ki 0) .nil))))) (.cons 
  (.asg (.n 2) (.ite (.cmp .lt (.v 6) (.ki 60)) (.op .sub (.v 5) (.op .pow (.ki 10) (.ki 18))) (.ki 0))) (.cons 
  (.for_ (.n 3) (.rng (.op .mod (.bi .int (.cons (.v 6) .nil)) (.ki 60))) (.cons 
  (.asg (.n 2) (.op .fdiv (.v 2) (.ki 1009))) .nil)) (.cons 
  (.ifs (.cmp .gt (.v 2) (.ki 0)) (.cons 
  (.ret (.op .mod (.bi .int (.cons (.v 2) .nil)) (.ki 1009))) .nil) .nil) (.cons 
  (.asg (.n 4) (.op .mod (.op .add (.op .mul (.bi .int (.cons (.op .add (.v 5) (.op .mul (.ki 977) (.v 1))) .nil)) (.ki 48271)) (.op .mul (.ki 31) (.bi .len (.cons (.v 0) .nil)))) (.ki 2147483647))) (.cons 
  (.asg (.n 4) (.op .mod (.op .add (.op .mul (.v 4) (.v 4)) (.op .mul (.ki 40503) (.v 1))) (.ki 2147483629))) (.cons 
  (.ret (.bi .int (.cons (.op .mod (.op .add (.op .mul (.v 4) (.ki 69621)) (.op .fdiv (.v 4) (.ki 977))) (.ki 2147483587)) .nil))) .nil)))))))
def d31 : Df := ⟨"_law_number", 2, ["script", "index", "rest", "step", "blend", "cell", "turn"], b31, false, true⟩
/-- _law_take -/
def b32 : Sts := (.cons 
  (.augX (.v 0) (.ki 1) .add (.ki 1)) (.cons 
  (.ret (.op .mod (.bi .int (.cons (.call 31 (.cons (.ix (.v 0) (.ki 0)) (.cons (.bi .int (.cons (.ix (.v 0) (.ki 1)) .nil)) .nil))) .nil)) (.v 1))) .nil))
def d32 : Df := ⟨"_law_take", 2, ["draw", "many"], b32, false, true⟩
/-- _law_things -/
def b33 : Sts := (.cons 
  (.asg (.n 0) (.lst true (.cons (.tup (.cons (.mk 5 (.cons (.ki 1) .nil)) (.cons (.kb true) .nil))) (.cons (.tup (.cons (.mk 5 (.cons (.ki 2) .nil)) (.cons (.kb true) .nil))) (.cons (.tup (.cons (.mk 6 (.cons (.dd true (.cons (.ks "x") (.cons (.ki 1) .nil))) (.cons (.ks "a") .nil))) (.cons (.kb false) .nil))) (.cons (.tup (.cons (.mk 6 (.cons (.dd true (.cons (.ks "x") (.cons (.ki 2) .nil))) (.cons (.ks "a") .nil))) (.cons (.kb false) .nil))) (.cons (.tup (.cons (.mk 6 (.cons (.dd true (.cons (.ks "x") (.cons (.ki 1) .nil))) (.cons (.ks "") .nil))) (.cons (.kb false) .nil))) .nil))))))) (.cons 
  (.asg (.n 0) (.op .add (.v 0) (.lst true (.cons (.tup (.cons (.mk 7 (.cons (.tup (.cons (.ks "x") .nil)) (.cons (.tup .nil) .nil))) (.cons (.kb true) .nil))) (.cons (.tup (.cons (.mk 7 (.cons (.tup .nil) (.cons (.tup (.cons (.ks "x") .nil)) .nil))) (.cons (.kb true) .nil))) (.cons (.tup (.cons (.mk 8 (.cons (.tup (.cons (.ks "x") .nil)) .nil)) (.cons (.kb false) .nil))) (.cons (.tup (.cons (.mk 8 (.cons (.tup (.cons (.ks "x") (.cons (.ks "y") .nil))) .nil)) (.cons (.kb false) .nil))) .nil))))))) (.cons 
  (.asg (.n 0) (.op .add (.v 0) (.lst true (.cons (.tup (.cons (.mk 12 (.cons (.ki 1) .nil)) (.cons (.kb true) .nil))) (.cons (.tup (.cons (.mk 12 (.cons (.ki 0) .nil)) (.cons (.kb true) .nil))) (.cons (.tup (.cons (.mk 13 (.cons (.ks "a") (.cons (.ki 1) (.cons (.ki 2) .nil)))) (.cons (.kb false) .nil))) (.cons (.tup (.cons (.mk 13 (.cons (.ks "a") (.cons .kn (.cons (.ki 2) .nil)))) (.cons (.kb false) .nil))) (.cons (.tup (.cons (.mk 13 (.cons (.ks "") (.cons (.ki 1) (.cons (.ki 2) .nil)))) (.cons (.kb false) .nil))) (.cons (.tup (.cons (.mk 16 (.cons (.tup (.cons (.ks "x") .nil)) .nil)) (.cons (.kb true) .nil))) (.cons (.tup (.cons (.mk 16 (.cons (.tup .nil) .nil)) (.cons (.kb true) .nil))) .nil)))))))))) (.cons 
  (.asg (.n 0) (.op .add (.v 0) (.lst true (.cons (.tup (.cons (.mk 17 (.cons (.ki 1) .nil)) (.cons (.kb false) .nil))) (.cons (.tup (.cons (.mk 17 (.cons (.ki 2) .nil)) (.cons (.kb false) .nil))) (.cons (.tup (.cons (.mk 20 (.cons (.ks "a") .nil)) (.cons (.kb true) .nil))) (.cons (.tup (.cons (.mk 20 (.cons .kn .nil)) (.cons (.kb true) .nil))) (.cons (.tup (.cons (.mk 21 (.cons (.tup (.cons (.ki 0) .nil)) .nil)) (.cons (.kb false) .nil))) (.cons (.tup (.cons (.mk 21 (.cons (.tup .nil) .nil)) (.cons (.kb false) .nil))) .nil))))))))) (.cons 
  (.asg (.n 0) (.op .add (.v 0) (.lst true (.cons (.tup (.cons (.mk 14 (.cons (.ki 1) .nil)) (.cons (.kb true) .nil))) (.cons (.tup (.cons (.mk 14 (.cons (.ki 2) .nil)) (.cons (.kb true) .nil))) (.cons (.tup (.cons (.mk 15 (.cons (.tup (.cons (.ki 0) .nil)) (.cons (.tup (.cons (.ki 1) .nil)) (.cons (.ks "x") .nil)))) (.cons (.kb false) .nil))) (.cons (.tup (.cons (.mk 15 (.cons (.tup (.cons (.ki 0) .nil)) (.cons (.tup (.cons (.ki 1) .nil)) (.cons (.ks "y") .nil)))) (.cons (.kb false) .nil))) (.cons (.tup (.cons (.mk 15 (.cons (.tup .nil) (.cons (.tup (.cons (.ki 1) .nil)) (.cons (.ks "x") .nil)))) (.cons (.kb false) .nil))) .nil)))))))) (.cons 
  (.asg (.n 0) (.op .add (.v 0) (.lst true (.cons (.tup (.cons (.mk 15 (.cons (.tup (.cons (.ki 0) .nil)) (.cons (.tup (.cons (.ki 0) .nil)) (.cons (.ks "x") .nil)))) (.cons (.kb false) .nil))) (.cons (.tup (.cons (.mk 22 (.cons (.ki 1) .nil)) (.cons (.kb true) .nil))) (.cons (.tup (.cons (.mk 22 (.cons (.ki 2) .nil)) (.cons (.kb true) .nil))) (.cons (.tup (.cons (.mk 23 (.cons (.ks "x") .nil)) (.cons (.kb false) .nil))) (.cons (.tup (.cons (.mk 23 (.cons (.ks "y") .nil)) (.cons (.kb false) .nil))) .nil)))))))) (.cons 
  (.asg (.n 0) (.op .add (.v 0) (.lst true (.cons (.tup (.cons (.mk 18 (.cons (.ki 1) .nil)) (.cons (.kb true) .nil))) (.cons (.tup (.cons (.mk 18 (.cons (.ki 2) .nil)) (.cons (.kb true) .nil))) (.cons (.tup (.cons (.mk 19 (.cons (.tup (.cons (.ki 0) .nil)) (.cons (.tup (.cons (.ks "hang") .nil)) (.cons (.tup (.cons (.ks "stop") (.cons (.ks "") .nil))) .nil)))) (.cons (.kb false) .nil))) .nil)))))) (.cons 
  (.asg (.n 0) (.op .add (.v 0) (.lst true (.cons (.tup (.cons (.mk 19 (.cons (.tup .nil) (.cons (.tup (.cons (.ks "hang") .nil)) (.cons (.tup (.cons (.ks "stop") (.cons (.ks "") .nil))) .nil)))) (.cons (.kb false) .nil))) (.cons (.tup (.cons (.mk 19 (.cons (.tup (.cons (.ki 0) .nil)) (.cons (.tup (.cons (.ks "stop") (.cons (.ks "") .nil))) (.cons (.tup (.cons (.ks "hang") .nil)) .nil)))) (.cons (.kb false) .nil))) .nil))))) (.cons 
  (.asg (.n 0) (.op .add (.v 0) (.lst true (.cons (.tup (.cons (.mk 24 (.cons (.ki 1) .nil)) (.cons (.kb true) .nil))) (.cons (.tup (.cons (.mk 24 (.cons (.ki 2) .nil)) (.cons (.kb true) .nil))) (.cons (.tup (.cons (.mk 25 (.cons (.ki 0) (.cons (.tup .nil) .nil))) (.cons (.kb false) .nil))) (.cons (.tup (.cons (.mk 25 (.cons (.ki 0) (.cons (.tup (.cons (.ki 1) .nil)) .nil))) (.cons (.kb false) .nil))) (.cons (.tup (.cons (.mk 25 (.cons (.ki 1) (.cons (.tup .nil) .nil))) (.cons (.kb false) .nil))) .nil)))))))) (.cons 
  (.asg (.n 0) (.op .add (.v 0) (.lst true (.cons (.tup (.cons (.mk 26 (.cons (.ki 1) .nil)) (.cons (.kb true) .nil))) (.cons (.tup (.cons (.mk 26 (.cons (.ki 2) .nil)) (.cons (.kb true) .nil))) (.cons (.tup (.cons (.mk 27 (.cons (.ks "a") .nil)) (.cons (.kb false) .nil))) (.cons (.tup (.cons (.mk 27 (.cons (.ks "") .nil)) (.cons (.kb false) .nil))) (.cons (.tup (.cons (.mk 2 (.cons (.ks "a") (.cons (.ki 1) .nil))) (.cons (.kb true) .nil))) .nil)))))))) (.cons 
  (.asg (.n 0) (.op .add (.v 0) (.lst true (.cons (.tup (.cons (.mk 2 (.cons (.ks "a") (.cons (.ki 2) .nil))) (.cons (.kb true) .nil))) (.cons (.tup (.cons (.mk 2 (.cons (.ks "") (.cons (.ki 1) .nil))) (.cons (.kb true) .nil))) (.cons (.tup (.cons (.mk 3 (.cons (.ki 0) (.cons (.ki 1) .nil))) (.cons (.kb false) .nil))) (.cons (.tup (.cons (.mk 3 (.cons (.ki 1) (.cons (.ki 1) .nil))) (.cons (.kb false) .nil))) (.cons (.tup (.cons (.mk 3 (.cons (.ki 0) (.cons (.ki 2) .nil))) (.cons (.kb false) .nil))) .nil)))))))) (.cons 
  (.asg (.n 0) (.op .add (.v 0) (.lst true (.cons (.tup (.cons (.mk 28 (.cons (.ki 1) .nil)) (.cons (.kb true) .nil))) (.cons (.tup (.cons (.mk 28 (.cons (.ki 2) .nil)) (.cons (.kb true) .nil))) (.cons (.tup (.cons (.mk 29 (.cons (.dd true .nil) (.cons (.ks "a") .nil))) (.cons (.kb false) .nil))) (.cons (.tup (.cons (.mk 29 (.cons (.dd true (.cons (.ks "x") (.cons (.ki 0) .nil))) (.cons (.ks "a") .nil))) (.cons (.kb false) .nil))) (.cons (.tup (.cons (.mk 30 (.cons (.ki 1) .nil)) (.cons (.kb true) .nil))) (.cons (.tup (.cons (.mk 30 (.cons (.ki 2) .nil)) (.cons (.kb true) .nil))) .nil))))))))) (.cons 
  (.asg (.n 0) (.op .add (.v 0) (.lst true (.cons (.tup (.cons (.mk 31 (.cons (.dd true .nil) (.cons (.ks "a") .nil))) (.cons (.kb false) .nil))) (.cons (.tup (.cons (.mk 31 (.cons (.dd true (.cons (.ks "x") (.cons (.ki 0) .nil))) (.cons (.ks "a") .nil))) (.cons (.kb false) .nil))) .nil))))) (.cons 
  (.ret (.v 0)) .nil))))))))))))))
def d33 : Df := ⟨"_law_things", 0, ["found"], b33, false, true⟩
/-- law -/
def b34 : Sts := (.cons 
  (.asg (.n 1) (.lst false (.cons (.v 0) (.cons (.ki 0) .nil)))) (.cons 
  (.asg (.t (.cons (.n 6) (.cons (.n 7) .nil))) (.tup (.cons (.call 33 .nil) (.cons (.call 33 .nil) .nil)))) (.cons 
  (.for_ (.n 2) (.rng (.ki 20)) (.cons 
  (.asg (.t (.cons (.n 15) (.cons (.n 16) .nil))) (.tup (.cons (.call 32 (.cons (.v 1) (.cons (.bi .len (.cons (.v 6) .nil)) .nil))) (.cons (.call 32 (.cons (.v 1) (.cons (.bi .len (.cons (.v 6) .nil)) .nil))) .nil)))) (.cons 
  (.ifs (.or (.cmp .ne (.cmp .eq (.ix (.ix (.v 6) (.v 15)) (.ki 0)) (.ix (.ix (.v 7) (.v 16)) (.ki 0))) (.cmp .eq (.v 15) (.v 16))) (.or (.cmp .ne (.bi .bool (.cons (.ix (.ix (.v 6) (.v 15)) (.ki 0)) .nil)) (.ix (.ix (.v 6) (.v 15)) (.ki 1))) (.or (.cmp .eq (.ix (.ix (.v 6) (.v 15)) (.ki 0)) (.ki 5)) (.cmp .eq (.ix (.ix (.v 6) (.v 15)) (.ki 0)) .kn)))) (.cons 
  (.ret (.kb false)) .nil) .nil) .nil))) (.cons 
  (.ifs (.or (.cmp .ne (.ix (.ix (.v 6) (.ki 0)) (.ki 0)) (.ix (.ix (.v 7) (.ki 0)) (.ki 0))) (.or (.cmp .eq (.mk 5 (.cons (.ki 1) .nil)) (.mk 14 (.cons (.ki 1) .nil))) (.or (.cmp .eq (.mk 22 (.cons (.ki 1) .nil)) (.mk 14 (.cons (.ki 1) .nil))) (.cmp .ne (.mk 16 (.cons (.lst true (.cons (.ks "x") .nil)) .nil)) (.mk 16 (.cons (.tup (.cons (.ks "x") .nil)) .nil)))))) (.cons 
  (.ret (.kb false)) .nil) .nil) (.cons 
  (.ifs (.or (.cmp .ne (.mk 15 (.cons (.lst true (.cons (.ki 0) .nil)) (.cons (.lst true (.cons (.ki 1) .nil)) (.cons (.ks "x") .nil)))) (.mk 15 (.cons (.tup (.cons (.ki 0) .nil)) (.cons (.tup (.cons (.ki 1) .nil)) (.cons (.ks "x") .nil))))) (.or (.cmp .ne (.at_ (.mk 8 (.cons (.lst true (.cons (.ks "x") .nil)) .nil)) "names") (.tup (.cons (.ks "x") .nil))) (.cmp .ne (.at_ (.mk 21 (.cons (.lst true (.cons (.ki 0) .nil)) .nil)) "path") (.tup (.cons (.ki 0) .nil))))) (.cons 
  (.ret (.kb false)) .nil) .nil) (.cons 
  (.asg (.t (.cons (.n 8) (.cons (.n 9) (.cons (.n 10) (.cons (.n 11) .nil))))) (.tup (.cons (.lst false (.cons (.ks "x") .nil)) (.cons (.dd false (.cons (.ks "f") (.cons (.lst false (.cons (.ks "add") (.cons (.ks "x") (.cons (.ki 1) (.cons (.lst false (.cons (.ks "go") (.cons (.ks "f") .nil))) .nil))))) .nil))) (.cons (.dd false (.cons (.ks "x") (.cons (.ki 1) .nil))) (.cons (.lst false (.cons (.ks "x") .nil)) .nil)))))) (.cons 
  (.asg (.n 3) (.mk 0 (.cons (.ks "a") (.cons (.v 8) (.cons (.v 9) (.cons (.ks "f") .nil)))))) (.cons 
  (.asg (.n 4) (.mk 0 (.cons (.ks "a") (.cons (.lst true (.cons (.ks "x") .nil)) (.cons (.dd true (.cons (.ks "f") (.cons (.tup (.cons (.ks "add") (.cons (.ks "x") (.cons (.ki 1) (.cons (.tup (.cons (.ks "go") (.cons (.ks "f") .nil))) .nil))))) .nil))) (.cons (.ks "f") .nil)))))) (.cons 
  (.asg (.t (.cons (.n 12) (.cons (.n 13) (.cons (.n 14) .nil)))) (.tup (.cons (.mk 10 (.cons (.v 3) (.cons (.v 10) (.cons (.v 11) (.cons .kn .nil))))) (.cons (.mk 6 (.cons (.v 10) (.cons (.ks "a") .nil))) (.cons (.mk 8 (.cons (.v 11) .nil)) .nil))))) (.cons 
  (.ex (.bm .app (.v 8) (.cons (.ks "y") .nil))) (.cons 
  (.stX (.v 9) (.ks "g") (.tup (.cons (.ks "stop") (.cons (.ks "") .nil)))) (.cons 
  (.stX (.ix (.v 9) (.ks "f")) (.ki 2) (.ki 2)) (.cons 
  (.stX (.v 10) (.ks "x") (.ki 5)) (.cons 
  (.ex (.bm .app (.v 11) (.cons (.ks "y") .nil))) (.cons 
  (.ifs (.or (.cmp .ne (.v 3) (.v 4)) (.or (.cmp .ne (.ix (.at_ (.v 3) "functions") (.ks "f")) (.tup (.cons (.ks "add") (.cons (.ks "x") (.cons (.ki 1) (.cons (.tup (.cons (.ks "go") (.cons (.ks "f") .nil))) .nil)))))) (.or (.cmp .ne (.at_ (.v 12) "known") (.dd true (.cons (.ks "x") (.cons (.ki 1) .nil)))) (.or (.cmp .ne (.bi .tuple (.cons (.at_ (.v 12) "later") .nil)) (.tup (.cons (.ks "x") .nil))) (.or (.cmp .ne (.at_ (.v 13) "numbers") (.dd true (.cons (.ks "x") (.cons (.ki 1) .nil)))) (.cmp .ne (.at_ (.v 14) "names") (.tup (.cons (.ks "x") .nil)))))))) (.cons 
  (.ret (.kb false)) .nil) .nil) (.cons 
  (.asg (.n 5) (.mk 9 (.cons (.tup (.cons (.ks "stop") (.cons (.ks "") .nil))) (.cons (.tup (.cons (.tup (.cons (.ks "x") (.cons (.ki 1) .nil))) .nil)) (.cons (.tup .nil) .nil))))) (.cons 
  (.ifs (.or (.cmp .ne (.v 5) (.mk 9 (.cons (.tup (.cons (.ks "stop") (.cons (.ks "") .nil))) (.cons (.tup (.cons (.tup (.cons (.ks "x") (.cons (.ki 1) .nil))) .nil)) (.cons (.tup .nil) .nil))))) (.cmp .eq (.v 5) (.mk 9 (.cons (.tup (.cons (.ks "stop") (.cons (.ks "a") .nil))) (.cons (.tup (.cons (.tup (.cons (.ks "x") (.cons (.ki 1) .nil))) .nil)) (.cons (.tup .nil) .nil)))))) (.cons 
  (.ret (.kb false)) .nil) .nil) (.cons 
  (.ifs (.or (.cmp .eq (.v 5) (.mk 9 (.cons (.tup (.cons (.ks "stop") (.cons (.ks "") .nil))) (.cons (.tup (.cons (.tup (.cons (.ks "x") (.cons (.ki 2) .nil))) .nil)) (.cons (.tup .nil) .nil))))) (.cmp .eq (.v 5) (.mk 9 (.cons (.tup (.cons (.ks "stop") (.cons (.ks "") .nil))) (.cons (.tup (.cons (.tup (.cons (.ks "x") (.cons (.ki 1) .nil))) .nil)) (.cons (.tup (.cons (.tup (.cons (.ks "y") (.cons (.tup (.cons (.ki 0) (.cons .kn .nil))) .nil))) .nil)) .nil)))))) (.cons 
  (.ret (.kb false)) .nil) .nil) (.cons 
  (.ifs (.or (.cmp .eq (.mk 10 (.cons (.v 4) (.cons (.dd true (.cons (.ks "x") (.cons (.ki 1) .nil))) (.cons (.lst true .nil) (.cons .kn .nil))))) (.mk 10 (.cons (.v 4) (.cons (.dd true (.cons (.ks "x") (.cons (.ki 2) .nil))) (.cons (.lst true .nil) (.cons .kn .nil)))))) (.cmp .eq (.mk 10 (.cons (.v 4) (.cons (.dd true (.cons (.ks "x") (.cons (.ki 1) .nil))) (.cons (.lst true .nil) (.cons .kn .nil))))) (.mk 10 (.cons (.v 4) (.cons (.dd true (.cons (.ks "x") (.cons (.ki 1) .nil))) (.cons (.lst true (.cons (.ks "x") .nil)) (.cons .kn .nil))))))) (.cons 
  (.ret (.kb false)) .nil) .nil) (.cons 
  (.ifs (.cmp .eq (.mk 10 (.cons (.v 4) (.cons (.dd true (.cons (.ks "x") (.cons (.ki 1) .nil))) (.cons (.lst true .nil) (.cons (.ki 3) .nil))))) (.mk 10 (.cons (.v 4) (.cons (.dd true (.cons (.ks "x") (.cons (.ki 1) .nil))) (.cons (.lst true .nil) (.cons .kn .nil)))))) (.cons 
  (.ret (.kb false)) .nil) .nil) (.cons 
  (.ifs (.or (.cmp .ne (.mk 4 (.cons (.tup (.cons (.ks "stop") (.cons (.ks "") .nil))) (.cons (.tup .nil) .nil))) (.mk 4 (.cons (.tup (.cons (.ks "stop") (.cons (.ks "") .nil))) (.cons (.tup .nil) .nil)))) (.cmp .eq (.mk 4 (.cons (.tup (.cons (.ks "stop") (.cons (.ks "") .nil))) (.cons (.tup .nil) .nil))) (.mk 4 (.cons (.tup (.cons (.ks "stop") (.cons (.ks "a") .nil))) (.cons (.tup .nil) .nil))))) (.cons 
  (.ret (.kb false)) .nil) .nil) (.cons 
  (.ifs (.or (.cmp .eq (.mk 11 (.cons (.lst true .nil) (.cons (.lst true (.cons (.tup (.cons (.tup (.cons (.ks "hang") .nil)) (.cons (.tup .nil) .nil))) .nil)) .nil))) (.mk 11 (.cons (.lst true .nil) (.cons (.lst true (.cons (.tup (.cons (.tup (.cons (.ks "stop") (.cons (.ks "") .nil))) (.cons (.tup .nil) .nil))) .nil)) .nil)))) (.cmp .eq (.mk 1 (.cons (.tup (.cons (.ks "long") .nil)) (.cons (.ki 1) .nil))) (.mk 1 (.cons (.tup (.cons (.ks "long") .nil)) (.cons (.ki 2) .nil))))) (.cons 
  (.ret (.kb false)) .nil) .nil) (.cons 
  (.ifs (.cmp .eq (.v 4) (.mk 0 (.cons (.ks "ab") (.cons (.lst true (.cons (.ks "x") .nil)) (.cons (.dd true (.cons (.ks "f") (.cons (.tup (.cons (.ks "add") (.cons (.ks "x") (.cons (.ki 1) (.cons (.tup (.cons (.ks "go") (.cons (.ks "f") .nil))) .nil))))) .nil))) (.cons (.ks "f") .nil)))))) (.cons 
  (.ret (.kb false)) .nil) .nil) (.cons 
  (.ret (.and (.cmp .eq (.mk 1 (.cons (.lst true (.cons (.ks "long") .nil)) (.cons (.ki 1) .nil))) (.mk 1 (.cons (.tup (.cons (.ks "long") .nil)) (.cons (.ki 1) .nil)))) (.cmp .ne (.v 4) (.mk 0 (.cons (.ks "a") (.cons (.lst true (.cons (.ks "x") (.cons (.ks "y") .nil))) (.cons (.dd true (.cons (.ks "f") (.cons (.tup (.cons (.ks "add") (.cons (.ks "x") (.cons (.ki 1) (.cons (.tup (.cons (.ks "go") (.cons (.ks "f") .nil))) .nil))))) .nil))) (.cons (.ks "f") .nil)))))))) .nil))))))))))))))))))))))))
def d34 : Df := ⟨"law", 1, ["script", "draw", "turn", "program", "twin", "state", "one", "other", "rows", "functions", "numbers", "names", "drive", "paper", "chain", "at", "spot"], b34, false, true⟩
/-- Program.__init__ -/
def b35 : Sts := (.cons 
  (.ex (.call 6 (.cons (.v 1) .nil))) (.cons 
  (.ifs (.or (.not (.call 1 (.cons (.v 2) .nil))) (.cmp .gt (.bi .len (.cons (.v 2) .nil)) (.g 3))) (.cons 
  (.raise 0 (.cons (.ks "registers") (.cons .kn .nil))) .nil) .nil) (.cons 
  (.for_ (.n 5) (.val (.v 2)) (.cons 
  (.ifs (.not (.call 4 (.cons (.v 5) .nil))) (.cons 
  (.raise 0 (.cons (.ks "registers") (.cons (.v 5) .nil))) .nil) .nil) .nil)) (.cons 
  (.ifs (.or (.not (.isi (.v 3) [.dict])) (.not (.chn .le .le (.ki 1) (.bi .len (.cons (.v 3) .nil)) (.g 4)))) (.cons 
  (.raise 0 (.cons (.ks "functions") (.cons .kn .nil))) .nil) .nil) (.cons 
  (.for_ (.n 5) (.val (.v 3)) (.cons 
  (.ifs (.not (.call 4 (.cons (.v 5) .nil))) (.cons 
  (.raise 0 (.cons (.ks "functions") (.cons (.v 5) .nil))) .nil) .nil) .nil)) (.cons 
  (.stA (.v 0) "letters" (.bm .join (.ks "") (.cons (.bi .sorted (.cons (.v 1) .nil)) .nil))) (.cons 
  (.stA (.v 0) "registers" (.bi .tuple (.cons (.bi .sorted (.cons (.dc true (.v 5) (.kb true) (.n 5) (.val (.v 2)) .no) .nil)) .nil))) (.cons 
  (.asg (.n 6) (.tup (.cons (.at_ (.v 0) "letters") (.cons (.at_ (.v 0) "registers") (.cons (.v 3) .nil))))) (.cons 
  (.for_ (.n 5) (.val (.bi .sorted (.cons (.v 3) .nil))) (.cons 
  (.ex (.call 7 (.cons (.v 6) (.cons (.ix (.v 3) (.v 5)) (.cons (.g 5) .nil))))) .nil)) (.cons 
  (.ifs (.or (.not (.isi (.v 4) [.str])) (.cmp .nin (.v 4) (.v 3))) (.cons 
  (.raise 0 (.cons (.ks "first") (.cons .kn .nil))) .nil) .nil) (.cons 
  (.stA (.v 0) "functions" (.dc false (.v 5) (.call 11 (.cons (.ix (.v 3) (.v 5)) .nil)) (.n 5) (.val (.bi .sorted (.cons (.v 3) .nil))) .no)) (.cons 
  (.stA (.v 0) "first" (.v 4)) .nil))))))))))))
def d35 : Df := ⟨"__init__", 5, ["self", "letters", "registers", "functions", "first", "name", "known"], b35, false, false⟩
/-- Program.__eq__ -/
def b36 : Sts := (.cons 
  (.ifs (.or (.not (.isi (.v 1) [.cls 0])) (.cmp .ne (.tup (.cons (.at_ (.v 0) "letters") (.cons (.at_ (.v 0) "registers") .nil))) (.tup (.cons (.at_ (.v 1) "letters") (.cons (.at_ (.v 1) "registers") .nil))))) (.cons 
  (.ret (.kb false)) .nil) .nil) (.cons 
  (.ret (.cmp .eq (.tup (.cons (.at_ (.v 0) "functions") (.cons (.at_ (.v 0) "first") .nil))) (.tup (.cons (.at_ (.v 1) "functions") (.cons (.at_ (.v 1) "first") .nil))))) .nil))
def d36 : Df := ⟨"__eq__", 2, ["self", "other"], b36, false, true⟩
/-- Program.body -/
def b37 : Sts := (.cons 
  (.ret (.ix (.at_ (.v 0) "functions") (.at_ (.v 0) "first"))) .nil)
def d37 : Df := ⟨"body", 1, ["self"], b37, false, true⟩
/-- Answer.__init__ -/
def b38 : Sts := (.cons 
  (.stA (.v 0) "what" (.bi .tuple (.cons (.v 1) .nil))) (.cons 
  (.stA (.v 0) "steps" (.v 2)) .nil))
def d38 : Df := ⟨"__init__", 3, ["self", "what", "steps"], b38, false, false⟩
/-- Answer.__eq__ -/
def b39 : Sts := (.cons 
  (.ret (.and (.isi (.v 1) [.cls 1]) (.cmp .eq (.tup (.cons (.at_ (.v 0) "what") (.cons (.at_ (.v 0) "steps") .nil))) (.tup (.cons (.at_ (.v 1) "what") (.cons (.at_ (.v 1) "steps") .nil)))))) .nil)
def d39 : Df := ⟨"__eq__", 2, ["self", "other"], b39, false, true⟩
/-- Stops.__init__ -/
def b40 : Sts := (.cons 
  (.stA (.v 0) "out" (.v 1)) (.cons 
  (.stA (.v 0) "steps" (.v 2)) .nil))
def d40 : Df := ⟨"__init__", 3, ["self", "out", "steps"], b40, false, false⟩
/-- Stops.__bool__ -/
def b41 : Sts := (.cons 
  (.ret (.kb true)) .nil)
def d41 : Df := ⟨"__bool__", 1, ["self"], b41, false, true⟩
/-- Stops.__eq__ -/
def b42 : Sts := (.cons 
  (.ret (.and (.isi (.v 1) [.cls 2]) (.cmp .eq (.tup (.cons (.at_ (.v 0) "out") (.cons (.at_ (.v 0) "steps") .nil))) (.tup (.cons (.at_ (.v 1) "out") (.cons (.at_ (.v 1) "steps") .nil)))))) .nil)
def d42 : Df := ⟨"__eq__", 2, ["self", "other"], b42, false, true⟩
/-- Hangs.__init__ -/
def b43 : Sts := (.cons 
  (.stA (.v 0) "lead" (.v 1)) (.cons 
  (.stA (.v 0) "ring" (.v 2)) .nil))
def d43 : Df := ⟨"__init__", 3, ["self", "lead", "ring"], b43, false, false⟩
/-- Hangs.__bool__ -/
def b44 : Sts := (.cons 
  (.ret (.kb false)) .nil)
def d44 : Df := ⟨"__bool__", 1, ["self"], b44, false, true⟩
/-- Hangs.__eq__ -/
def b45 : Sts := (.cons 
  (.ret (.and (.isi (.v 1) [.cls 3]) (.cmp .eq (.tup (.cons (.at_ (.v 0) "lead") (.cons (.at_ (.v 0) "ring") .nil))) (.tup (.cons (.at_ (.v 1) "lead") (.cons (.at_ (.v 1) "ring") .nil)))))) .nil)
def d45 : Df := ⟨"__eq__", 2, ["self", "other"], b45, false, true⟩
/-- Look.__init__ -/
def b46 : Sts := (.cons 
  (.stA (.v 0) "body" (.v 1)) (.cons 
  (.stA (.v 0) "rows" (.v 2)) .nil))
def d46 : Df := ⟨"__init__", 3, ["self", "body", "rows"], b46, false, false⟩
/-- Look.__eq__ -/
def b47 : Sts := (.cons 
  (.ret (.and (.isi (.v 1) [.cls 4]) (.cmp .eq (.tup (.cons (.at_ (.v 0) "body") (.cons (.at_ (.v 0) "rows") .nil))) (.tup (.cons (.at_ (.v 1) "body") (.cons (.at_ (.v 1) "rows") .nil)))))) .nil)
def d47 : Df := ⟨"__eq__", 2, ["self", "other"], b47, false, true⟩
/-- Look.told -/
def b48 : Sts := (.cons 
  (.ret (.tup (.cons (.at_ (.v 0) "body") (.cons (.at_ (.v 0) "rows") .nil)))) .nil)
def d48 : Df := ⟨"told", 1, ["self"], b48, false, true⟩
/-- Alike.__init__ -/
def b49 : Sts := (.cons 
  (.stA (.v 0) "pairs" (.v 1)) .nil)
def d49 : Df := ⟨"__init__", 2, ["self", "pairs"], b49, false, false⟩
/-- Alike.__bool__ -/
def b50 : Sts := (.cons 
  (.ret (.kb true)) .nil)
def d50 : Df := ⟨"__bool__", 1, ["self"], b50, false, true⟩
/-- Alike.__eq__ -/
def b51 : Sts := (.cons 
  (.ret (.and (.isi (.v 1) [.cls 5]) (.cmp .eq (.at_ (.v 0) "pairs") (.at_ (.v 1) "pairs")))) .nil)
def d51 : Df := ⟨"__eq__", 2, ["self", "other"], b51, false, true⟩
/-- Differs.__init__ -/
def b52 : Sts := (.cons 
  (.stA (.v 0) "numbers" (.bi .dict (.cons (.v 1) .nil))) (.cons 
  (.stA (.v 0) "word" (.v 2)) .nil))
def d52 : Df := ⟨"__init__", 3, ["self", "numbers", "word"], b52, false, false⟩
/-- Differs.__bool__ -/
def b53 : Sts := (.cons 
  (.ret (.kb false)) .nil)
def d53 : Df := ⟨"__bool__", 1, ["self"], b53, false, true⟩
/-- Differs.__eq__ -/
def b54 : Sts := (.cons 
  (.ret (.and (.isi (.v 1) [.cls 6]) (.cmp .eq (.tup (.cons (.at_ (.v 0) "numbers") (.cons (.at_ (.v 0) "word") .nil))) (.tup (.cons (.at_ (.v 1) "numbers") (.cons (.at_ (.v 1) "word") .nil)))))) .nil)
def d54 : Df := ⟨"__eq__", 2, ["self", "other"], b54, false, true⟩
/-- Apart.__init__ -/
def b55 : Sts := (.cons 
  (.stA (.v 0) "known" (.bi .tuple (.cons (.v 1) .nil))) (.cons 
  (.stA (.v 0) "late" (.bi .tuple (.cons (.v 2) .nil))) .nil))
def d55 : Df := ⟨"__init__", 3, ["self", "known", "late"], b55, false, false⟩
/-- Apart.__bool__ -/
def b56 : Sts := (.cons 
  (.ret (.kb true)) .nil)
def d56 : Df := ⟨"__bool__", 1, ["self"], b56, false, true⟩
/-- Apart.__eq__ -/
def b57 : Sts := (.cons 
  (.ret (.and (.isi (.v 1) [.cls 7]) (.cmp .eq (.tup (.cons (.at_ (.v 0) "known") (.cons (.at_ (.v 0) "late") .nil))) (.tup (.cons (.at_ (.v 1) "known") (.cons (.at_ (.v 1) "late") .nil)))))) .nil)
def d57 : Df := ⟨"__eq__", 2, ["self", "other"], b57, false, true⟩
/-- Leads.__init__ -/
def b58 : Sts := (.cons 
  (.stA (.v 0) "names" (.bi .tuple (.cons (.v 1) .nil))) .nil)
def d58 : Df := ⟨"__init__", 2, ["self", "names"], b58, false, false⟩
/-- Leads.__bool__ -/
def b59 : Sts := (.cons 
  (.ret (.kb false)) .nil)
def d59 : Df := ⟨"__bool__", 1, ["self"], b59, false, true⟩
/-- Leads.__eq__ -/
def b60 : Sts := (.cons 
  (.ret (.and (.isi (.v 1) [.cls 8]) (.cmp .eq (.at_ (.v 0) "names") (.at_ (.v 1) "names")))) .nil)
def d60 : Df := ⟨"__eq__", 2, ["self", "other"], b60, false, true⟩
/-- State.__init__ -/
def b61 : Sts := (.cons 
  (.stA (.v 0) "body" (.v 1)) (.cons 
  (.stA (.v 0) "numbers" (.v 2)) (.cons 
  (.stA (.v 0) "spans" (.v 3)) .nil)))
def d61 : Df := ⟨"__init__", 4, ["self", "body", "numbers", "spans"], b61, false, false⟩
/-- State.__eq__ -/
def b62 : Sts := (.cons 
  (.ifs (.or (.not (.isi (.v 1) [.cls 9])) (.cmp .ne (.at_ (.v 0) "body") (.at_ (.v 1) "body"))) (.cons 
  (.ret (.kb false)) .nil) .nil) (.cons 
  (.ret (.cmp .eq (.tup (.cons (.at_ (.v 0) "numbers") (.cons (.at_ (.v 0) "spans") .nil))) (.tup (.cons (.at_ (.v 1) "numbers") (.cons (.at_ (.v 1) "spans") .nil))))) .nil))
def d62 : Df := ⟨"__eq__", 2, ["self", "other"], b62, false, true⟩
/-- State.told -/
def b63 : Sts := (.cons 
  (.ret (.tup (.cons (.at_ (.v 0) "body") (.cons (.at_ (.v 0) "numbers") (.cons (.at_ (.v 0) "spans") .nil))))) .nil)
def d63 : Df := ⟨"told", 1, ["self"], b63, false, true⟩
/-- Drive.__init__ -/
def b64 : Sts := (.cons 
  (.ex (.call 13 (.cons (.v 1) (.cons (.v 2) .nil)))) (.cons 
  (.ex (.call 24 (.cons (.v 1) (.cons (.v 3) .nil)))) (.cons 
  (.ifs (.and (.isn true (.v 4)) (.or (.not (.call 2 (.cons (.v 4) .nil))) (.cmp .lt (.v 4) (.call 17 (.cons (.v 1) .nil))))) (.cons 
  (.raise 1 (.cons (.v 4) .nil)) .nil) .nil) (.cons 
  (.stA (.v 0) "program" (.v 1)) (.cons 
  (.stA (.v 0) "known" (.dc true (.v 5) (.ix (.v 2) (.v 5)) (.n 5) (.val (.bi .sorted (.cons (.v 2) .nil))) .no)) (.cons 
  (.stA (.v 0) "later" (.bi .tuple (.cons (.bi .sorted (.cons (.dc true (.v 5) (.kb true) (.n 5) (.val (.v 3)) .no) .nil)) .nil))) (.cons 
  (.stA (.v 0) "bound" (.v 4)) (.cons 
  (.stA (.v 0) "top" (.call 17 (.cons (.v 1) .nil))) (.cons 
  (.stA (.v 0) "early" (.call 27 (.cons (.v 1) (.cons (.lst true (.star (.call 14 (.cons (.v 1) (.cons (.v 2) .nil))) (.star (.at_ (.v 0) "later") .nil))) .nil)))) .nil)))))))))
def d64 : Df := ⟨"__init__", 5, ["self", "program", "known", "later", "bound", "name"], b64, false, false⟩
/-- Drive.__eq__ -/
def b65 : Sts := (.cons 
  (.ifs (.or (.not (.isi (.v 1) [.cls 10])) (.cmp .ne (.tup (.cons (.at_ (.v 0) "program") (.cons (.at_ (.v 0) "known") .nil))) (.tup (.cons (.at_ (.v 1) "program") (.cons (.at_ (.v 1) "known") .nil))))) (.cons 
  (.ret (.kb false)) .nil) .nil) (.cons 
  (.ret (.cmp .eq (.tup (.cons (.at_ (.v 0) "later") (.cons (.at_ (.v 0) "bound") .nil))) (.tup (.cons (.at_ (.v 1) "later") (.cons (.at_ (.v 1) "bound") .nil))))) .nil))
def d65 : Df := ⟨"__eq__", 2, ["self", "other"], b65, false, true⟩
/-- Drive.late -/
def b66 : Sts := (.cons 
  (.ret (.bi .tuple (.cons (.lc true (.v 1) (.n 1) (.val (.at_ (.at_ (.v 0) "program") "registers")) (.one (.cmp .nin (.v 1) (.at_ (.v 0) "early")))) .nil))) .nil)
def d66 : Df := ⟨"late", 1, ["self", "name"], b66, false, true⟩
/-- Drive.cap -/
def b67 : Sts := (.cons 
  (.ret (.ite (.isn false (.at_ (.v 0) "bound")) (.v 1) (.bi .min (.cons (.v 1) (.cons (.at_ (.v 0) "bound") .nil))))) .nil)
def d67 : Df := ⟨"cap", 2, ["self", "number"], b67, false, true⟩
/-- Drive.first -/
def b68 : Sts := (.cons 
  (.asg (.n 1) (.bi .tuple (.cons (.lc true (.tup (.cons (.v 3) (.cons (.mt (.v 0) "cap" (.cons (.ix (.at_ (.v 0) "known") (.v 3)) .nil)) .nil))) (.n 3) (.val (.at_ (.v 0) "early")) .no) .nil))) (.cons 
  (.asg (.n 2) (.lc true (.tup (.cons (.v 3) (.cons (.mt (.v 0) "span_at_first" (.cons (.v 3) .nil)) .nil))) (.n 3) (.val (.mt (.v 0) "late" .nil)) .no)) (.cons 
  (.ret (.mk 9 (.cons (.mt (.at_ (.v 0) "program") "body" .nil) (.cons (.v 1) (.cons (.bi .tuple (.cons (.v 2) .nil)) .nil))))) .nil)))
def d68 : Df := ⟨"first", 1, ["self", "numbers", "spans", "name"], b68, false, true⟩
/-- Drive.span_at_first -/
def b69 : Sts := (.cons 
  (.asg (.n 2) (.bm .get (.at_ (.v 0) "known") (.cons (.v 1) .nil))) (.cons 
  (.ret (.ite (.isn false (.v 2)) (.g 6) (.call 23 (.cons (.tup (.cons (.v 2) (.cons (.v 2) .nil))) (.cons (.at_ (.v 0) "top") .nil))))) .nil))
def d69 : Df := ⟨"span_at_first", 2, ["self", "name", "number"], b69, false, true⟩
/-- Drive.act -/
def b70 : Sts := (.cons 
  (.asg (.n 2) (.at_ (.v 1) "body")) (.cons 
  (.asg (.n 3) (.ix (.v 2) (.ki 0))) (.cons 
  (.ifs (.cmp .eq (.v 3) (.ks "less")) (.cons 
  (.ret (.ite (.isn true (.mt (.v 0) "is_told" (.cons (.v 1) .nil))) .kn (.tup (.cons (.ks "ask") (.cons (.ix (.v 2) (.ki 1)) (.cons (.ix (.v 2) (.ki 2)) .nil)))))) .nil) .nil) (.cons 
  (.ifs (.cmp .eq (.v 3) (.ks "read")) (.cons 
  (.ret (.tup (.cons (.ks "read") (.cons (.at_ (.at_ (.v 0) "program") "letters") .nil)))) .nil) .nil) (.cons 
  (.ifs (.cmp .inn (.v 3) (.tup (.cons (.ks "put") (.cons (.ks "stop") .nil)))) (.cons 
  (.ret (.tup (.cons (.v 3) (.cons (.ix (.v 2) (.ki 1)) .nil)))) .nil) .nil) (.cons 
  (.ifs (.or (.cmp .eq (.v 3) (.ks "go")) (.cmp .inn (.ix (.v 2) (.ki 1)) (.at_ (.v 0) "early"))) (.cons 
  (.ret .kn) .nil) .nil) (.cons 
  (.ifs (.and (.cmp .eq (.v 3) (.ks "copy")) (.cmp .inn (.ix (.v 2) (.ki 2)) (.at_ (.v 0) "early"))) (.cons 
  (.ret (.tup (.cons (.ks "set") (.cons (.ix (.v 2) (.ki 1)) (.cons (.bi .min (.cons (.ix (.bi .dict (.cons (.at_ (.v 1) "numbers") .nil)) (.ix (.v 2) (.ki 2))) (.cons (.at_ (.v 0) "top") .nil))) .nil))))) .nil) .nil) (.cons 
  (.ret (.slc (.v 2) .kn (.neg (.ki 1)))) .nil))))))))
def d70 : Df := ⟨"act", 2, ["self", "state", "body", "word"], b70, false, true⟩
/-- Drive.is_told -/
def b71 : Sts := (.cons 
  (.asg (.t (.cons (.n 2) (.cons (.n 3) .nil))) (.slc (.at_ (.v 1) "body") (.ki 1) (.ki 3))) (.cons 
  (.ifs (.cmp .inn (.v 2) (.at_ (.v 0) "early")) (.cons 
  (.ret (.cmp .lt (.ix (.bi .dict (.cons (.at_ (.v 1) "numbers") .nil)) (.v 2)) (.v 3))) .nil) .nil) (.cons 
  (.ret (.call 21 (.cons (.ix (.bi .dict (.cons (.at_ (.v 1) "spans") .nil)) (.v 2)) (.cons (.v 3) .nil)))) .nil)))
def d71 : Df := ⟨"is_told", 2, ["self", "state", "name", "number"], b71, false, true⟩
/-- Drive.asked -/
def b72 : Sts := (.cons 
  (.asg (.n 2) (.at_ (.v 1) "body")) (.cons 
  (.asg (.n 3) (.mt (.v 0) "is_told" (.cons (.v 1) .nil))) (.cons 
  (.ifs (.isn true (.v 3)) (.cons 
  (.ret (.lst true (.cons (.mk 9 (.cons (.ite (.v 3) (.ix (.v 2) (.ki 3)) (.ix (.v 2) (.ki 4))) (.cons (.at_ (.v 1) "numbers") (.cons (.at_ (.v 1) "spans") .nil)))) .nil))) .nil) .nil) (.cons 
  (.asg (.n 4) (.ix (.bi .dict (.cons (.at_ (.v 1) "spans") .nil)) (.ix (.v 2) (.ki 1)))) (.cons 
  (.asg (.t (.cons (.n 5) (.cons (.n 6) .nil))) (.tup (.cons (.call 19 (.cons (.v 4) (.cons (.ix (.v 2) (.ki 2)) .nil))) (.cons (.call 20 (.cons (.v 4) (.cons (.ix (.v 2) (.ki 2)) .nil))) .nil)))) (.cons 
  (.ret (.lst true (.cons (.mk 9 (.cons (.ix (.v 2) (.ki 3)) (.cons (.at_ (.v 1) "numbers") (.cons (.call 30 (.cons (.at_ (.v 1) "spans") (.cons (.ix (.v 2) (.ki 1)) (.cons (.v 5) .nil)))) .nil)))) (.cons (.mk 9 (.cons (.ix (.v 2) (.ki 4)) (.cons (.at_ (.v 1) "numbers") (.cons (.call 30 (.cons (.at_ (.v 1) "spans") (.cons (.ix (.v 2) (.ki 1)) (.cons (.v 6) .nil)))) .nil)))) .nil)))) .nil))))))
def d72 : Df := ⟨"asked", 2, ["self", "state", "body", "is_so", "span", "yes", "no"], b72, false, true⟩
/-- Drive.done -/
def b73 : Sts := (.cons 
  (.asg (.n 2) (.at_ (.v 1) "body")) (.cons 
  (.asg (.n 3) (.ix (.v 2) (.ki 1))) (.cons 
  (.ifs (.cmp .inn (.v 3) (.at_ (.v 0) "early")) (.cons 
  (.asg (.n 5) (.mt (.v 0) "cap" (.cons (.call 28 (.cons (.v 2) (.cons (.bi .dict (.cons (.at_ (.v 1) "numbers") .nil)) .nil))) .nil))) (.cons 
  (.ret (.mk 9 (.cons (.ix (.v 2) (.neg (.ki 1))) (.cons (.call 30 (.cons (.at_ (.v 1) "numbers") (.cons (.v 3) (.cons (.v 5) .nil)))) (.cons (.at_ (.v 1) "spans") .nil))))) .nil)) .nil) (.cons 
  (.asg (.n 4) (.call 23 (.cons (.call 29 (.cons (.v 2) (.cons (.bi .dict (.cons (.at_ (.v 1) "numbers") .nil)) (.cons (.bi .dict (.cons (.at_ (.v 1) "spans") .nil)) .nil)))) (.cons (.at_ (.v 0) "top") .nil)))) (.cons 
  (.ret (.mk 9 (.cons (.ix (.v 2) (.neg (.ki 1))) (.cons (.at_ (.v 1) "numbers") (.cons (.call 30 (.cons (.at_ (.v 1) "spans") (.cons (.v 3) (.cons (.v 4) .nil)))) .nil))))) .nil)))))
def d73 : Df := ⟨"done", 2, ["self", "state", "body", "name", "span", "number"], b73, false, true⟩
/-- Web.__init__ -/
def b74 : Sts := (.cons 
  (.stA (.v 0) "states" (.v 1)) (.cons 
  (.stA (.v 0) "rows" (.v 2)) .nil))
def d74 : Df := ⟨"__init__", 3, ["self", "states", "rows"], b74, false, false⟩
/-- Web.__eq__ -/
def b75 : Sts := (.cons 
  (.ret (.and (.isi (.v 1) [.cls 11]) (.cmp .eq (.at_ (.v 0) "rows") (.at_ (.v 1) "rows")))) .nil)
def d75 : Df := ⟨"__eq__", 2, ["self", "other"], b75, false, true⟩
/-- Web.many -/
def b76 : Sts := (.cons 
  (.ret (.bi .len (.cons (.at_ (.v 0) "rows") .nil))) .nil)
def d76 : Df := ⟨"many", 1, ["self"], b76, false, true⟩
/-- NoWorse.__init__ -/
def b77 : Sts := (.cons 
  (.stA (.v 0) "fewer" (.v 1)) .nil)
def d77 : Df := ⟨"__init__", 2, ["self", "fewer"], b77, false, false⟩
/-- NoWorse.__bool__ -/
def b78 : Sts := (.cons 
  (.ret (.kb true)) .nil)
def d78 : Df := ⟨"__bool__", 1, ["self"], b78, false, true⟩
/-- NoWorse.__eq__ -/
def b79 : Sts := (.cons 
  (.ret (.and (.isi (.v 1) [.cls 12]) (.cmp .eq (.at_ (.v 0) "fewer") (.at_ (.v 1) "fewer")))) .nil)
def d79 : Df := ⟨"__eq__", 2, ["self", "other"], b79, false, true⟩
/-- Worse.__init__ -/
def b80 : Sts := (.cons 
  (.stA (.v 0) "word" (.v 1)) (.cons 
  (.stA (.v 0) "one" (.v 2)) (.cons 
  (.stA (.v 0) "other" (.v 3)) .nil)))
def d80 : Df := ⟨"__init__", 4, ["self", "word", "one", "other"], b80, false, false⟩
/-- Worse.__bool__ -/
def b81 : Sts := (.cons 
  (.ret (.kb false)) .nil)
def d81 : Df := ⟨"__bool__", 1, ["self"], b81, false, true⟩
/-- Worse.__eq__ -/
def b82 : Sts := (.cons 
  (.ifs (.or (.not (.isi (.v 1) [.cls 13])) (.cmp .ne (.at_ (.v 0) "word") (.at_ (.v 1) "word"))) (.cons 
  (.ret (.kb false)) .nil) .nil) (.cons 
  (.ret (.cmp .eq (.tup (.cons (.at_ (.v 0) "one") (.cons (.at_ (.v 0) "other") .nil))) (.tup (.cons (.at_ (.v 1) "one") (.cons (.at_ (.v 1) "other") .nil))))) .nil))
def d82 : Df := ⟨"__eq__", 2, ["self", "other"], b82, false, true⟩
/-- Ends.__init__ -/
def b83 : Sts := (.cons 
  (.stA (.v 0) "many" (.v 1)) .nil)
def d83 : Df := ⟨"__init__", 2, ["self", "many"], b83, false, false⟩
/-- Ends.__bool__ -/
def b84 : Sts := (.cons 
  (.ret (.kb true)) .nil)
def d84 : Df := ⟨"__bool__", 1, ["self"], b84, false, true⟩
/-- Ends.__eq__ -/
def b85 : Sts := (.cons 
  (.ret (.and (.isi (.v 1) [.cls 14]) (.cmp .eq (.at_ (.v 0) "many") (.at_ (.v 1) "many")))) .nil)
def d85 : Df := ⟨"__eq__", 2, ["self", "other"], b85, false, true⟩
/-- Grows.__init__ -/
def b86 : Sts := (.cons 
  (.stA (.v 0) "path" (.bi .tuple (.cons (.v 1) .nil))) (.cons 
  (.stA (.v 0) "ring" (.bi .tuple (.cons (.v 2) .nil))) (.cons 
  (.stA (.v 0) "name" (.v 3)) .nil)))
def d86 : Df := ⟨"__init__", 4, ["self", "path", "ring", "name"], b86, false, false⟩
/-- Grows.__bool__ -/
def b87 : Sts := (.cons 
  (.ret (.kb false)) .nil)
def d87 : Df := ⟨"__bool__", 1, ["self"], b87, false, true⟩
/-- Grows.__eq__ -/
def b88 : Sts := (.cons 
  (.ifs (.or (.not (.isi (.v 1) [.cls 15])) (.cmp .ne (.at_ (.v 0) "path") (.at_ (.v 1) "path"))) (.cons 
  (.ret (.kb false)) .nil) .nil) (.cons 
  (.ret (.cmp .eq (.tup (.cons (.at_ (.v 0) "ring") (.cons (.at_ (.v 0) "name") .nil))) (.tup (.cons (.at_ (.v 1) "ring") (.cons (.at_ (.v 1) "name") .nil))))) .nil))
def d88 : Df := ⟨"__eq__", 2, ["self", "other"], b88, false, true⟩
/-- Left.__init__ -/
def b89 : Sts := (.cons 
  (.stA (.v 0) "names" (.bi .tuple (.cons (.v 1) .nil))) .nil)
def d89 : Df := ⟨"__init__", 2, ["self", "names"], b89, false, false⟩
/-- Left.__bool__ -/
def b90 : Sts := (.cons 
  (.ret (.kb true)) .nil)
def d90 : Df := ⟨"__bool__", 1, ["self"], b90, false, true⟩
/-- Left.__eq__ -/
def b91 : Sts := (.cons 
  (.ret (.and (.isi (.v 1) [.cls 16]) (.cmp .eq (.at_ (.v 0) "names") (.at_ (.v 1) "names")))) .nil)
def d91 : Df := ⟨"__eq__", 2, ["self", "other"], b91, false, true⟩
/-- More.__init__ -/
def b92 : Sts := (.cons 
  (.stA (.v 0) "least" (.v 1)) .nil)
def d92 : Df := ⟨"__init__", 2, ["self", "least"], b92, false, false⟩
/-- More.__bool__ -/
def b93 : Sts := (.cons 
  (.ret (.kb false)) .nil)
def d93 : Df := ⟨"__bool__", 1, ["self"], b93, false, true⟩
/-- More.__eq__ -/
def b94 : Sts := (.cons 
  (.ret (.and (.isi (.v 1) [.cls 17]) (.cmp .eq (.at_ (.v 0) "least") (.at_ (.v 1) "least")))) .nil)
def d94 : Df := ⟨"__eq__", 2, ["self", "other"], b94, false, true⟩
/-- SameWebs.__init__ -/
def b95 : Sts := (.cons 
  (.stA (.v 0) "pairs" (.v 1)) .nil)
def d95 : Df := ⟨"__init__", 2, ["self", "pairs"], b95, false, false⟩
/-- SameWebs.__bool__ -/
def b96 : Sts := (.cons 
  (.ret (.kb true)) .nil)
def d96 : Df := ⟨"__bool__", 1, ["self"], b96, false, true⟩
/-- SameWebs.__eq__ -/
def b97 : Sts := (.cons 
  (.ret (.and (.isi (.v 1) [.cls 18]) (.cmp .eq (.at_ (.v 0) "pairs") (.at_ (.v 1) "pairs")))) .nil)
def d97 : Df := ⟨"__eq__", 2, ["self", "other"], b97, false, true⟩
/-- OtherWebs.__init__ -/
def b98 : Sts := (.cons 
  (.stA (.v 0) "path" (.bi .tuple (.cons (.v 1) .nil))) (.cons 
  (.stA (.v 0) "one" (.v 2)) (.cons 
  (.stA (.v 0) "other" (.v 3)) .nil)))
def d98 : Df := ⟨"__init__", 4, ["self", "path", "one", "other"], b98, false, false⟩
/-- OtherWebs.__bool__ -/
def b99 : Sts := (.cons 
  (.ret (.kb false)) .nil)
def d99 : Df := ⟨"__bool__", 1, ["self"], b99, false, true⟩
/-- OtherWebs.__eq__ -/
def b100 : Sts := (.cons 
  (.ifs (.or (.not (.isi (.v 1) [.cls 19])) (.cmp .ne (.at_ (.v 0) "path") (.at_ (.v 1) "path"))) (.cons 
  (.ret (.kb false)) .nil) .nil) (.cons 
  (.ret (.cmp .eq (.tup (.cons (.at_ (.v 0) "one") (.cons (.at_ (.v 0) "other") .nil))) (.tup (.cons (.at_ (.v 1) "one") (.cons (.at_ (.v 1) "other") .nil))))) .nil))
def d100 : Df := ⟨"__eq__", 2, ["self", "other"], b100, false, true⟩
/-- Decided.__init__ -/
def b101 : Sts := (.cons 
  (.stA (.v 0) "out" (.v 1)) .nil)
def d101 : Df := ⟨"__init__", 2, ["self", "out"], b101, false, false⟩
/-- Decided.__bool__ -/
def b102 : Sts := (.cons 
  (.ret (.kb true)) .nil)
def d102 : Df := ⟨"__bool__", 1, ["self"], b102, false, true⟩
/-- Decided.__eq__ -/
def b103 : Sts := (.cons 
  (.ret (.and (.isi (.v 1) [.cls 20]) (.cmp .eq (.at_ (.v 0) "out") (.at_ (.v 1) "out")))) .nil)
def d103 : Df := ⟨"__eq__", 2, ["self", "other"], b103, false, true⟩
/-- Open.__init__ -/
def b104 : Sts := (.cons 
  (.stA (.v 0) "path" (.bi .tuple (.cons (.v 1) .nil))) .nil)
def d104 : Df := ⟨"__init__", 2, ["self", "path"], b104, false, false⟩
/-- Open.__bool__ -/
def b105 : Sts := (.cons 
  (.ret (.kb false)) .nil)
def d105 : Df := ⟨"__bool__", 1, ["self"], b105, false, true⟩
/-- Open.__eq__ -/
def b106 : Sts := (.cons 
  (.ret (.and (.isi (.v 1) [.cls 21]) (.cmp .eq (.at_ (.v 0) "path") (.at_ (.v 1) "path")))) .nil)
def d106 : Df := ⟨"__eq__", 2, ["self", "other"], b106, false, true⟩
/-- LeanEnds.__init__ -/
def b107 : Sts := (.cons 
  (.stA (.v 0) "many" (.v 1)) .nil)
def d107 : Df := ⟨"__init__", 2, ["self", "many"], b107, false, false⟩
/-- LeanEnds.__bool__ -/
def b108 : Sts := (.cons 
  (.ret (.kb true)) .nil)
def d108 : Df := ⟨"__bool__", 1, ["self"], b108, false, true⟩
/-- LeanEnds.__eq__ -/
def b109 : Sts := (.cons 
  (.ret (.and (.isi (.v 1) [.cls 22]) (.cmp .eq (.at_ (.v 0) "many") (.at_ (.v 1) "many")))) .nil)
def d109 : Df := ⟨"__eq__", 2, ["self", "other"], b109, false, true⟩
/-- LeanGrows.__init__ -/
def b110 : Sts := (.cons 
  (.stA (.v 0) "name" (.v 1)) .nil)
def d110 : Df := ⟨"__init__", 2, ["self", "name"], b110, false, false⟩
/-- LeanGrows.__bool__ -/
def b111 : Sts := (.cons 
  (.ret (.kb false)) .nil)
def d111 : Df := ⟨"__bool__", 1, ["self"], b111, false, true⟩
/-- LeanGrows.__eq__ -/
def b112 : Sts := (.cons 
  (.ret (.and (.isi (.v 1) [.cls 23]) (.cmp .eq (.at_ (.v 0) "name") (.at_ (.v 1) "name")))) .nil)
def d112 : Df := ⟨"__eq__", 2, ["self", "other"], b112, false, true⟩
/-- SameButNames.__init__ -/
def b113 : Sts := (.cons 
  (.stA (.v 0) "many" (.v 1)) .nil)
def d113 : Df := ⟨"__init__", 2, ["self", "many"], b113, false, false⟩
/-- SameButNames.__bool__ -/
def b114 : Sts := (.cons 
  (.ret (.kb true)) .nil)
def d114 : Df := ⟨"__bool__", 1, ["self"], b114, false, true⟩
/-- SameButNames.__eq__ -/
def b115 : Sts := (.cons 
  (.ret (.and (.isi (.v 1) [.cls 24]) (.cmp .eq (.at_ (.v 0) "many") (.at_ (.v 1) "many")))) .nil)
def d115 : Df := ⟨"__eq__", 2, ["self", "other"], b115, false, true⟩
/-- Unlike.__init__ -/
def b116 : Sts := (.cons 
  (.stA (.v 0) "number" (.v 1)) (.cons 
  (.stA (.v 0) "path" (.bi .tuple (.cons (.v 2) .nil))) .nil))
def d116 : Df := ⟨"__init__", 3, ["self", "number", "path"], b116, false, false⟩
/-- Unlike.__bool__ -/
def b117 : Sts := (.cons 
  (.ret (.kb false)) .nil)
def d117 : Df := ⟨"__bool__", 1, ["self"], b117, false, true⟩
/-- Unlike.__eq__ -/
def b118 : Sts := (.cons 
  (.ret (.and (.isi (.v 1) [.cls 25]) (.cmp .eq (.tup (.cons (.at_ (.v 0) "number") (.cons (.at_ (.v 0) "path") .nil))) (.tup (.cons (.at_ (.v 1) "number") (.cons (.at_ (.v 1) "path") .nil)))))) .nil)
def d118 : Df := ⟨"__eq__", 2, ["self", "other"], b118, false, true⟩
/-- Plainer.__init__ -/
def b119 : Sts := (.cons 
  (.stA (.v 0) "fewer" (.v 1)) .nil)
def d119 : Df := ⟨"__init__", 2, ["self", "fewer"], b119, false, false⟩
/-- Plainer.__bool__ -/
def b120 : Sts := (.cons 
  (.ret (.kb true)) .nil)
def d120 : Df := ⟨"__bool__", 1, ["self"], b120, false, true⟩
/-- Plainer.__eq__ -/
def b121 : Sts := (.cons 
  (.ret (.and (.isi (.v 1) [.cls 26]) (.cmp .eq (.at_ (.v 0) "fewer") (.at_ (.v 1) "fewer")))) .nil)
def d121 : Df := ⟨"__eq__", 2, ["self", "other"], b121, false, true⟩
/-- Spoilt.__init__ -/
def b122 : Sts := (.cons 
  (.stA (.v 0) "word" (.v 1)) .nil)
def d122 : Df := ⟨"__init__", 2, ["self", "word"], b122, false, false⟩
/-- Spoilt.__bool__ -/
def b123 : Sts := (.cons 
  (.ret (.kb false)) .nil)
def d123 : Df := ⟨"__bool__", 1, ["self"], b123, false, true⟩
/-- Spoilt.__eq__ -/
def b124 : Sts := (.cons 
  (.ret (.and (.isi (.v 1) [.cls 27]) (.cmp .eq (.at_ (.v 0) "word") (.at_ (.v 1) "word")))) .nil)
def d124 : Df := ⟨"__eq__", 2, ["self", "other"], b124, false, true⟩
/-- AlwaysStops.__init__ -/
def b125 : Sts := (.cons 
  (.stA (.v 0) "many" (.v 1)) .nil)
def d125 : Df := ⟨"__init__", 2, ["self", "many"], b125, false, false⟩
/-- AlwaysStops.__bool__ -/
def b126 : Sts := (.cons 
  (.ret (.kb true)) .nil)
def d126 : Df := ⟨"__bool__", 1, ["self"], b126, false, true⟩
/-- AlwaysStops.__eq__ -/
def b127 : Sts := (.cons 
  (.ret (.and (.isi (.v 1) [.cls 28]) (.cmp .eq (.at_ (.v 0) "many") (.at_ (.v 1) "many")))) .nil)
def d127 : Df := ⟨"__eq__", 2, ["self", "other"], b127, false, true⟩
/-- CanHang.__init__ -/
def b128 : Sts := (.cons 
  (.stA (.v 0) "numbers" (.bi .dict (.cons (.v 1) .nil))) (.cons 
  (.stA (.v 0) "word" (.v 2)) .nil))
def d128 : Df := ⟨"__init__", 3, ["self", "numbers", "word"], b128, false, false⟩
/-- CanHang.__bool__ -/
def b129 : Sts := (.cons 
  (.ret (.kb false)) .nil)
def d129 : Df := ⟨"__bool__", 1, ["self"], b129, false, true⟩
/-- CanHang.__eq__ -/
def b130 : Sts := (.cons 
  (.ret (.and (.isi (.v 1) [.cls 29]) (.cmp .eq (.tup (.cons (.at_ (.v 0) "numbers") (.cons (.at_ (.v 0) "word") .nil))) (.tup (.cons (.at_ (.v 1) "numbers") (.cons (.at_ (.v 1) "word") .nil)))))) .nil)
def d130 : Df := ⟨"__eq__", 2, ["self", "other"], b130, false, true⟩
/-- NeverPuts.__init__ -/
def b131 : Sts := (.cons 
  (.stA (.v 0) "many" (.v 1)) .nil)
def d131 : Df := ⟨"__init__", 2, ["self", "many"], b131, false, false⟩
/-- NeverPuts.__bool__ -/
def b132 : Sts := (.cons 
  (.ret (.kb true)) .nil)
def d132 : Df := ⟨"__bool__", 1, ["self"], b132, false, true⟩
/-- NeverPuts.__eq__ -/
def b133 : Sts := (.cons 
  (.ret (.and (.isi (.v 1) [.cls 30]) (.cmp .eq (.at_ (.v 0) "many") (.at_ (.v 1) "many")))) .nil)
def d133 : Df := ⟨"__eq__", 2, ["self", "other"], b133, false, true⟩
/-- Puts.__init__ -/
def b134 : Sts := (.cons 
  (.stA (.v 0) "numbers" (.bi .dict (.cons (.v 1) .nil))) (.cons 
  (.stA (.v 0) "word" (.v 2)) .nil))
def d134 : Df := ⟨"__init__", 3, ["self", "numbers", "word"], b134, false, false⟩
/-- Puts.__bool__ -/
def b135 : Sts := (.cons 
  (.ret (.kb false)) .nil)
def d135 : Df := ⟨"__bool__", 1, ["self"], b135, false, true⟩
/-- Puts.__eq__ -/
def b136 : Sts := (.cons 
  (.ret (.and (.isi (.v 1) [.cls 31]) (.cmp .eq (.tup (.cons (.at_ (.v 0) "numbers") (.cons (.at_ (.v 0) "word") .nil))) (.tup (.cons (.at_ (.v 1) "numbers") (.cons (.at_ (.v 1) "word") .nil)))))) .nil)
def d136 : Df := ⟨"__eq__", 2, ["self", "other"], b136, false, true⟩
def tx : Tx := ⟨[(d0, top 0), (d1, top 8), (d2, top 9), (d3, top 10), (d4, top 11), (d5, top 12), (d6, top 19), (d7, top 20), (d8, top 21), (d9, top 22), (d10, top 23), (d11, top 24), (d12, top 25), (d13, top 26), (d14, top 27), (d15, top 29), (d16, top 30), (d17, top 31), (d18, top 38), (d19, top 39), (d20, top 40), (d21, top 41), (d22, top 42), (d23, top 43), (d24, top 50), (d25, top 51), (d26, top 52), (d27, top 53), (d28, top 59), (d29, top 60), (d30, top 61), (d31, top 93), (d32, top 94), (d33, top 95), (d34, top 96)],
  [(d35, ("Program" : Str), cls 18 0), (d36, ("Program" : Str), cls 18 1), (d37, ("Program" : Str), cls 18 2), (d38, ("Answer" : Str), cls 33 0), (d39, ("Answer" : Str), cls 33 1), (d40, ("Stops" : Str), cls 34 0), (d41, ("Stops" : Str), cls 34 1), (d42, ("Stops" : Str), cls 34 2), (d43, ("Hangs" : Str), cls 35 0), (d44, ("Hangs" : Str), cls 35 1), (d45, ("Hangs" : Str), cls 35 2), (d46, ("Look" : Str), cls 45 0), (d47, ("Look" : Str), cls 45 1), (d48, ("Look" : Str), cls 45 2), (d49, ("Alike" : Str), cls 47 0), (d50, ("Alike" : Str), cls 47 1), (d51, ("Alike" : Str), cls 47 2), (d52, ("Differs" : Str), cls 48 0), (d53, ("Differs" : Str), cls 48 1), (d54, ("Differs" : Str), cls 48 2), (d55, ("Apart" : Str), cls 54 0), (d56, ("Apart" : Str), cls 54 1), (d57, ("Apart" : Str), cls 54 2), (d58, ("Leads" : Str), cls 55 0), (d59, ("Leads" : Str), cls 55 1), (d60, ("Leads" : Str), cls 55 2), (d61, ("State" : Str), cls 57 0), (d62, ("State" : Str), cls 57 1), (d63, ("State" : Str), cls 57 2), (d64, ("Drive" : Str), cls 58 0), (d65, ("Drive" : Str), cls 58 1), (d66, ("Drive" : Str), cls 58 2), (d67, ("Drive" : Str), cls 58 3), (d68, ("Drive" : Str), cls 58 4), (d69, ("Drive" : Str), cls 58 5), (d70, ("Drive" : Str), cls 58 6), (d71, ("Drive" : Str), cls 58 7), (d72, ("Drive" : Str), cls 58 9), (d73, ("Drive" : Str), cls 58 10), (d74, ("Web" : Str), cls 62 0), (d75, ("Web" : Str), cls 62 1), (d76, ("Web" : Str), cls 62 2), (d77, ("NoWorse" : Str), cls 64 0), (d78, ("NoWorse" : Str), cls 64 1), (d79, ("NoWorse" : Str), cls 64 2), (d80, ("Worse" : Str), cls 65 0), (d81, ("Worse" : Str), cls 65 1), (d82, ("Worse" : Str), cls 65 2), (d83, ("Ends" : Str), cls 67 0), (d84, ("Ends" : Str), cls 67 1), (d85, ("Ends" : Str), cls 67 2), (d86, ("Grows" : Str), cls 68 0), (d87, ("Grows" : Str), cls 68 1), (d88, ("Grows" : Str), cls 68 2), (d89, ("Left" : Str), cls 70 0), (d90, ("Left" : Str), cls 70 1), (d91, ("Left" : Str), cls 70 2), (d92, ("More" : Str), cls 71 0), (d93, ("More" : Str), cls 71 1), (d94, ("More" : Str), cls 71 2), (d95, ("SameWebs" : Str), cls 73 0), (d96, ("SameWebs" : Str), cls 73 1), (d97, ("SameWebs" : Str), cls 73 2), (d98, ("OtherWebs" : Str), cls 74 0), (d99, ("OtherWebs" : Str), cls 74 1), (d100, ("OtherWebs" : Str), cls 74 2), (d101, ("Decided" : Str), cls 76 0), (d102, ("Decided" : Str), cls 76 1), (d103, ("Decided" : Str), cls 76 2), (d104, ("Open" : Str), cls 77 0), (d105, ("Open" : Str), cls 77 1), (d106, ("Open" : Str), cls 77 2), (d107, ("LeanEnds" : Str), cls 79 0), (d108, ("LeanEnds" : Str), cls 79 1), (d109, ("LeanEnds" : Str), cls 79 2), (d110, ("LeanGrows" : Str), cls 80 0), (d111, ("LeanGrows" : Str), cls 80 1), (d112, ("LeanGrows" : Str), cls 80 2), (d113, ("SameButNames" : Str), cls 82 0), (d114, ("SameButNames" : Str), cls 82 1), (d115, ("SameButNames" : Str), cls 82 2), (d116, ("Unlike" : Str), cls 83 0), (d117, ("Unlike" : Str), cls 83 1), (d118, ("Unlike" : Str), cls 83 2), (d119, ("Plainer" : Str), cls 85 0), (d120, ("Plainer" : Str), cls 85 1), (d121, ("Plainer" : Str), cls 85 2), (d122, ("Spoilt" : Str), cls 86 0), (d123, ("Spoilt" : Str), cls 86 1), (d124, ("Spoilt" : Str), cls 86 2), (d125, ("AlwaysStops" : Str), cls 88 0), (d126, ("AlwaysStops" : Str), cls 88 1), (d127, ("AlwaysStops" : Str), cls 88 2), (d128, ("CanHang" : Str), cls 89 0), (d129, ("CanHang" : Str), cls 89 1), (d130, ("CanHang" : Str), cls 89 2), (d131, ("NeverPuts" : Str), cls 90 0), (d132, ("NeverPuts" : Str), cls 90 1), (d133, ("NeverPuts" : Str), cls 90 2), (d134, ("Puts" : Str), cls 91 0), (d135, ("Puts" : Str), cls 91 1), (d136, ("Puts" : Str), cls 91 2)],
  [⟨"BadProgram", ["part", "thing"], cls 4 0⟩, ⟨"BadName", ["name"], cls 3 0⟩],
  [("LETTERS", (.str "abcdefghijklmnopqrstuvwxyz")), ("FIGURES", (.str "0123456789")), ("MOST_TEST", (.int 6)), ("MOST_REGISTERS", (.int 6)), ("MOST_FUNCTIONS", (.int 400)), ("MOST_DEEP", (.int 12)), ("ALL", (.tup [(.int 0), .non]))],
  ["isinstance", "list", "tuple", "int", "bool", "str", "len", "all", "dict", "sorted", "max", "min", "range"],
  [(0, 0), (1, 1)],
  [⟨"Program", ["letters", "registers", "functions", "first"], [("__init__", 35), ("__eq__", 36), ("body", 37)], false⟩, ⟨"Answer", ["what", "steps"], [("__init__", 38), ("__eq__", 39)], true⟩, ⟨"Stops", ["out", "steps"], [("__init__", 40), ("__bool__", 41), ("__eq__", 42)], true⟩, ⟨"Hangs", ["lead", "ring"], [("__init__", 43), ("__bool__", 44), ("__eq__", 45)], true⟩, ⟨"Look", ["body", "rows"], [("__init__", 46), ("__eq__", 47), ("told", 48)], true⟩, ⟨"Alike", ["pairs"], [("__init__", 49), ("__bool__", 50), ("__eq__", 51)], true⟩, ⟨"Differs", ["numbers", "word"], [("__init__", 52), ("__bool__", 53), ("__eq__", 54)], true⟩, ⟨"Apart", ["known", "late"], [("__init__", 55), ("__bool__", 56), ("__eq__", 57)], true⟩, ⟨"Leads", ["names"], [("__init__", 58), ("__bool__", 59), ("__eq__", 60)], true⟩, ⟨"State", ["body", "numbers", "spans"], [("__init__", 61), ("__eq__", 62), ("told", 63)], true⟩, ⟨"Drive", ["program", "known", "later", "bound", "top", "early"], [("__init__", 64), ("__eq__", 65), ("late", 66), ("cap", 67), ("first", 68), ("span_at_first", 69), ("act", 70), ("is_told", 71), ("asked", 72), ("done", 73)], true⟩, ⟨"Web", ["states", "rows"], [("__init__", 74), ("__eq__", 75), ("many", 76)], true⟩, ⟨"NoWorse", ["fewer"], [("__init__", 77), ("__bool__", 78), ("__eq__", 79)], true⟩, ⟨"Worse", ["word", "one", "other"], [("__init__", 80), ("__bool__", 81), ("__eq__", 82)], true⟩, ⟨"Ends", ["many"], [("__init__", 83), ("__bool__", 84), ("__eq__", 85)], true⟩, ⟨"Grows", ["path", "ring", "name"], [("__init__", 86), ("__bool__", 87), ("__eq__", 88)], true⟩, ⟨"Left", ["names"], [("__init__", 89), ("__bool__", 90), ("__eq__", 91)], true⟩, ⟨"More", ["least"], [("__init__", 92), ("__bool__", 93), ("__eq__", 94)], true⟩, ⟨"SameWebs", ["pairs"], [("__init__", 95), ("__bool__", 96), ("__eq__", 97)], true⟩, ⟨"OtherWebs", ["path", "one", "other"], [("__init__", 98), ("__bool__", 99), ("__eq__", 100)], true⟩, ⟨"Decided", ["out"], [("__init__", 101), ("__bool__", 102), ("__eq__", 103)], true⟩, ⟨"Open", ["path"], [("__init__", 104), ("__bool__", 105), ("__eq__", 106)], true⟩, ⟨"LeanEnds", ["many"], [("__init__", 107), ("__bool__", 108), ("__eq__", 109)], true⟩, ⟨"LeanGrows", ["name"], [("__init__", 110), ("__bool__", 111), ("__eq__", 112)], true⟩, ⟨"SameButNames", ["many"], [("__init__", 113), ("__bool__", 114), ("__eq__", 115)], true⟩, ⟨"Unlike", ["number", "path"], [("__init__", 116), ("__bool__", 117), ("__eq__", 118)], true⟩, ⟨"Plainer", ["fewer"], [("__init__", 119), ("__bool__", 120), ("__eq__", 121)], true⟩, ⟨"Spoilt", ["word"], [("__init__", 122), ("__bool__", 123), ("__eq__", 124)], true⟩, ⟨"AlwaysStops", ["many"], [("__init__", 125), ("__bool__", 126), ("__eq__", 127)], true⟩, ⟨"CanHang", ["numbers", "word"], [("__init__", 128), ("__bool__", 129), ("__eq__", 130)], true⟩, ⟨"NeverPuts", ["many"], [("__init__", 131), ("__bool__", 132), ("__eq__", 133)], true⟩, ⟨"Puts", ["numbers", "word"], [("__init__", 134), ("__bool__", 135), ("__eq__", 136)], true⟩], 100000⟩
theorem ok0 : DfOk tx.w d0 (defArgs (top 0)) (defBody (top 0)) (defScope (top 0)) :=
  ⟨fnScope_by (by decide +kernel), rfl, by decide +kernel, fun x q kV doc pm an cdv ct us hl => match us, hl with | [_], _ => rfl⟩
theorem ok1 : DfOk tx.w d1 (defArgs (top 8)) (defBody (top 8)) (defScope (top 8)) :=
  ⟨fnScope_by (by decide +kernel), rfl, by decide +kernel, fun x q kV doc pm an cdv ct us hl => match us, hl with | [_], _ => rfl⟩
theorem ok2 : DfOk tx.w d2 (defArgs (top 9)) (defBody (top 9)) (defScope (top 9)) :=
  ⟨fnScope_by (by decide +kernel), rfl, by decide +kernel, fun x q kV doc pm an cdv ct us hl => match us, hl with | [_], _ => rfl⟩
theorem ok3 : DfOk tx.w d3 (defArgs (top 10)) (defBody (top 10)) (defScope (top 10)) :=
  ⟨fnScope_by (by decide +kernel), rfl, by decide +kernel, fun x q kV doc pm an cdv ct us hl => match us, hl with | [_, _], _ => rfl⟩
theorem ok4 : DfOk tx.w d4 (defArgs (top 11)) (defBody (top 11)) (defScope (top 11)) :=
  ⟨fnScope_by (by decide +kernel), rfl, by decide +kernel, fun x q kV doc pm an cdv ct us hl => match us, hl with | [_], _ => rfl⟩
theorem ok5 : DfOk tx.w d5 (defArgs (top 12)) (defBody (top 12)) (defScope (top 12)) :=
  ⟨fnScope_by (by decide +kernel), rfl, by decide +kernel, fun x q kV doc pm an cdv ct us hl => match us, hl with | [_, _], _ => rfl⟩
theorem ok6 : DfOk tx.w d6 (defArgs (top 19)) (defBody (top 19)) (defScope (top 19)) :=
  ⟨fnScope_by (by decide +kernel), rfl, by decide +kernel, fun x q kV doc pm an cdv ct us hl => match us, hl with | [_], _ => rfl⟩
theorem ok7 : DfOk tx.w d7 (defArgs (top 20)) (defBody (top 20)) (defScope (top 20)) :=
  ⟨fnScope_by (by decide +kernel), rfl, by decide +kernel, fun x q kV doc pm an cdv ct us hl => match us, hl with | [_, _, _], _ => rfl⟩
theorem ok8 : DfOk tx.w d8 (defArgs (top 21)) (defBody (top 21)) (defScope (top 21)) :=
  ⟨fnScope_by (by decide +kernel), rfl, by decide +kernel, fun x q kV doc pm an cdv ct us hl => match us, hl with | [_, _], _ => rfl⟩
theorem ok9 : DfOk tx.w d9 (defArgs (top 22)) (defBody (top 22)) (defScope (top 22)) :=
  ⟨fnScope_by (by decide +kernel), rfl, by decide +kernel, fun x q kV doc pm an cdv ct us hl => match us, hl with | [_, _], _ => rfl⟩
theorem ok10 : DfOk tx.w d10 (defArgs (top 23)) (defBody (top 23)) (defScope (top 23)) :=
  ⟨fnScope_by (by decide +kernel), rfl, by decide +kernel, fun x q kV doc pm an cdv ct us hl => match us, hl with | [_], _ => rfl⟩
theorem ok11 : DfOk tx.w d11 (defArgs (top 24)) (defBody (top 24)) (defScope (top 24)) :=
  ⟨fnScope_by (by decide +kernel), rfl, by decide +kernel, fun x q kV doc pm an cdv ct us hl => match us, hl with | [_], _ => rfl⟩
theorem ok12 : DfOk tx.w d12 (defArgs (top 25)) (defBody (top 25)) (defScope (top 25)) :=
  ⟨fnScope_by (by decide +kernel), rfl, by decide +kernel, fun x q kV doc pm an cdv ct us hl => match us, hl with | [_], _ => rfl⟩
theorem ok13 : DfOk tx.w d13 (defArgs (top 26)) (defBody (top 26)) (defScope (top 26)) :=
  ⟨fnScope_by (by decide +kernel), rfl, by decide +kernel, fun x q kV doc pm an cdv ct us hl => match us, hl with | [_, _], _ => rfl⟩
theorem ok14 : DfOk tx.w d14 (defArgs (top 27)) (defBody (top 27)) (defScope (top 27)) :=
  ⟨fnScope_by (by decide +kernel), rfl, by decide +kernel, fun x q kV doc pm an cdv ct us hl => match us, hl with | [_, _], _ => rfl⟩
theorem ok15 : DfOk tx.w d15 (defArgs (top 29)) (defBody (top 29)) (defScope (top 29)) :=
  ⟨fnScope_by (by decide +kernel), rfl, by decide +kernel, fun x q kV doc pm an cdv ct us hl => match us, hl with | [_], _ => rfl⟩
theorem ok16 : DfOk tx.w d16 (defArgs (top 30)) (defBody (top 30)) (defScope (top 30)) :=
  ⟨fnScope_by (by decide +kernel), rfl, by decide +kernel, fun x q kV doc pm an cdv ct us hl => match us, hl with | [_], _ => rfl⟩
theorem ok17 : DfOk tx.w d17 (defArgs (top 31)) (defBody (top 31)) (defScope (top 31)) :=
  ⟨fnScope_by (by decide +kernel), rfl, by decide +kernel, fun x q kV doc pm an cdv ct us hl => match us, hl with | [_], _ => rfl⟩
theorem ok18 : DfOk tx.w d18 (defArgs (top 38)) (defBody (top 38)) (defScope (top 38)) :=
  ⟨fnScope_by (by decide +kernel), rfl, by decide +kernel, fun x q kV doc pm an cdv ct us hl => match us, hl with | [_], _ => rfl⟩
theorem ok19 : DfOk tx.w d19 (defArgs (top 39)) (defBody (top 39)) (defScope (top 39)) :=
  ⟨fnScope_by (by decide +kernel), rfl, by decide +kernel, fun x q kV doc pm an cdv ct us hl => match us, hl with | [_, _], _ => rfl⟩
theorem ok20 : DfOk tx.w d20 (defArgs (top 40)) (defBody (top 40)) (defScope (top 40)) :=
  ⟨fnScope_by (by decide +kernel), rfl, by decide +kernel, fun x q kV doc pm an cdv ct us hl => match us, hl with | [_, _], _ => rfl⟩
theorem ok21 : DfOk tx.w d21 (defArgs (top 41)) (defBody (top 41)) (defScope (top 41)) :=
  ⟨fnScope_by (by decide +kernel), rfl, by decide +kernel, fun x q kV doc pm an cdv ct us hl => match us, hl with | [_, _], _ => rfl⟩
theorem ok22 : DfOk tx.w d22 (defArgs (top 42)) (defBody (top 42)) (defScope (top 42)) :=
  ⟨fnScope_by (by decide +kernel), rfl, by decide +kernel, fun x q kV doc pm an cdv ct us hl => match us, hl with | [_, _], _ => rfl⟩
theorem ok23 : DfOk tx.w d23 (defArgs (top 43)) (defBody (top 43)) (defScope (top 43)) :=
  ⟨fnScope_by (by decide +kernel), rfl, by decide +kernel, fun x q kV doc pm an cdv ct us hl => match us, hl with | [_, _], _ => rfl⟩
theorem ok24 : DfOk tx.w d24 (defArgs (top 50)) (defBody (top 50)) (defScope (top 50)) :=
  ⟨fnScope_by (by decide +kernel), rfl, by decide +kernel, fun x q kV doc pm an cdv ct us hl => match us, hl with | [_, _], _ => rfl⟩
theorem ok25 : DfOk tx.w d25 (defArgs (top 51)) (defBody (top 51)) (defScope (top 51)) :=
  ⟨fnScope_by (by decide +kernel), rfl, by decide +kernel, fun x q kV doc pm an cdv ct us hl => match us, hl with | [_], _ => rfl⟩
theorem ok26 : DfOk tx.w d26 (defArgs (top 52)) (defBody (top 52)) (defScope (top 52)) :=
  ⟨fnScope_by (by decide +kernel), rfl, by decide +kernel, fun x q kV doc pm an cdv ct us hl => match us, hl with | [_, _], _ => rfl⟩
theorem ok27 : DfOk tx.w d27 (defArgs (top 53)) (defBody (top 53)) (defScope (top 53)) :=
  ⟨fnScope_by (by decide +kernel), rfl, by decide +kernel, fun x q kV doc pm an cdv ct us hl => match us, hl with | [_, _], _ => rfl⟩
theorem ok28 : DfOk tx.w d28 (defArgs (top 59)) (defBody (top 59)) (defScope (top 59)) :=
  ⟨fnScope_by (by decide +kernel), rfl, by decide +kernel, fun x q kV doc pm an cdv ct us hl => match us, hl with | [_, _], _ => rfl⟩
theorem ok29 : DfOk tx.w d29 (defArgs (top 60)) (defBody (top 60)) (defScope (top 60)) :=
  ⟨fnScope_by (by decide +kernel), rfl, by decide +kernel, fun x q kV doc pm an cdv ct us hl => match us, hl with | [_, _, _], _ => rfl⟩
theorem ok30 : DfOk tx.w d30 (defArgs (top 61)) (defBody (top 61)) (defScope (top 61)) :=
  ⟨fnScope_by (by decide +kernel), rfl, by decide +kernel, fun x q kV doc pm an cdv ct us hl => match us, hl with | [_, _, _], _ => rfl⟩
theorem ok31 : DfOk tx.w d31 (defArgs (top 93)) (defBody (top 93)) (defScope (top 93)) :=
  ⟨fnScope_by (by decide +kernel), rfl, by decide +kernel, fun x q kV doc pm an cdv ct us hl => match us, hl with | [_, _], _ => rfl⟩
theorem ok32 : DfOk tx.w d32 (defArgs (top 94)) (defBody (top 94)) (defScope (top 94)) :=
  ⟨fnScope_by (by decide +kernel), rfl, by decide +kernel, fun x q kV doc pm an cdv ct us hl => match us, hl with | [_, _], _ => rfl⟩
theorem ok33 : DfOk tx.w d33 (defArgs (top 95)) (defBody (top 95)) (defScope (top 95)) :=
  ⟨fnScope_by (by decide +kernel), rfl, by decide +kernel, fun x q kV doc pm an cdv ct us hl => match us, hl with | [], _ => rfl⟩
theorem ok34 : DfOk tx.w d34 (defArgs (top 96)) (defBody (top 96)) (defScope (top 96)) :=
  ⟨fnScope_by (by decide +kernel), rfl, by decide +kernel, fun x q kV doc pm an cdv ct us hl => match us, hl with | [_], _ => rfl⟩
theorem ok35 : DfOk tx.w d35 (defArgs (cls 18 0)) (defBody (cls 18 0)) (defScope (cls 18 0)) :=
  ⟨fnScope_by (by decide +kernel), rfl, by decide +kernel, fun x q kV doc pm an cdv ct us hl => match us, hl with | [_, _, _, _, _], _ => rfl⟩
theorem ok36 : DfOk tx.w d36 (defArgs (cls 18 1)) (defBody (cls 18 1)) (defScope (cls 18 1)) :=
  ⟨fnScope_by (by decide +kernel), rfl, by decide +kernel, fun x q kV doc pm an cdv ct us hl => match us, hl with | [_, _], _ => rfl⟩
theorem ok37 : DfOk tx.w d37 (defArgs (cls 18 2)) (defBody (cls 18 2)) (defScope (cls 18 2)) :=
  ⟨fnScope_by (by decide +kernel), rfl, by decide +kernel, fun x q kV doc pm an cdv ct us hl => match us, hl with | [_], _ => rfl⟩
theorem ok38 : DfOk tx.w d38 (defArgs (cls 33 0)) (defBody (cls 33 0)) (defScope (cls 33 0)) :=
  ⟨fnScope_by (by decide +kernel), rfl, by decide +kernel, fun x q kV doc pm an cdv ct us hl => match us, hl with | [_, _, _], _ => rfl⟩
theorem ok39 : DfOk tx.w d39 (defArgs (cls 33 1)) (defBody (cls 33 1)) (defScope (cls 33 1)) :=
  ⟨fnScope_by (by decide +kernel), rfl, by decide +kernel, fun x q kV doc pm an cdv ct us hl => match us, hl with | [_, _], _ => rfl⟩
theorem ok40 : DfOk tx.w d40 (defArgs (cls 34 0)) (defBody (cls 34 0)) (defScope (cls 34 0)) :=
  ⟨fnScope_by (by decide +kernel), rfl, by decide +kernel, fun x q kV doc pm an cdv ct us hl => match us, hl with | [_, _, _], _ => rfl⟩
theorem ok41 : DfOk tx.w d41 (defArgs (cls 34 1)) (defBody (cls 34 1)) (defScope (cls 34 1)) :=
  ⟨fnScope_by (by decide +kernel), rfl, by decide +kernel, fun x q kV doc pm an cdv ct us hl => match us, hl with | [_], _ => rfl⟩
theorem ok42 : DfOk tx.w d42 (defArgs (cls 34 2)) (defBody (cls 34 2)) (defScope (cls 34 2)) :=
  ⟨fnScope_by (by decide +kernel), rfl, by decide +kernel, fun x q kV doc pm an cdv ct us hl => match us, hl with | [_, _], _ => rfl⟩
theorem ok43 : DfOk tx.w d43 (defArgs (cls 35 0)) (defBody (cls 35 0)) (defScope (cls 35 0)) :=
  ⟨fnScope_by (by decide +kernel), rfl, by decide +kernel, fun x q kV doc pm an cdv ct us hl => match us, hl with | [_, _, _], _ => rfl⟩
theorem ok44 : DfOk tx.w d44 (defArgs (cls 35 1)) (defBody (cls 35 1)) (defScope (cls 35 1)) :=
  ⟨fnScope_by (by decide +kernel), rfl, by decide +kernel, fun x q kV doc pm an cdv ct us hl => match us, hl with | [_], _ => rfl⟩
theorem ok45 : DfOk tx.w d45 (defArgs (cls 35 2)) (defBody (cls 35 2)) (defScope (cls 35 2)) :=
  ⟨fnScope_by (by decide +kernel), rfl, by decide +kernel, fun x q kV doc pm an cdv ct us hl => match us, hl with | [_, _], _ => rfl⟩
theorem ok46 : DfOk tx.w d46 (defArgs (cls 45 0)) (defBody (cls 45 0)) (defScope (cls 45 0)) :=
  ⟨fnScope_by (by decide +kernel), rfl, by decide +kernel, fun x q kV doc pm an cdv ct us hl => match us, hl with | [_, _, _], _ => rfl⟩
theorem ok47 : DfOk tx.w d47 (defArgs (cls 45 1)) (defBody (cls 45 1)) (defScope (cls 45 1)) :=
  ⟨fnScope_by (by decide +kernel), rfl, by decide +kernel, fun x q kV doc pm an cdv ct us hl => match us, hl with | [_, _], _ => rfl⟩
theorem ok48 : DfOk tx.w d48 (defArgs (cls 45 2)) (defBody (cls 45 2)) (defScope (cls 45 2)) :=
  ⟨fnScope_by (by decide +kernel), rfl, by decide +kernel, fun x q kV doc pm an cdv ct us hl => match us, hl with | [_], _ => rfl⟩
theorem ok49 : DfOk tx.w d49 (defArgs (cls 47 0)) (defBody (cls 47 0)) (defScope (cls 47 0)) :=
  ⟨fnScope_by (by decide +kernel), rfl, by decide +kernel, fun x q kV doc pm an cdv ct us hl => match us, hl with | [_, _], _ => rfl⟩
theorem ok50 : DfOk tx.w d50 (defArgs (cls 47 1)) (defBody (cls 47 1)) (defScope (cls 47 1)) :=
  ⟨fnScope_by (by decide +kernel), rfl, by decide +kernel, fun x q kV doc pm an cdv ct us hl => match us, hl with | [_], _ => rfl⟩
theorem ok51 : DfOk tx.w d51 (defArgs (cls 47 2)) (defBody (cls 47 2)) (defScope (cls 47 2)) :=
  ⟨fnScope_by (by decide +kernel), rfl, by decide +kernel, fun x q kV doc pm an cdv ct us hl => match us, hl with | [_, _], _ => rfl⟩
theorem ok52 : DfOk tx.w d52 (defArgs (cls 48 0)) (defBody (cls 48 0)) (defScope (cls 48 0)) :=
  ⟨fnScope_by (by decide +kernel), rfl, by decide +kernel, fun x q kV doc pm an cdv ct us hl => match us, hl with | [_, _, _], _ => rfl⟩
theorem ok53 : DfOk tx.w d53 (defArgs (cls 48 1)) (defBody (cls 48 1)) (defScope (cls 48 1)) :=
  ⟨fnScope_by (by decide +kernel), rfl, by decide +kernel, fun x q kV doc pm an cdv ct us hl => match us, hl with | [_], _ => rfl⟩
theorem ok54 : DfOk tx.w d54 (defArgs (cls 48 2)) (defBody (cls 48 2)) (defScope (cls 48 2)) :=
  ⟨fnScope_by (by decide +kernel), rfl, by decide +kernel, fun x q kV doc pm an cdv ct us hl => match us, hl with | [_, _], _ => rfl⟩
theorem ok55 : DfOk tx.w d55 (defArgs (cls 54 0)) (defBody (cls 54 0)) (defScope (cls 54 0)) :=
  ⟨fnScope_by (by decide +kernel), rfl, by decide +kernel, fun x q kV doc pm an cdv ct us hl => match us, hl with | [_, _, _], _ => rfl⟩
theorem ok56 : DfOk tx.w d56 (defArgs (cls 54 1)) (defBody (cls 54 1)) (defScope (cls 54 1)) :=
  ⟨fnScope_by (by decide +kernel), rfl, by decide +kernel, fun x q kV doc pm an cdv ct us hl => match us, hl with | [_], _ => rfl⟩
theorem ok57 : DfOk tx.w d57 (defArgs (cls 54 2)) (defBody (cls 54 2)) (defScope (cls 54 2)) :=
  ⟨fnScope_by (by decide +kernel), rfl, by decide +kernel, fun x q kV doc pm an cdv ct us hl => match us, hl with | [_, _], _ => rfl⟩
theorem ok58 : DfOk tx.w d58 (defArgs (cls 55 0)) (defBody (cls 55 0)) (defScope (cls 55 0)) :=
  ⟨fnScope_by (by decide +kernel), rfl, by decide +kernel, fun x q kV doc pm an cdv ct us hl => match us, hl with | [_, _], _ => rfl⟩
theorem ok59 : DfOk tx.w d59 (defArgs (cls 55 1)) (defBody (cls 55 1)) (defScope (cls 55 1)) :=
  ⟨fnScope_by (by decide +kernel), rfl, by decide +kernel, fun x q kV doc pm an cdv ct us hl => match us, hl with | [_], _ => rfl⟩
theorem ok60 : DfOk tx.w d60 (defArgs (cls 55 2)) (defBody (cls 55 2)) (defScope (cls 55 2)) :=
  ⟨fnScope_by (by decide +kernel), rfl, by decide +kernel, fun x q kV doc pm an cdv ct us hl => match us, hl with | [_, _], _ => rfl⟩
theorem ok61 : DfOk tx.w d61 (defArgs (cls 57 0)) (defBody (cls 57 0)) (defScope (cls 57 0)) :=
  ⟨fnScope_by (by decide +kernel), rfl, by decide +kernel, fun x q kV doc pm an cdv ct us hl => match us, hl with | [_, _, _, _], _ => rfl⟩
theorem ok62 : DfOk tx.w d62 (defArgs (cls 57 1)) (defBody (cls 57 1)) (defScope (cls 57 1)) :=
  ⟨fnScope_by (by decide +kernel), rfl, by decide +kernel, fun x q kV doc pm an cdv ct us hl => match us, hl with | [_, _], _ => rfl⟩
theorem ok63 : DfOk tx.w d63 (defArgs (cls 57 2)) (defBody (cls 57 2)) (defScope (cls 57 2)) :=
  ⟨fnScope_by (by decide +kernel), rfl, by decide +kernel, fun x q kV doc pm an cdv ct us hl => match us, hl with | [_], _ => rfl⟩
theorem ok64 : DfOk tx.w d64 (defArgs (cls 58 0)) (defBody (cls 58 0)) (defScope (cls 58 0)) :=
  ⟨fnScope_by (by decide +kernel), rfl, by decide +kernel, fun x q kV doc pm an cdv ct us hl => match us, hl with | [_, _, _, _, _], _ => rfl⟩
theorem ok65 : DfOk tx.w d65 (defArgs (cls 58 1)) (defBody (cls 58 1)) (defScope (cls 58 1)) :=
  ⟨fnScope_by (by decide +kernel), rfl, by decide +kernel, fun x q kV doc pm an cdv ct us hl => match us, hl with | [_, _], _ => rfl⟩
theorem ok66 : DfOk tx.w d66 (defArgs (cls 58 2)) (defBody (cls 58 2)) (defScope (cls 58 2)) :=
  ⟨fnScope_by (by decide +kernel), rfl, by decide +kernel, fun x q kV doc pm an cdv ct us hl => match us, hl with | [_], _ => rfl⟩
theorem ok67 : DfOk tx.w d67 (defArgs (cls 58 3)) (defBody (cls 58 3)) (defScope (cls 58 3)) :=
  ⟨fnScope_by (by decide +kernel), rfl, by decide +kernel, fun x q kV doc pm an cdv ct us hl => match us, hl with | [_, _], _ => rfl⟩
theorem ok68 : DfOk tx.w d68 (defArgs (cls 58 4)) (defBody (cls 58 4)) (defScope (cls 58 4)) :=
  ⟨fnScope_by (by decide +kernel), rfl, by decide +kernel, fun x q kV doc pm an cdv ct us hl => match us, hl with | [_], _ => rfl⟩
theorem ok69 : DfOk tx.w d69 (defArgs (cls 58 5)) (defBody (cls 58 5)) (defScope (cls 58 5)) :=
  ⟨fnScope_by (by decide +kernel), rfl, by decide +kernel, fun x q kV doc pm an cdv ct us hl => match us, hl with | [_, _], _ => rfl⟩
theorem ok70 : DfOk tx.w d70 (defArgs (cls 58 6)) (defBody (cls 58 6)) (defScope (cls 58 6)) :=
  ⟨fnScope_by (by decide +kernel), rfl, by decide +kernel, fun x q kV doc pm an cdv ct us hl => match us, hl with | [_, _], _ => rfl⟩
theorem ok71 : DfOk tx.w d71 (defArgs (cls 58 7)) (defBody (cls 58 7)) (defScope (cls 58 7)) :=
  ⟨fnScope_by (by decide +kernel), rfl, by decide +kernel, fun x q kV doc pm an cdv ct us hl => match us, hl with | [_, _], _ => rfl⟩
theorem ok72 : DfOk tx.w d72 (defArgs (cls 58 9)) (defBody (cls 58 9)) (defScope (cls 58 9)) :=
  ⟨fnScope_by (by decide +kernel), rfl, by decide +kernel, fun x q kV doc pm an cdv ct us hl => match us, hl with | [_, _], _ => rfl⟩
theorem ok73 : DfOk tx.w d73 (defArgs (cls 58 10)) (defBody (cls 58 10)) (defScope (cls 58 10)) :=
  ⟨fnScope_by (by decide +kernel), rfl, by decide +kernel, fun x q kV doc pm an cdv ct us hl => match us, hl with | [_, _], _ => rfl⟩
theorem ok74 : DfOk tx.w d74 (defArgs (cls 62 0)) (defBody (cls 62 0)) (defScope (cls 62 0)) :=
  ⟨fnScope_by (by decide +kernel), rfl, by decide +kernel, fun x q kV doc pm an cdv ct us hl => match us, hl with | [_, _, _], _ => rfl⟩
theorem ok75 : DfOk tx.w d75 (defArgs (cls 62 1)) (defBody (cls 62 1)) (defScope (cls 62 1)) :=
  ⟨fnScope_by (by decide +kernel), rfl, by decide +kernel, fun x q kV doc pm an cdv ct us hl => match us, hl with | [_, _], _ => rfl⟩
theorem ok76 : DfOk tx.w d76 (defArgs (cls 62 2)) (defBody (cls 62 2)) (defScope (cls 62 2)) :=
  ⟨fnScope_by (by decide +kernel), rfl, by decide +kernel, fun x q kV doc pm an cdv ct us hl => match us, hl with | [_], _ => rfl⟩
theorem ok77 : DfOk tx.w d77 (defArgs (cls 64 0)) (defBody (cls 64 0)) (defScope (cls 64 0)) :=
  ⟨fnScope_by (by decide +kernel), rfl, by decide +kernel, fun x q kV doc pm an cdv ct us hl => match us, hl with | [_, _], _ => rfl⟩
theorem ok78 : DfOk tx.w d78 (defArgs (cls 64 1)) (defBody (cls 64 1)) (defScope (cls 64 1)) :=
  ⟨fnScope_by (by decide +kernel), rfl, by decide +kernel, fun x q kV doc pm an cdv ct us hl => match us, hl with | [_], _ => rfl⟩
theorem ok79 : DfOk tx.w d79 (defArgs (cls 64 2)) (defBody (cls 64 2)) (defScope (cls 64 2)) :=
  ⟨fnScope_by (by decide +kernel), rfl, by decide +kernel, fun x q kV doc pm an cdv ct us hl => match us, hl with | [_, _], _ => rfl⟩
theorem ok80 : DfOk tx.w d80 (defArgs (cls 65 0)) (defBody (cls 65 0)) (defScope (cls 65 0)) :=
  ⟨fnScope_by (by decide +kernel), rfl, by decide +kernel, fun x q kV doc pm an cdv ct us hl => match us, hl with | [_, _, _, _], _ => rfl⟩
theorem ok81 : DfOk tx.w d81 (defArgs (cls 65 1)) (defBody (cls 65 1)) (defScope (cls 65 1)) :=
  ⟨fnScope_by (by decide +kernel), rfl, by decide +kernel, fun x q kV doc pm an cdv ct us hl => match us, hl with | [_], _ => rfl⟩
theorem ok82 : DfOk tx.w d82 (defArgs (cls 65 2)) (defBody (cls 65 2)) (defScope (cls 65 2)) :=
  ⟨fnScope_by (by decide +kernel), rfl, by decide +kernel, fun x q kV doc pm an cdv ct us hl => match us, hl with | [_, _], _ => rfl⟩
theorem ok83 : DfOk tx.w d83 (defArgs (cls 67 0)) (defBody (cls 67 0)) (defScope (cls 67 0)) :=
  ⟨fnScope_by (by decide +kernel), rfl, by decide +kernel, fun x q kV doc pm an cdv ct us hl => match us, hl with | [_, _], _ => rfl⟩
theorem ok84 : DfOk tx.w d84 (defArgs (cls 67 1)) (defBody (cls 67 1)) (defScope (cls 67 1)) :=
  ⟨fnScope_by (by decide +kernel), rfl, by decide +kernel, fun x q kV doc pm an cdv ct us hl => match us, hl with | [_], _ => rfl⟩
theorem ok85 : DfOk tx.w d85 (defArgs (cls 67 2)) (defBody (cls 67 2)) (defScope (cls 67 2)) :=
  ⟨fnScope_by (by decide +kernel), rfl, by decide +kernel, fun x q kV doc pm an cdv ct us hl => match us, hl with | [_, _], _ => rfl⟩
theorem ok86 : DfOk tx.w d86 (defArgs (cls 68 0)) (defBody (cls 68 0)) (defScope (cls 68 0)) :=
  ⟨fnScope_by (by decide +kernel), rfl, by decide +kernel, fun x q kV doc pm an cdv ct us hl => match us, hl with | [_, _, _, _], _ => rfl⟩
theorem ok87 : DfOk tx.w d87 (defArgs (cls 68 1)) (defBody (cls 68 1)) (defScope (cls 68 1)) :=
  ⟨fnScope_by (by decide +kernel), rfl, by decide +kernel, fun x q kV doc pm an cdv ct us hl => match us, hl with | [_], _ => rfl⟩
theorem ok88 : DfOk tx.w d88 (defArgs (cls 68 2)) (defBody (cls 68 2)) (defScope (cls 68 2)) :=
  ⟨fnScope_by (by decide +kernel), rfl, by decide +kernel, fun x q kV doc pm an cdv ct us hl => match us, hl with | [_, _], _ => rfl⟩
theorem ok89 : DfOk tx.w d89 (defArgs (cls 70 0)) (defBody (cls 70 0)) (defScope (cls 70 0)) :=
  ⟨fnScope_by (by decide +kernel), rfl, by decide +kernel, fun x q kV doc pm an cdv ct us hl => match us, hl with | [_, _], _ => rfl⟩
theorem ok90 : DfOk tx.w d90 (defArgs (cls 70 1)) (defBody (cls 70 1)) (defScope (cls 70 1)) :=
  ⟨fnScope_by (by decide +kernel), rfl, by decide +kernel, fun x q kV doc pm an cdv ct us hl => match us, hl with | [_], _ => rfl⟩
theorem ok91 : DfOk tx.w d91 (defArgs (cls 70 2)) (defBody (cls 70 2)) (defScope (cls 70 2)) :=
  ⟨fnScope_by (by decide +kernel), rfl, by decide +kernel, fun x q kV doc pm an cdv ct us hl => match us, hl with | [_, _], _ => rfl⟩
theorem ok92 : DfOk tx.w d92 (defArgs (cls 71 0)) (defBody (cls 71 0)) (defScope (cls 71 0)) :=
  ⟨fnScope_by (by decide +kernel), rfl, by decide +kernel, fun x q kV doc pm an cdv ct us hl => match us, hl with | [_, _], _ => rfl⟩
theorem ok93 : DfOk tx.w d93 (defArgs (cls 71 1)) (defBody (cls 71 1)) (defScope (cls 71 1)) :=
  ⟨fnScope_by (by decide +kernel), rfl, by decide +kernel, fun x q kV doc pm an cdv ct us hl => match us, hl with | [_], _ => rfl⟩
theorem ok94 : DfOk tx.w d94 (defArgs (cls 71 2)) (defBody (cls 71 2)) (defScope (cls 71 2)) :=
  ⟨fnScope_by (by decide +kernel), rfl, by decide +kernel, fun x q kV doc pm an cdv ct us hl => match us, hl with | [_, _], _ => rfl⟩
theorem ok95 : DfOk tx.w d95 (defArgs (cls 73 0)) (defBody (cls 73 0)) (defScope (cls 73 0)) :=
  ⟨fnScope_by (by decide +kernel), rfl, by decide +kernel, fun x q kV doc pm an cdv ct us hl => match us, hl with | [_, _], _ => rfl⟩
theorem ok96 : DfOk tx.w d96 (defArgs (cls 73 1)) (defBody (cls 73 1)) (defScope (cls 73 1)) :=
  ⟨fnScope_by (by decide +kernel), rfl, by decide +kernel, fun x q kV doc pm an cdv ct us hl => match us, hl with | [_], _ => rfl⟩
theorem ok97 : DfOk tx.w d97 (defArgs (cls 73 2)) (defBody (cls 73 2)) (defScope (cls 73 2)) :=
  ⟨fnScope_by (by decide +kernel), rfl, by decide +kernel, fun x q kV doc pm an cdv ct us hl => match us, hl with | [_, _], _ => rfl⟩
theorem ok98 : DfOk tx.w d98 (defArgs (cls 74 0)) (defBody (cls 74 0)) (defScope (cls 74 0)) :=
  ⟨fnScope_by (by decide +kernel), rfl, by decide +kernel, fun x q kV doc pm an cdv ct us hl => match us, hl with | [_, _, _, _], _ => rfl⟩
theorem ok99 : DfOk tx.w d99 (defArgs (cls 74 1)) (defBody (cls 74 1)) (defScope (cls 74 1)) :=
  ⟨fnScope_by (by decide +kernel), rfl, by decide +kernel, fun x q kV doc pm an cdv ct us hl => match us, hl with | [_], _ => rfl⟩
theorem ok100 : DfOk tx.w d100 (defArgs (cls 74 2)) (defBody (cls 74 2)) (defScope (cls 74 2)) :=
  ⟨fnScope_by (by decide +kernel), rfl, by decide +kernel, fun x q kV doc pm an cdv ct us hl => match us, hl with | [_, _], _ => rfl⟩
theorem ok101 : DfOk tx.w d101 (defArgs (cls 76 0)) (defBody (cls 76 0)) (defScope (cls 76 0)) :=
  ⟨fnScope_by (by decide +kernel), rfl, by decide +kernel, fun x q kV doc pm an cdv ct us hl => match us, hl with | [_, _], _ => rfl⟩
theorem ok102 : DfOk tx.w d102 (defArgs (cls 76 1)) (defBody (cls 76 1)) (defScope (cls 76 1)) :=
  ⟨fnScope_by (by decide +kernel), rfl, by decide +kernel, fun x q kV doc pm an cdv ct us hl => match us, hl with | [_], _ => rfl⟩
theorem ok103 : DfOk tx.w d103 (defArgs (cls 76 2)) (defBody (cls 76 2)) (defScope (cls 76 2)) :=
  ⟨fnScope_by (by decide +kernel), rfl, by decide +kernel, fun x q kV doc pm an cdv ct us hl => match us, hl with | [_, _], _ => rfl⟩
theorem ok104 : DfOk tx.w d104 (defArgs (cls 77 0)) (defBody (cls 77 0)) (defScope (cls 77 0)) :=
  ⟨fnScope_by (by decide +kernel), rfl, by decide +kernel, fun x q kV doc pm an cdv ct us hl => match us, hl with | [_, _], _ => rfl⟩
theorem ok105 : DfOk tx.w d105 (defArgs (cls 77 1)) (defBody (cls 77 1)) (defScope (cls 77 1)) :=
  ⟨fnScope_by (by decide +kernel), rfl, by decide +kernel, fun x q kV doc pm an cdv ct us hl => match us, hl with | [_], _ => rfl⟩
theorem ok106 : DfOk tx.w d106 (defArgs (cls 77 2)) (defBody (cls 77 2)) (defScope (cls 77 2)) :=
  ⟨fnScope_by (by decide +kernel), rfl, by decide +kernel, fun x q kV doc pm an cdv ct us hl => match us, hl with | [_, _], _ => rfl⟩
theorem ok107 : DfOk tx.w d107 (defArgs (cls 79 0)) (defBody (cls 79 0)) (defScope (cls 79 0)) :=
  ⟨fnScope_by (by decide +kernel), rfl, by decide +kernel, fun x q kV doc pm an cdv ct us hl => match us, hl with | [_, _], _ => rfl⟩
theorem ok108 : DfOk tx.w d108 (defArgs (cls 79 1)) (defBody (cls 79 1)) (defScope (cls 79 1)) :=
  ⟨fnScope_by (by decide +kernel), rfl, by decide +kernel, fun x q kV doc pm an cdv ct us hl => match us, hl with | [_], _ => rfl⟩
theorem ok109 : DfOk tx.w d109 (defArgs (cls 79 2)) (defBody (cls 79 2)) (defScope (cls 79 2)) :=
  ⟨fnScope_by (by decide +kernel), rfl, by decide +kernel, fun x q kV doc pm an cdv ct us hl => match us, hl with | [_, _], _ => rfl⟩
theorem ok110 : DfOk tx.w d110 (defArgs (cls 80 0)) (defBody (cls 80 0)) (defScope (cls 80 0)) :=
  ⟨fnScope_by (by decide +kernel), rfl, by decide +kernel, fun x q kV doc pm an cdv ct us hl => match us, hl with | [_, _], _ => rfl⟩
theorem ok111 : DfOk tx.w d111 (defArgs (cls 80 1)) (defBody (cls 80 1)) (defScope (cls 80 1)) :=
  ⟨fnScope_by (by decide +kernel), rfl, by decide +kernel, fun x q kV doc pm an cdv ct us hl => match us, hl with | [_], _ => rfl⟩
theorem ok112 : DfOk tx.w d112 (defArgs (cls 80 2)) (defBody (cls 80 2)) (defScope (cls 80 2)) :=
  ⟨fnScope_by (by decide +kernel), rfl, by decide +kernel, fun x q kV doc pm an cdv ct us hl => match us, hl with | [_, _], _ => rfl⟩
theorem ok113 : DfOk tx.w d113 (defArgs (cls 82 0)) (defBody (cls 82 0)) (defScope (cls 82 0)) :=
  ⟨fnScope_by (by decide +kernel), rfl, by decide +kernel, fun x q kV doc pm an cdv ct us hl => match us, hl with | [_, _], _ => rfl⟩
theorem ok114 : DfOk tx.w d114 (defArgs (cls 82 1)) (defBody (cls 82 1)) (defScope (cls 82 1)) :=
  ⟨fnScope_by (by decide +kernel), rfl, by decide +kernel, fun x q kV doc pm an cdv ct us hl => match us, hl with | [_], _ => rfl⟩
theorem ok115 : DfOk tx.w d115 (defArgs (cls 82 2)) (defBody (cls 82 2)) (defScope (cls 82 2)) :=
  ⟨fnScope_by (by decide +kernel), rfl, by decide +kernel, fun x q kV doc pm an cdv ct us hl => match us, hl with | [_, _], _ => rfl⟩
theorem ok116 : DfOk tx.w d116 (defArgs (cls 83 0)) (defBody (cls 83 0)) (defScope (cls 83 0)) :=
  ⟨fnScope_by (by decide +kernel), rfl, by decide +kernel, fun x q kV doc pm an cdv ct us hl => match us, hl with | [_, _, _], _ => rfl⟩
theorem ok117 : DfOk tx.w d117 (defArgs (cls 83 1)) (defBody (cls 83 1)) (defScope (cls 83 1)) :=
  ⟨fnScope_by (by decide +kernel), rfl, by decide +kernel, fun x q kV doc pm an cdv ct us hl => match us, hl with | [_], _ => rfl⟩
theorem ok118 : DfOk tx.w d118 (defArgs (cls 83 2)) (defBody (cls 83 2)) (defScope (cls 83 2)) :=
  ⟨fnScope_by (by decide +kernel), rfl, by decide +kernel, fun x q kV doc pm an cdv ct us hl => match us, hl with | [_, _], _ => rfl⟩
theorem ok119 : DfOk tx.w d119 (defArgs (cls 85 0)) (defBody (cls 85 0)) (defScope (cls 85 0)) :=
  ⟨fnScope_by (by decide +kernel), rfl, by decide +kernel, fun x q kV doc pm an cdv ct us hl => match us, hl with | [_, _], _ => rfl⟩
theorem ok120 : DfOk tx.w d120 (defArgs (cls 85 1)) (defBody (cls 85 1)) (defScope (cls 85 1)) :=
  ⟨fnScope_by (by decide +kernel), rfl, by decide +kernel, fun x q kV doc pm an cdv ct us hl => match us, hl with | [_], _ => rfl⟩
theorem ok121 : DfOk tx.w d121 (defArgs (cls 85 2)) (defBody (cls 85 2)) (defScope (cls 85 2)) :=
  ⟨fnScope_by (by decide +kernel), rfl, by decide +kernel, fun x q kV doc pm an cdv ct us hl => match us, hl with | [_, _], _ => rfl⟩
theorem ok122 : DfOk tx.w d122 (defArgs (cls 86 0)) (defBody (cls 86 0)) (defScope (cls 86 0)) :=
  ⟨fnScope_by (by decide +kernel), rfl, by decide +kernel, fun x q kV doc pm an cdv ct us hl => match us, hl with | [_, _], _ => rfl⟩
theorem ok123 : DfOk tx.w d123 (defArgs (cls 86 1)) (defBody (cls 86 1)) (defScope (cls 86 1)) :=
  ⟨fnScope_by (by decide +kernel), rfl, by decide +kernel, fun x q kV doc pm an cdv ct us hl => match us, hl with | [_], _ => rfl⟩
theorem ok124 : DfOk tx.w d124 (defArgs (cls 86 2)) (defBody (cls 86 2)) (defScope (cls 86 2)) :=
  ⟨fnScope_by (by decide +kernel), rfl, by decide +kernel, fun x q kV doc pm an cdv ct us hl => match us, hl with | [_, _], _ => rfl⟩
theorem ok125 : DfOk tx.w d125 (defArgs (cls 88 0)) (defBody (cls 88 0)) (defScope (cls 88 0)) :=
  ⟨fnScope_by (by decide +kernel), rfl, by decide +kernel, fun x q kV doc pm an cdv ct us hl => match us, hl with | [_, _], _ => rfl⟩
theorem ok126 : DfOk tx.w d126 (defArgs (cls 88 1)) (defBody (cls 88 1)) (defScope (cls 88 1)) :=
  ⟨fnScope_by (by decide +kernel), rfl, by decide +kernel, fun x q kV doc pm an cdv ct us hl => match us, hl with | [_], _ => rfl⟩
theorem ok127 : DfOk tx.w d127 (defArgs (cls 88 2)) (defBody (cls 88 2)) (defScope (cls 88 2)) :=
  ⟨fnScope_by (by decide +kernel), rfl, by decide +kernel, fun x q kV doc pm an cdv ct us hl => match us, hl with | [_, _], _ => rfl⟩
theorem ok128 : DfOk tx.w d128 (defArgs (cls 89 0)) (defBody (cls 89 0)) (defScope (cls 89 0)) :=
  ⟨fnScope_by (by decide +kernel), rfl, by decide +kernel, fun x q kV doc pm an cdv ct us hl => match us, hl with | [_, _, _], _ => rfl⟩
theorem ok129 : DfOk tx.w d129 (defArgs (cls 89 1)) (defBody (cls 89 1)) (defScope (cls 89 1)) :=
  ⟨fnScope_by (by decide +kernel), rfl, by decide +kernel, fun x q kV doc pm an cdv ct us hl => match us, hl with | [_], _ => rfl⟩
theorem ok130 : DfOk tx.w d130 (defArgs (cls 89 2)) (defBody (cls 89 2)) (defScope (cls 89 2)) :=
  ⟨fnScope_by (by decide +kernel), rfl, by decide +kernel, fun x q kV doc pm an cdv ct us hl => match us, hl with | [_, _], _ => rfl⟩
theorem ok131 : DfOk tx.w d131 (defArgs (cls 90 0)) (defBody (cls 90 0)) (defScope (cls 90 0)) :=
  ⟨fnScope_by (by decide +kernel), rfl, by decide +kernel, fun x q kV doc pm an cdv ct us hl => match us, hl with | [_, _], _ => rfl⟩
theorem ok132 : DfOk tx.w d132 (defArgs (cls 90 1)) (defBody (cls 90 1)) (defScope (cls 90 1)) :=
  ⟨fnScope_by (by decide +kernel), rfl, by decide +kernel, fun x q kV doc pm an cdv ct us hl => match us, hl with | [_], _ => rfl⟩
theorem ok133 : DfOk tx.w d133 (defArgs (cls 90 2)) (defBody (cls 90 2)) (defScope (cls 90 2)) :=
  ⟨fnScope_by (by decide +kernel), rfl, by decide +kernel, fun x q kV doc pm an cdv ct us hl => match us, hl with | [_, _], _ => rfl⟩
theorem ok134 : DfOk tx.w d134 (defArgs (cls 91 0)) (defBody (cls 91 0)) (defScope (cls 91 0)) :=
  ⟨fnScope_by (by decide +kernel), rfl, by decide +kernel, fun x q kV doc pm an cdv ct us hl => match us, hl with | [_, _, _], _ => rfl⟩
theorem ok135 : DfOk tx.w d135 (defArgs (cls 91 1)) (defBody (cls 91 1)) (defScope (cls 91 1)) :=
  ⟨fnScope_by (by decide +kernel), rfl, by decide +kernel, fun x q kV doc pm an cdv ct us hl => match us, hl with | [_], _ => rfl⟩
theorem ok136 : DfOk tx.w d136 (defArgs (cls 91 2)) (defBody (cls 91 2)) (defScope (cls 91 2)) :=
  ⟨fnScope_by (by decide +kernel), rfl, by decide +kernel, fun x q kV doc pm an cdv ct us hl => match us, hl with | [_, _], _ => rfl⟩
theorem all : AllOk tx.w tx.allp := ⟨ok0, ok1, ok2, ok3, ok4, ok5, ok6, ok7, ok8, ok9, ok10, ok11, ok12, ok13, ok14, ok15, ok16, ok17, ok18, ok19, ok20, ok21, ok22, ok23, ok24, ok25, ok26, ok27, ok28, ok29, ok30, ok31, ok32, ok33, ok34, ok35, ok36, ok37, ok38, ok39, ok40, ok41, ok42, ok43, ok44, ok45, ok46, ok47, ok48, ok49, ok50, ok51, ok52, ok53, ok54, ok55, ok56, ok57, ok58, ok59, ok60, ok61, ok62, ok63, ok64, ok65, ok66, ok67, ok68, ok69, ok70, ok71, ok72, ok73, ok74, ok75, ok76, ok77, ok78, ok79, ok80, ok81, ok82, ok83, ok84, ok85, ok86, ok87, ok88, ok89, ok90, ok91, ok92, ok93, ok94, ok95, ok96, ok97, ok98, ok99, ok100, ok101, ok102, ok103, ok104, ok105, ok106, ok107, ok108, ok109, ok110, ok111, ok112, ok113, ok114, ok115, ok116, ok117, ok118, ok119, ok120, ok121, ok122, ok123, ok124, ok125, ok126, ok127, ok128, ok129, ok130, ok131, ok132, ok133, ok134, ok135, ok136, trivial⟩
theorem mok : mOk tx = true := by decide +kernel
theorem ini : AllIni tx.exs := ⟨iniOk2 "part" "thing" "part" "thing" rfl (by decide +kernel) (by decide +kernel) rfl (by decide +kernel) (by decide +kernel) (fun kV doc pm an cdv ct us hl => match us, hl with | [_, _, _], _ => rfl), iniOk1 "name" "name" rfl (by decide +kernel) (by decide +kernel) rfl (by decide +kernel) (fun kV doc pm an cdv ct us hl => match us, hl with | [_, _], _ => rfl), trivial⟩
def tf : List Str := []
-- law: def 34, statement 96
def loose : List Str := [("_wall" : Str), ("FirstError" : Str), ("BadName" : Str), ("BadProgram" : Str), ("LETTERS" : Str), ("FIGURES" : Str), ("is_row" : Str), ("is_number" : Str), ("is_below" : Str), ("is_name" : Str), ("is_word" : Str), ("MOST_FUNCTIONS" : Str), ("MOST_DEEP" : Str), ("MOST_TEST" : Str), ("MOST_REGISTERS" : Str), ("Program" : Str), ("check_letters" : Str), ("check_body" : Str), ("is_deed" : Str), ("is_register" : Str), ("parts_of" : Str), ("plain" : Str), ("check_program" : Str), ("check_known" : Str), ("inputs_of" : Str), ("all_parts" : Str), ("tests_of" : Str), ("bound_of" : Str), ("Answer" : Str), ("Stops" : Str), ("Hangs" : Str), ("ALL" : Str), ("check_span" : Str), ("below" : Str), ("from_on" : Str), ("told" : Str), ("added" : Str), ("capped" : Str), ("Look" : Str), ("Alike" : Str), ("Differs" : Str), ("check_names" : Str), ("copies_of" : Str), ("later_ones" : Str), ("known_ones" : Str), ("Apart" : Str), ("Leads" : Str), ("State" : Str), ("Drive" : Str), ("number_of" : Str), ("span_of" : Str), ("with_one" : Str), ("Web" : Str), ("NoWorse" : Str), ("Worse" : Str), ("Ends" : Str), ("Grows" : Str), ("Left" : Str), ("More" : Str), ("SameWebs" : Str), ("OtherWebs" : Str), ("Decided" : Str), ("Open" : Str), ("LeanEnds" : Str), ("LeanGrows" : Str), ("SameButNames" : Str), ("Unlike" : Str), ("Plainer" : Str), ("Spoilt" : Str), ("AlwaysStops" : Str), ("CanHang" : Str), ("NeverPuts" : Str), ("Puts" : Str), ("_law_number" : Str), ("_law_take" : Str), ("_law_things" : Str)]
end K22

set_option Elab.async false
set_option linter.all false
set_option maxRecDepth 100000
set_option maxHeartbeats 0
namespace K22
open PySem PySem.Spec PyProof.Rows L2 LamX KF
abbrev RR : PySem.W.OpenRow := PySem.W.OpenLaw.row PySem.Challenge.rw_knownfirst_k22_like_things
noncomputable abbrev endS (w : World) (os : OsState) := HandSHeadRun.endF (HandSHeadRun.stepQ (HandSHeadRun.denQ HandSHeadRun.tabQ) RR.prog w) 12500 RR.prog w os
abbrev kk (s : PySem.W.SharedT) : PySem.W.Frag := He.frT (HandSHeadRun.getT s) (asL tx (HandSHeadRun.getT s))
abbrev hk : PySem.W.Hook := hookY (asL tx) (faAll tx) (fnAll tx) (tf.map fun x => (x, none)) (exAll tx tf)
def ob (s : PySem.W.SharedT) : He.AlX := obsY (asL tx) (faAll tx) (fnAll tx) (tf.map fun x => (x, none)) (exAll tx tf) (HandSHeadRun.getT s)
theorem ob_eq (s : PySem.W.SharedT) : ob s = hk.obs s.abs := obsY_eq (HandSHeadRun.getT_eq s)
end K22

set_option Elab.async false
set_option linter.all false
set_option maxRecDepth 100000
set_option maxHeartbeats 0
namespace K22
open PySem PySem.Spec PyProof.Rows L2 LamX KF
theorem p1 (w : World) : ∀ os : OsState, (endS w os).map (fun s => HandSHeadRun.looksF RR.prog (PySem.W.boot_heap w.params) s.abs) = some true := by
  intro os
  kernel_rfl
end K22

set_option Elab.async false
set_option linter.all false
set_option maxRecDepth 100000
set_option maxHeartbeats 0
namespace K22
open PySem PySem.Spec PyProof.Rows L2 LamX KF
theorem p2 (w : World) : ∀ os : OsState, (endS w os).map (fun s => HandSHeadRun.seenQ (PySem.W.view RR.prog [96]) loose (importedModules RR.prog.main.body) (fun s => PySem.W.xlAt (PySem.W.view RR.prog [96]) [] s && PySem.W.recOk RR.toRowW.records s) s.abs) = some (PySem.W.openGood (PySem.W.view RR.prog [96]) loose) := by
  intro os
  kernel_rfl
end K22

set_option Elab.async false
set_option linter.all false
set_option maxRecDepth 100000
set_option maxHeartbeats 0
namespace K22
open PySem PySem.Spec PyProof.Rows L2 LamX KF
theorem p3 (w : World) : ∀ os : OsState, (endS w os).map (fun s => ((faAll tx).all fun f => f.ok (kk s)) && (tx.defs.map ddOf).all fun d => d.ok (kk s)) = some true := by
  intro os
  kernel_rfl
end K22

set_option Elab.async false
set_option linter.all false
set_option maxRecDepth 100000
set_option maxHeartbeats 0
namespace KF
open PySem
theorem all_two {α β : Type} {o : Option α} {l : List β} {n : Nat} {e : List β} {ok : α → β → Bool} (h1 : o.map (fun s => (l.take n).all (ok s)) = some true) (h2 : o.map (fun s => (l.drop n ++ e).all (ok s)) = some true) : o.map (fun s => (l ++ e).all (ok s)) = some true := by
  cases o with
  | none => cases h1
  | some s =>
    have h1 : (l.take n).all (ok s) = true := Option.some.inj h1
    have h2 : (l.drop n ++ e).all (ok s) = true := Option.some.inj h2
    show some ((l ++ e).all (ok s)) = some true
    rw [← List.take_append_drop n l, List.append_assoc, List.all_append, h1, h2]
    rfl
end KF
namespace K22
open PySem PySem.Spec PyProof.Rows L2 LamX KF
theorem p3ma (w : World) : ∀ os : OsState, (endS w os).map (fun s => ((tx.mts.map mdOf).take 52).all fun d => d.ok (kk s)) = some true := by
  intro os
  kernel_rfl
theorem p3mb (w : World) : ∀ os : OsState, (endS w os).map (fun s => ((tx.mts.map mdOf).drop 52 ++ tx.exs.map xdOf).all fun d => d.ok (kk s)) = some true := by
  intro os
  kernel_rfl
theorem p3m (w : World) : ∀ os : OsState, (endS w os).map (fun s => (tx.mts.map mdOf ++ tx.exs.map xdOf).all fun d => d.ok (kk s)) = some true := fun os =>
  all_two (l := tx.mts.map mdOf) (n := 52) (e := tx.exs.map xdOf) (ok := fun s d => d.ok (kk s)) (p3ma w os) (p3mb w os)
end K22

set_option Elab.async false
set_option linter.all false
set_option maxRecDepth 100000
set_option maxHeartbeats 0
namespace K22
open PySem PySem.Spec PyProof.Rows L2 LamX KF
theorem p4 (w : World) : ∀ os : OsState, (endS w os).map (fun s => (tx.defs.map ddOf).map fun d => He.fnW (kk s) d.at_) = some ((tx.defs.map ddOf).map He.DefD.val) := by
  intro os
  kernel_rfl
end K22

set_option Elab.async false
set_option linter.all false
set_option maxRecDepth 100000
set_option maxHeartbeats 0
namespace K22
open PySem PySem.Spec PyProof.Rows L2 LamX KF
theorem p4m (w : World) : ∀ os : OsState, (endS w os).map (fun s => (tx.mts.map mdOf ++ tx.exs.map xdOf).map fun d => He.fnW (kk s) d.at_) = some ((tx.mts.map mdOf ++ tx.exs.map xdOf).map He.DefD.val) := by
  intro os
  kernel_rfl
end K22

set_option Elab.async false
set_option linter.all false
set_option maxRecDepth 100000
set_option maxHeartbeats 0
namespace K22
open PySem PySem.Spec PyProof.Rows L2 LamX KF
theorem p5a (w : World) : ∀ os : OsState, (endS w os).map (fun s => tx.cls.all (kcChk (kk s))) = some true := by
  intro os
  kernel_rfl
theorem p5b (w : World) : ∀ os : OsState, (endS w os).map (fun s => kpChk (kk s) tx.cls) = some true := by
  intro os
  kernel_rfl
theorem p5 (w : World) : ∀ os : OsState, (endS w os).map (fun s => tx.cls.all (kcChk (kk s)) && kpChk (kk s) tx.cls) = some true := fun os => map_and (p5a w os) (p5b w os)
end K22

set_option Elab.async false
set_option linter.all false
set_option maxRecDepth 100000
set_option maxHeartbeats 0
namespace K22
open PySem PySem.Spec PyProof.Rows L2 LamX KF
theorem p7 (w : World) : ∀ os : OsState, (endS w os).map (fun s => noLst (kk s) && (tx.exs.all (xcChk (kk s)) && (tx.subs.all (fun p => decide (p.1 < tx.exs.length) && decide (PySem.W.exmOne (kk s) (.ref (He.ga (kk s) (nmOf tx.exs p.1))) (.ref (He.ga (kk s) (nmOf tx.exs p.2))) = some true)) && (tx.gls.all (fun g => glChk (kk s) g.1 g.2) && (decide (tf.map fun x => (He.cT (kk s) (x, none)).2).Nodup && He.tabsB (HandSHeadRun.getT s) (tf.map fun x => (x, none)) (kk s)))))) = some true := by
  intro os
  kernel_rfl
end K22

set_option Elab.async false
set_option linter.all false
set_option maxRecDepth 100000
set_option maxHeartbeats 4000000
/-! W0: the evaluation by simp -/
namespace KF
open PySem L2
@[simp] theorem bind_ok {α β : Type} (a : α) (S : Store) (f : α → Store → R β) : (R.ok a S).bind f = f a S := rfl
@[simp] theorem bind_exc {α β : Type} (c : Nat) (fs : List D) (S : Store) (f : α → Store → R β) : (R.exc c fs S : R α).bind f = .exc c fs S := rfl
@[simp] theorem bind_bad {α β : Type} (f : α → Store → R β) : (R.bad : R α).bind f = .bad := rfl
@[simp] theorem st_ok {α : Type} (a : α) (S : Store) (env : Env) (f : α → Store → RS) : (R.ok a S).st env f = f a S := rfl
@[simp] theorem st_exc {α : Type} (c : Nat) (fs : List D) (S : Store) (env : Env) (f : α → Store → RS) : (R.exc c fs S : R α).st env f = .exc c fs env S := rfl
@[simp] theorem st_ite {α : Type} (p : Prop) [Decidable p] (a b : R α) (env : Env) (f : α → Store → RS) : (if p then a else b).st env f = if p then a.st env f else b.st env f := by split <;> rfl
@[simp] theorem bind_ite {α β : Type} (p : Prop) [Decidable p] (a b : R α) (f : α → Store → R β) : (if p then a else b).bind f = if p then a.bind f else b.bind f := by split <;> rfl
@[simp] theorem asB_bl (b : Bool) (S : Store) : asB (.bl b) S = .ok b S := rfl
@[simp] theorem lift_some (d : D) (S : Store) : lift (some d) S = .ok d S := rfl
@[simp] theorem cfgN_call (w : Lw) (f0 : Nat → List D → Store → R D) (f : Nat) (ds : List D) (S : Store) : (cfgN w f0).call f ds S = f0 f ds S := rfl
@[simp] theorem cfgN_glob (w : Lw) (f0 : Nat → List D → Store → R D) (k : Nat) : (cfgN w f0).glob k = w.glob k := rfl
@[simp] theorem endR_ret (d : D) (S : Store) : endR (.ret d S) = .ok d S := rfl
@[simp] theorem endR_next (env : Env) (S : Store) : endR (.next env S) = .ok .non S := rfl
@[simp] theorem endR_ite (p : Prop) [Decidable p] (a b : RS) : endR (if p then a else b) = if p then endR a else endR b := by split <;> rfl
@[simp] theorem execs_nil (c : Cfg) (env : Env) (S : Store) : execs c .nil env S = .next env S := rfl
/-- one statement, then the rest -/
def thenS (f : Env → Store → RS) : RS → RS
  | .next env S => f env S
  | r => r
theorem execs_cons (c : Cfg) (s : St) (r : Sts) (env : Env) (S : Store) : execs c (.cons s r) env S = thenS (execs c r) (exec c s env S) := by
  show (match exec c s env S with | .next env' S' => execs c r env' S' | r => r) = _
  cases exec c s env S <;> rfl
@[simp] theorem then_next (f : Env → Store → RS) (env : Env) (S : Store) : thenS f (.next env S) = f env S := rfl
@[simp] theorem then_ret (f : Env → Store → RS) (d : D) (S : Store) : thenS f (.ret d S) = .ret d S := rfl
@[simp] theorem then_exc (f : Env → Store → RS) (k : Nat) (fs : List D) (env : Env) (S : Store) : thenS f (.exc k fs env S) = .exc k fs env S := rfl
@[simp] theorem then_ite (p : Prop) [Decidable p] (f : Env → Store → RS) (a b : RS) : thenS f (if p then a else b) = if p then thenS f a else thenS f b := by split <;> rfl
/-- one turn, then the rest -/
def loopS (f : Env → Store → RS) : RS → RS
  | .next env S => f env S
  | .cont env S => f env S
  | .brk env S => .next env S
  | r => r
theorem forL_cons (f : D → Env → Store → RS) (x : D) (xs : List D) (env : Env) (S : Store) : forL f (x :: xs) env S = loopS (forL f xs) (f x env S) := by
  show (match f x env S with
    | .next env' S' => forL f xs env' S'
    | .cont env' S' => forL f xs env' S'
    | .brk env' S' => .next env' S'
    | r => r) = _
  cases f x env S <;> rfl
@[simp] theorem forL_nil (f : D → Env → Store → RS) (env : Env) (S : Store) : forL f [] env S = .next env S := rfl
@[simp] theorem loop_next (f : Env → Store → RS) (env : Env) (S : Store) : loopS f (.next env S) = f env S := rfl
@[simp] theorem loop_cont (f : Env → Store → RS) (env : Env) (S : Store) : loopS f (.cont env S) = f env S := rfl
@[simp] theorem loop_brk (f : Env → Store → RS) (env : Env) (S : Store) : loopS f (.brk env S) = .next env S := rfl
@[simp] theorem loop_ret (f : Env → Store → RS) (d : D) (S : Store) : loopS f (.ret d S) = .ret d S := rfl
@[simp] theorem asg_n (i : Nat) (d : D) (env : Env) : asg (.n i) d env = if i < env.length then some (env.set i (some d)) else none := rfl
@[simp] theorem asg_t (ts : Tgs) (ds : List D) (env : Env) : asg (.t ts) (.tup ds) env = asgs ts ds env := rfl
@[simp] theorem asgs_nil (env : Env) : asgs .nil [] env = some env := rfl
@[simp] theorem asgs_cons (t : Tg) (r : Tgs) (d : D) (ds : List D) (env : Env) : asgs (.cons t r) (d :: ds) env = (match asg t d env with
    | some env' => asgs r ds env'
    | none => none) := rfl
@[simp] theorem tst_f (c : Cfg) (r : R D) : tst c false r = r := rfl
@[simp] theorem tst_bl (c : Cfg) (b : Bool) (S : Store) : tst c true (.ok (.bl b) S) = .ok (.bl b) S := rfl
@[simp] theorem endRx_exc (c : Nat) (fs : List D) (env : Env) (S : Store) : endR (.exc c fs env S) = .exc c fs S := rfl
@[simp] theorem evT_of (c : Cfg) (e : E) (env : Env) (S : Store) : evT c e env S = (ev c e true env S).bind asB := rfl
/-! operators -/
@[simp] theorem cls_non (S : Store) : clsOf S .non = none := rfl
@[simp] theorem cls_bl (S : Store) (b : Bool) : clsOf S (.bl b) = none := rfl
@[simp] theorem cls_int (S : Store) (i : Int) : clsOf S (.int i) = none := rfl
@[simp] theorem cls_str (S : Store) (x : Str) : clsOf S (.str x) = none := rfl
@[simp] theorem cls_tup (S : Store) (xs : List D) : clsOf S (.tup xs) = none := rfl
@[simp] theorem cls_lst (S : Store) (xs : List D) : clsOf S (.lst xs) = none := rfl
@[simp] theorem cmpV_lt (c : Cfg) (i j : Int) (S : Store) : cmpV c .lt (.int i) (.int j) S = .ok (.bl (decide (i < j))) S := rfl
@[simp] theorem cmpV_le (c : Cfg) (i j : Int) (S : Store) : cmpV c .le (.int i) (.int j) S = .ok (.bl (decide (i ≤ j))) S := rfl
@[simp] theorem cmpV_gt (c : Cfg) (i j : Int) (S : Store) : cmpV c .gt (.int i) (.int j) S = .ok (.bl (decide (j < i))) S := rfl
@[simp] theorem cmpV_ge (c : Cfg) (i j : Int) (S : Store) : cmpV c .ge (.int i) (.int j) S = .ok (.bl (decide (j ≤ i))) S := rfl
/-- == of values that are no instances -/
theorem cmpV_eq_of {c : Cfg} {x y : D} {S : Store} {b : Bool} (hx : clsOf S x = none) (h : deq S x y = some b) : cmpV c .eq x y S = .ok (.bl b) S := by
  show eqV c false x y S = _
  unfold eqV dEq
  rw [hx, h]
  rfl
theorem cmpV_ne_of {c : Cfg} {x y : D} {S : Store} {b : Bool} (hx : clsOf S x = none) (h : deq S x y = some b) : cmpV c .ne x y S = .ok (.bl (!b)) S := by
  show eqV c true x y S = _
  unfold eqV dEq
  rw [hx, h]
  rfl
theorem deq_of {S : Store} {x y : D} {d e : PyData} (px : pur S 64 x = some x) (py : pur S 64 y = some y) (hl : isLoc x = false) (hx : x.py = some d) (hy : y.py = some e) (h1 : SeqAt.shaped d = true) (h2 : SeqAt.shaped e = true) : deq S x y = some (PyData.eqv d e) := by
  unfold deq
  rw [px, py]
  show (if isLoc x = true then none else eqX 60 x y) = _
  rw [hl, if_neg Bool.false_ne_true]
  show (match deqP x y with | some b => some b | none => _) = _
  have : deqP x y = some (PyData.eqv d e) := by
    unfold deqP
    rw [hx, hy]
    exact if_pos ⟨h1, h2⟩
  rw [this]
theorem eqv_int (i j : Int) : PyData.eqv (.int i) (.int j) = decide (i = j) := by
  unfold PyData.eqv
  rfl
theorem deq_int (S : Store) (i j : Int) : deq S (.int i) (.int j) = some (decide (i = j)) := by
  rw [deq_of (x := .int i) (y := .int j) rfl rfl rfl rfl rfl rfl rfl, eqv_int]
@[simp] theorem cmpV_eq_int (c : Cfg) (S : Store) (i j : Int) : cmpV c .eq (.int i) (.int j) S = .ok (.bl (decide (i = j))) S := cmpV_eq_of rfl (deq_int S i j)
@[simp] theorem cmpV_ne_int (c : Cfg) (S : Store) (i j : Int) : cmpV c .ne (.int i) (.int j) S = .ok (.bl (!decide (i = j))) S := cmpV_ne_of rfl (deq_int S i j)
@[simp] theorem dop_add (i j : Int) : dop .add (.int i) (.int j) = some (.int (i + j)) := rfl
@[simp] theorem dop_sub (i j : Int) : dop .sub (.int i) (.int j) = some (.int (i - j)) := rfl
@[simp] theorem dopI_add (i j : Int) : dopI .add (.int i) (.int j) = some (.int (i + j)) := rfl
@[simp] theorem dop2_of {S : Store} {o : O2} {x y d : D} (h : dop o x y = some d) : dop2 S o x y = some d := by
  unfold dop2; rw [h]
theorem dop_mod {i j : Int} (h : 0 < j) : dop .mod (.int i) (.int j) = some (.int (i % j)) := if_pos h
theorem dop_div {i j : Int} (h : 0 < j) (h2 : j < 1073741824) : dop .fdiv (.int i) (.int j) = some (.int (i / j)) := if_pos ⟨h, h2⟩
@[simp] theorem isn_non (ng : Bool) : isnB ng .non = !ng := by cases ng <;> rfl
@[simp] theorem isn_int (ng : Bool) (i : Int) : isnB ng (.int i) = ng := by cases ng <;> rfl
@[simp] theorem isn_tup (ng : Bool) (xs : List D) : isnB ng (.tup xs) = ng := by cases ng <;> rfl
@[simp] theorem isn_lst (ng : Bool) (xs : List D) : isnB ng (.lst xs) = ng := by cases ng <;> rfl
/-! lists of nums -/
def nums (l : List Int) : List D := l.map .int
theorem pys_ints : ∀ l : List Int, D.pys (nums l) = some (l.map PyData.int)
  | [] => rfl
  | i :: r => by
    have ih := pys_ints r
    simp only [nums, List.map_cons, D.pys, D.py] at ih ⊢
    rw [ih]
theorem eqv_ints : ∀ l m : List Int, PyData.eqv (.list (l.map .int)) (.list (m.map .int)) = decide (l = m) := by
  intro l
  have h : ∀ l m : List Int, PyData.eqvAll (l.map .int) (m.map .int) = decide (l = m) := by
    intro l
    induction l with
    | nil => intro m; cases m <;> simp [PyData.eqvAll]
    | cons i r ih =>
      intro m
      cases m with
      | nil => simp [PyData.eqvAll]
      | cons j q =>
        rw [List.map_cons, List.map_cons, PyData.eqvAll, ih q, PyData.eqv]
        by_cases h1 : i = j
        · by_cases h2 : r = q <;> simp [h1, h2]
        · simp [h1]
  intro m
  rw [PyData.eqv, h]
theorem shaped_ints (l : List Int) : SeqAt.shaped (.list (l.map .int)) = true := by
  have h : ∀ l : List Int, PyData.canLayAll0 (l.map .int) = true := by
    intro l
    induction l with
    | nil => rfl
    | cons i r ih => rw [List.map_cons, PyData.canLayAll0, ih]; rfl
  have h2 : ∀ l : List Int, PyData.depthAll (l.map .int) ≤ 1 := by
    intro l
    induction l with
    | nil => simp [PyData.depthAll]
    | cons i r ih => rw [List.map_cons, PyData.depthAll]; simp [PyData.depth]; omega
  unfold SeqAt.shaped
  rw [PyData.canLay0, h, PyData.depth, Bool.true_and, decide_eq_true_eq]
  have := h2 l
  omega
theorem pur_ints (S : Store) (k : Nat) (l : List Int) : mapO (pur S (k + 1)) (nums l) = some (nums l) := by
  induction l with
  | nil => rfl
  | cons i r ih =>
    have e : pur S (k + 1) (.int i) = some (.int i) := rfl
    show mapO (pur S (k + 1)) (.int i :: nums r) = _
    unfold mapO
    rw [ih, e]
    rfl
theorem deq_ints (S : Store) (l m : List Int) : deq S (.lst (nums l)) (.lst (nums m)) = some (decide (l = m)) := by
  have h : ∀ l, D.py (.lst (nums l)) = some (.list (l.map .int)) := fun l => by
    show (D.pys (nums l)).map PyData.list = _
    rw [pys_ints]; rfl
  have p : ∀ l, pur S 64 (.lst (nums l)) = some (.lst (nums l)) := fun l => by
    show (match mapO (pur S 63) (nums l) with | some ys => some (D.lst ys) | none => none) = _
    rw [pur_ints S 62 l]
  rw [deq_of (p l) (p m) rfl (h l) (h m) (shaped_ints l) (shaped_ints m), eqv_ints]
@[simp] theorem cmpV_eq_ints (c : Cfg) (S : Store) (l m : List Int) : cmpV c .eq (.lst (nums l)) (.lst (nums m)) S = .ok (.bl (decide (l = m))) S := cmpV_eq_of rfl (deq_ints S l m)
@[simp] theorem cmpV_ne_ints (c : Cfg) (S : Store) (l m : List Int) : cmpV c .ne (.lst (nums l)) (.lst (nums m)) S = .ok (.bl (!decide (l = m))) S := cmpV_ne_of rfl (deq_ints S l m)
theorem finL_fz {ys : List D} {S : Store} (h : ys.length ≤ sizeLine) : finL true ys S = .ok (.lst ys) S := by
  unfold finL; rw [if_pos h]; rfl
@[simp] theorem noexc_ok {α : Type} (a : α) (S : Store) : noexc (R.ok a S) = .ok a S := rfl
@[simp] theorem seqIt_lst (xs : List D) (S : Store) : seqIt (.lst xs) S = .ok xs S := rfl
@[simp] theorem seqIt_tup (xs : List D) (S : Store) : seqIt (.tup xs) S = .ok xs S := rfl
@[simp] theorem int1 (S : Store) (i : Int) : dbi S .int [.int i] = some (.int i) := rfl
theorem lows_ints (n : Nat) : ∀ l : List Int, lows n (nums l) = true
  | [] => rfl
  | i :: r => by
    show (low n (.int i) && lows n (nums r)) = true
    rw [lows_ints n r]; rfl
/-- behind a call that made nothing -/
theorem gc_same {n : Nat} {d : D} {S : Store} (h : S.length ≤ n) : gcR n (.ok d S) = .ok d S := by
  unfold gcR
  dsimp only
  rw [if_pos (Nat.ble_eq_true_of_le h)]
end KF

set_option Elab.async false
set_option linter.all false
set_option maxRecDepth 100000
set_option maxHeartbeats 4000000
namespace KF
open PySem L2
theorem atI_nums {l : List Int} {j : Int} (h0 : 0 ≤ j) (h1 : j < l.length) : ∃ x, atI (nums l) j = some (.int x) := by
  unfold atI ixN
  have hl : (nums l).length = l.length := List.length_map _
  rw [hl, if_pos h0, if_pos h1]
  have h2 : j.toNat < l.length := by omega
  exact ⟨l[j.toNat], by
    show (nums l)[j.toNat]? = _
    unfold nums
    rw [List.getElem?_map, List.getElem?_eq_getElem h2]; rfl⟩
@[simp] theorem len_nums (S : Store) (l : List Int) : dbi S .len [.lst (nums l)] = some (.int l.length) := by
  show some (D.int ((nums l).length : Int)) = _
  unfold nums
  rw [List.length_map]
theorem dix_nums {S : Store} {l : List Int} {j : Int} (h0 : 0 ≤ j) (h1 : j < l.length) : ∃ x, dix S (.lst (nums l)) (.int j) = some (.int x) := atI_nums h0 h1
@[simp] theorem ne_nums (c : Cfg) (S : Store) (l : List Int) : cmpV c .ne (.lst (nums l)) (.lst []) S = .ok (.bl (!decide (l = []))) S := cmpV_ne_ints c S l []
@[simp] theorem dop2_add (S : Store) (i j : Int) : dop2 S .add (.int i) (.int j) = some (.int (i + j)) := rfl
@[simp] theorem dop2_sub (S : Store) (i j : Int) : dop2 S .sub (.int i) (.int j) = some (.int (i - j)) := rfl
@[simp] theorem le2s : (2 ≤ sizeLine) = True := by rw [sizeLine_eq]; simp
@[simp] theorem le0s : (0 ≤ sizeLine) = True := by simp
@[simp] theorem le1s : (1 ≤ sizeLine) = True := by rw [sizeLine_eq]; simp
@[simp] theorem pow1018 (S : Store) : dop2 S .pow (.int 10) (.int 18) = some (.int 1000000000000000000) := by
  apply dop2_of
  show (if 0 ≤ (18 : Int) ∧ (18 : Int) ≤ 1000000 ∧ (10 : Int).natAbs < 2 ^ 64 then some (D.int ((10 : Int) ^ (18 : Int).toNat)) else none) = _
  rw [if_pos ⟨by decide, by decide, by decide⟩, show (10 : Int) ^ (18 : Int).toNat = 1000000000000000000 by decide +kernel]
theorem dop_mul {i j : Int} (h : mulOk i j = true) : dop .mul (.int i) (.int j) = some (.int (i * j)) := if_pos h
theorem mulOk_l {i j : Int} (h1 : -(2 ^ 64) < i) (h2 : i < 2 ^ 64) : mulOk i j = true := by unfold mulOk; simp; left; omega
theorem mulOk_r {i j : Int} (h1 : -(2 ^ 64) < j) (h2 : j < 2 ^ 64) : mulOk i j = true := by unfold mulOk; simp; right; omega
/-- the loop of _law_number -/
theorem num_loop (g : Cfg) (e0 e1 e4 e5 e6 : Option D) (S : Store) : ∀ (l : List Int) (r : Int) (e3 : Option D), ∃ (r' : Int) (e3' : Option D),
    forL (fun x env S => match asg (.n 3) x env with
      | some env' => execs g (.cons (.asg (.n 2) (.op .fdiv (.v 2) (.ki 1009))) .nil) env' S
      | none => .bad) (nums l) [e0, e1, some (.int r), e3, e4, e5, e6] S = .next [e0, e1, some (.int r'), e3', e4, e5, e6] S
  | [], r, e3 => ⟨r, e3, rfl⟩
  | x :: xs, r, e3 => by
    obtain ⟨r', e3', h⟩ := num_loop g e0 e1 e4 e5 e6 S xs (r / 1009) (some (.int x))
    refine ⟨r', e3', ?_⟩
    have hd : dop2 S .fdiv (.int r) (.int 1009) = some (.int (r / 1009)) := dop2_of (dop_div (by decide) (by decide))
    rw [← h]
    unfold nums
    rw [List.map_cons, forL_cons]
    simp [execs_cons, exec, ev, hd]
theorem rngIt_ok {n : Int} {S : Store} (h : 0 ≤ n) (h2 : n < 1000) : rngIt (.int 0) (.int n) S = .ok (nums ((List.range n.toNat).map fun (i : Nat) => (0 + (i : Int)))) S := by
  show (if -(2 ^ 62) ≤ (0 : Int) ∧ (0 : Int) < 2 ^ 62 ∧ -(2 ^ 62) ≤ n ∧ n < 2 ^ 62 then R.ok (rngD 0 n) S else R.bad) = _
  rw [if_pos ⟨by omega, by omega, by omega, by omega⟩]
  unfold rngD nums
  rw [List.map_map, Int.sub_zero]; rfl
/-- the draws' numbers: their text -/
def numB : Sts := (.cons 
  (.asg (.t (.cons (.n 5) (.cons (.n 6) .nil))) (.ite (.cmp .ne (.v 0) (.lst true .nil)) (.tup (.cons (.ix (.v 0) (.op .mod (.v 1) (.bi .len (.cons (.v 0) .nil)))) (.cons (.op .fdiv (.v 1) (.bi .len (.cons (.v 0) .nil))) .nil))) (.tup (.cons (.ki 12345) (.cons (.ki 0) .nil))))) (.cons 
  (.asg (.n 2) (.ite (.cmp .lt (.v 6) (.ki 60)) (.op .sub (.v 5) (.op .pow (.ki 10) (.ki 18))) (.ki 0))) (.cons 
  (.for_ (.n 3) (.rng (.op .mod (.bi .int (.cons (.v 6) .nil)) (.ki 60))) (.cons 
  (.asg (.n 2) (.op .fdiv (.v 2) (.ki 1009))) .nil)) (.cons 
  (.ifs (.cmp .gt (.v 2) (.ki 0)) (.cons 
  (.ret (.op .mod (.bi .int (.cons (.v 2) .nil)) (.ki 1009))) .nil) .nil) (.cons 
  (.asg (.n 4) (.op .mod (.op .add (.op .mul (.bi .int (.cons (.op .add (.v 5) (.op .mul (.ki 977) (.v 1))) .nil)) (.ki 48271)) (.op .mul (.ki 31) (.bi .len (.cons (.v 0) .nil)))) (.ki 2147483647))) (.cons 
  (.asg (.n 4) (.op .mod (.op .add (.op .mul (.v 4) (.v 4)) (.op .mul (.ki 40503) (.v 1))) (.ki 2147483629))) (.cons 
  (.ret (.bi .int (.cons (.op .mod (.op .add (.op .mul (.v 4) (.ki 69621)) (.op .fdiv (.v 4) (.ki 977))) (.ki 2147483587)) .nil))) .nil)))))))
def numD : Df := ⟨"_law_number", 2, ["script", "index", "rest", "step", "blend", "cell", "turn"], numB, false, true⟩
/-- _law_number: some int -/
theorem num_ok (g : Cfg) {l : List Int} {i : Int} {S : Store} (hl : l.length ≤ 63) : ∃ r : Int, runD g numD [.lst (nums l), .int i] S = .ok (.int r) S := by
  suffices h : ∃ r : Int, endR (execs g numB (startE numD.N [.lst (nums l), .int i]) S) = .ok (.int r) S by
    obtain ⟨r, h⟩ := h
    refine ⟨r, ?_⟩
    show gcR S.length (endR (execs g numB (startE numD.N [.lst (nums l), .int i]) S)) = _
    rw [h]
    exact gc_same (Nat.le_refl _)
  rw [show startE numD.N [.lst (nums l), .int i] = [some (.lst (nums l)), some (.int i), none, none, none, none, none] from rfl]
  -- the cell, the turn
  have h1 : ∃ cell turn : Int, exec g (.asg (.t (.cons (.n 5) (.cons (.n 6) .nil))) (.ite (.cmp .ne (.v 0) (.lst true .nil)) (.tup (.cons (.ix (.v 0) (.op .mod (.v 1) (.bi .len (.cons (.v 0) .nil)))) (.cons (.op .fdiv (.v 1) (.bi .len (.cons (.v 0) .nil))) .nil))) (.tup (.cons (.ki 12345) (.cons (.ki 0) .nil)))))
      [some (.lst (nums l)), some (.int i), none, none, none, none, none] S = .next [some (.lst (nums l)), some (.int i), none, none, none, some (.int cell), some (.int turn)] S := by
    by_cases he : l = []
    · subst he
      refine ⟨12345, 0, ?_⟩
      have e := ne_nums g S []
      simp [exec, ev, evs, finL, e]
    · have hp : 0 < l.length := List.length_pos_iff.mpr he
      have hm := dop2_of (S := S) (dop_mod (i := i) (j := (l.length : Int)) (by omega))
      have hd := dop2_of (S := S) (dop_div (i := i) (j := (l.length : Int)) (by omega) (by omega))
      obtain ⟨x, hx⟩ := dix_nums (S := S) (l := l) (j := i % (l.length : Int)) (Int.emod_nonneg _ (by omega)) (Int.emod_lt_of_pos _ (by omega))
      refine ⟨x, i / (l.length : Int), ?_⟩
      simp [exec, ev, evs, finL, he, hm, hd, hx]
  obtain ⟨cell, turn, h1⟩ := h1
  unfold numB
  rw [execs_cons, h1, then_next, execs_cons]
  have h2 : ∃ rest : Int, exec g (.asg (.n 2) (.ite (.cmp .lt (.v 6) (.ki 60)) (.op .sub (.v 5) (.op .pow (.ki 10) (.ki 18))) (.ki 0))) [some (.lst (nums l)), some (.int i), none, none, none, some (.int cell), some (.int turn)] S
      = .next [some (.lst (nums l)), some (.int i), some (.int rest), none, none, some (.int cell), some (.int turn)] S := by
    by_cases ht : turn < 60
    · exact ⟨cell - 1000000000000000000, by simp [exec, ev, ht]⟩
    · exact ⟨0, by simp [exec, ev, ht]⟩
  obtain ⟨rest, h2⟩ := h2
  rw [h2, then_next, execs_cons]
  have hm60 := dop2_of (S := S) (dop_mod (i := turn) (j := 60) (by decide))
  have hr := rngIt_ok (n := turn % 60) (S := S) (Int.emod_nonneg _ (by decide)) (by have := Int.emod_lt_of_pos turn (show (0 : Int) < 60 by decide); omega)
  obtain ⟨r', e3', hloop⟩ := num_loop g (some (.lst (nums l))) (some (.int i)) none (some (.int cell)) (some (.int turn)) S ((List.range (turn % 60).toNat).map fun (i : Nat) => (0 + (i : Int))) rest none
  have h3 : exec g (.for_ (.n 3) (.rng (.op .mod (.bi .int (.cons (.v 6) .nil)) (.ki 60))) (.cons (.asg (.n 2) (.op .fdiv (.v 2) (.ki 1009))) .nil)) [some (.lst (nums l)), some (.int i), some (.int rest), none, none, some (.int cell), some (.int turn)] S
      = .next [some (.lst (nums l)), some (.int i), some (.int r'), e3', none, some (.int cell), some (.int turn)] S := by
    rw [← hloop]
    simp [exec, evI, ev, evs, hm60, hr, lkI, pthI]
    all_goals rfl
  rw [h3, then_next, execs_cons]
  have hm9 := dop2_of (S := S) (dop_mod (i := r') (j := 1009) (by decide))
  by_cases hp : 0 < r'
  · exact ⟨r' % 1009, by simp [exec, ev, evs, hp, execs_cons, hm9]⟩
  · have h4 : exec g (.ifs (.cmp .gt (.v 2) (.ki 0)) (.cons (.ret (.op .mod (.bi .int (.cons (.v 2) .nil)) (.ki 1009))) .nil) .nil) [some (.lst (nums l)), some (.int i), some (.int r'), e3', none, some (.int cell), some (.int turn)] S
      = .next [some (.lst (nums l)), some (.int i), some (.int r'), e3', none, some (.int cell), some (.int turn)] S := by simp [exec, ev, evs, hp]
    rw [h4, then_next, execs_cons]
    have m1 : ∀ x : Int, dop2 S .mul (.int 977) (.int x) = some (.int (977 * x)) := fun x => dop2_of (dop_mul (mulOk_l (by decide) (by decide)))
    have m2 : ∀ x : Int, dop2 S .mul (.int x) (.int 48271) = some (.int (x * 48271)) := fun x => dop2_of (dop_mul (mulOk_r (by decide) (by decide)))
    have m3 : ∀ x : Int, dop2 S .mul (.int 31) (.int x) = some (.int (31 * x)) := fun x => dop2_of (dop_mul (mulOk_l (by decide) (by decide)))
    have m4 : ∀ x : Int, dop2 S .mul (.int 40503) (.int x) = some (.int (40503 * x)) := fun x => dop2_of (dop_mul (mulOk_l (by decide) (by decide)))
    have m5 : ∀ x : Int, dop2 S .mul (.int x) (.int 69621) = some (.int (x * 69621)) := fun x => dop2_of (dop_mul (mulOk_r (by decide) (by decide)))
    have q1 : ∀ x : Int, dop2 S .mod (.int x) (.int 2147483647) = some (.int (x % 2147483647)) := fun x => dop2_of (dop_mod (by decide))
    have q2 : ∀ x : Int, dop2 S .mod (.int x) (.int 2147483629) = some (.int (x % 2147483629)) := fun x => dop2_of (dop_mod (by decide))
    have q3 : ∀ x : Int, dop2 S .mod (.int x) (.int 2147483587) = some (.int (x % 2147483587)) := fun x => dop2_of (dop_mod (by decide))
    have q4 : ∀ x : Int, dop2 S .fdiv (.int x) (.int 977) = some (.int (x / 977)) := fun x => dop2_of (dop_div (by decide) (by decide))
    obtain ⟨bl, hb⟩ : ∃ bl : Int, ((cell + 977 * i) * 48271 + 31 * (l.length : Int)) % 2147483647 = bl := ⟨_, rfl⟩
    have hb0 : 0 ≤ bl := by rw [← hb]; exact Int.emod_nonneg _ (by decide)
    have hb1 : bl < 2147483647 := by rw [← hb]; exact Int.emod_lt_of_pos _ (by decide)
    have m6 : dop2 S .mul (.int bl) (.int bl) = some (.int (bl * bl)) := dop2_of (dop_mul (mulOk_l (by omega) (by omega)))
    have h5 : exec g (.asg (.n 4) (.op .mod (.op .add (.op .mul (.bi .int (.cons (.op .add (.v 5) (.op .mul (.ki 977) (.v 1))) .nil)) (.ki 48271)) (.op .mul (.ki 31) (.bi .len (.cons (.v 0) .nil)))) (.ki 2147483647)))
        [some (.lst (nums l)), some (.int i), some (.int r'), e3', none, some (.int cell), some (.int turn)] S = .next [some (.lst (nums l)), some (.int i), some (.int r'), e3', some (.int bl), some (.int cell), some (.int turn)] S := by
      rw [← hb]
      simp [exec, ev, evs, m1, m2, m3, q1]
    rw [h5, then_next]
    exact ⟨(((bl * bl + 40503 * i) % 2147483629) * 69621 + ((bl * bl + 40503 * i) % 2147483629) / 977) % 2147483587, by simp [execs_cons, exec, ev, evs, m4, m5, m6, q2, q3, q4]⟩
end KF

set_option Elab.async false
set_option linter.all false
set_option maxRecDepth 100000
set_option maxHeartbeats 4000000
/-! W2: a drawn number below a bound -/
namespace KF
open PySem L2
def takeB (f : Nat) : Sts := (.cons 
  (.augX (.v 0) (.ki 1) .add (.ki 1)) (.cons 
  (.ret (.op .mod (.bi .int (.cons (.call f (.cons (.ix (.v 0) (.ki 0)) (.cons (.bi .int (.cons (.ix (.v 0) (.ki 1)) .nil)) .nil))) .nil)) (.v 1))) .nil))
def takeD (f : Nat) : Df := ⟨"_law_take", 2, ["draw", "many"], takeB f, false, true⟩
def drawO (l : List Int) (k : Int) : Ob := .lst [.lst (nums l), .int k]
theorem set_at {S : Store} {n : Nat} {o o' : Ob} (h : S[n]? = some o) : (S.set n o')[n]? = some o' := by
  rw [List.getElem?_set]
  simp [(List.getElem?_eq_some_iff.mp h).1]
theorem items_at {S : Store} {n : Nat} {xs : List D} (h : S[n]? = some (.lst xs)) : items S (.loc n) = some xs := by
  show (match S[n]? with
    | some (.lst xs) => some xs
    | some (.lkl xs) => some xs
    | _ => none) = _
  rw [h]
theorem dix_at {S : Store} {n : Nat} {xs : List D} (h : S[n]? = some (.lst xs)) (i : Int) : dix S (.loc n) (.int i) = atI xs i := by
  unfold dix
  rw [items_at h]
theorem dixL_at {S : Store} {n : Nat} {xs : List D} (h : S[n]? = some (.lst xs)) (i : Int) : dixL S (.loc n) (.int i) = atI xs i := by
  unfold dixL
  rw [items_at h]
theorem setS_at {S : Store} {n : Nat} {xs : List D} (h : S[n]? = some (.lst xs)) (dk : Bool) (j : Int) (z : D) (env : KF.Env) : setS dk (.loc n) (.int j) z env S = (match ixN xs.length j with
    | some p => .next env (S.set n (.lst (xs.set p z)))
    | none => .bad) := by
  show (match S[n]? with
    | some (.lst xs) => (match D.int j with
      | .int j => (match ixN xs.length j with
        | some p => RS.next env (S.set n (.lst (xs.set p z)))
        | none => .bad)
      | _ => .bad)
    | some (.dic false ks vs) => if dk = true ∧ ks.length < sizeLine ∧ (fkey (D.int j)).isSome = true then .next env (S.set n (.dic false (putD (.int j) z ks vs).1 (putD (.int j) z ks vs).2)) else .bad
    | _ => .bad) = _
  rw [h]
theorem take_ok (g : Cfg) {f : Nat} {l : List Int} {k m : Int} {S : Store} {n : Nat} (hn : S[n]? = some (drawO l k)) (hc : ∀ i S, ∃ r : Int, g.call f [.lst (nums l), .int i] S = .ok (.int r) S) (hm : 0 < m) :
    ∃ r : Int, 0 ≤ r ∧ r < m ∧ runD g (takeD f) [.loc n, .int m] S = .ok (.int r) (S.set n (drawO l (k + 1))) := by
  obtain ⟨r, hr⟩ := hc (k + 1) (S.set n (drawO l (k + 1)))
  refine ⟨r % m, Int.emod_nonneg _ (by omega), Int.emod_lt_of_pos _ hm, ?_⟩
  have hl : (S.set n (drawO l (k + 1))).length = S.length := List.length_set
  suffices h : endR (execs g (takeB f) (startE (takeD f).N [.loc n, .int m]) S) = .ok (.int (r % m)) (S.set n (drawO l (k + 1))) by
    show gcR S.length (endR (execs g (takeB f) (startE (takeD f).N [.loc n, .int m]) S)) = _
    rw [h]
    exact gc_same (Nat.le_of_eq hl)
  rw [show startE (takeD f).N [.loc n, .int m] = [some (.loc n), some (.int m)] from rfl]
  unfold takeB
  have h1 : exec g (.augX (.v 0) (.ki 1) .add (.ki 1)) [some (.loc n), some (.int m)] S = .next [some (.loc n), some (.int m)] (S.set n (drawO l (k + 1))) := by
    have h2 : dixL S (.loc n) (.int 1) = some (.int k) := (dixL_at hn 1).trans rfl
    have h3 : setS false (.loc n) (.int 1) (.int (k + 1)) [some (.loc n), some (.int m)] S = .next [some (.loc n), some (.int m)] (S.set n (drawO l (k + 1))) := (setS_at hn _ _ _ _).trans rfl
    simp [exec, ev, h2, h3]
  rw [execs_cons, h1, then_next, execs_cons]
  have hs := set_at (o' := drawO l (k + 1)) hn
  have i0 : dix (S.set n (drawO l (k + 1))) (.loc n) (.int 0) = some (.lst (nums l)) := (dix_at hs 0).trans rfl
  have i1 : dix (S.set n (drawO l (k + 1))) (.loc n) (.int 1) = some (.int (k + 1)) := (dix_at hs 1).trans rfl
  have hmod := dop2_of (S := S.set n (drawO l (k + 1))) (dop_mod (i := r) (j := m) hm)
  simp [exec, ev, evs, i0, i1, hr, hmod]
theorem callN_open {w : Lw} {k f : Nat} {d : Df} {ds : List D} {S : Store} (hd : w.defs[f]? = some d) (h : lows 0 ds = false) : callN w (k + 1) f ds S = runD (cfgN w (callN w k)) d ds S := by
  unfold callN
  rw [hd]
  dsimp only
  rw [h, if_neg (fun z => Bool.noConfusion z.2)]
theorem callN_shut {w : Lw} {k f : Nat} {d : Df} {ds : List D} {S : Store} (hd : w.defs[f]? = some d) (hg : d.gc = true) (h : lows 0 ds = true) : callN w (k + 1) f ds S = frR S (runD (cfgN w (callN w k)) d ds []) := by
  unfold callN
  rw [hd]
  dsimp only
  rw [if_pos ⟨hg, h⟩]
/-- the draws' numbers, called -/
theorem numC {w : Lw} {k f : Nat} (hd : w.defs[f]? = some numD) {l : List Int} (hl : l.length ≤ 63) (i : Int) (S : Store) : ∃ r : Int, callN w (k + 1) f [.lst (nums l), .int i] S = .ok (.int r) S := by
  obtain ⟨r, h⟩ := num_ok (cfgN w (callN w k)) (l := l) (i := i) (S := []) hl
  refine ⟨r, ?_⟩
  rw [callN_shut hd rfl (by show (lows 0 (nums l) && true) = true; rw [lows_ints]; rfl), h]
  rfl
theorem takeC {w : Lw} {k f f' : Nat} (hd : w.defs[f]? = some (takeD f')) (hd' : w.defs[f']? = some numD) {l : List Int} (hl : l.length ≤ 63) {j m : Int} {S : Store} {n : Nat} (hn : S[n]? = some (drawO l j)) (hm : 0 < m) :
    ∃ r : Int, 0 ≤ r ∧ r < m ∧ callN w (k + 2) f [.loc n, .int m] S = .ok (.int r) (S.set n (drawO l (j + 1))) := by
  obtain ⟨r, h0, h1, h⟩ := take_ok (cfgN w (callN w (k + 1))) (f := f') (m := m) hn (fun i S => numC hd' hl i S) hm
  exact ⟨r, h0, h1, (callN_open hd rfl).trans h⟩
theorem ev_call {c : Cfg} {f : Nat} {as : Es} {env : KF.Env} {S S1 : Store} {ds : List D} (h : evs c as env S = .ok ds S1) : ev c (.call f as) false env S = c.call f ds S1 := by
  have e : ev c (.call f as) false env S = (evs c as env S).bind fun ds S1 => c.call f ds S1 := by simp [ev]
  rw [e, h]; rfl
theorem evs_two {c : Cfg} {e : E} {r : Es} {env : KF.Env} {S S1 S2 : Store} {d : D} {ds : List D} (h : ev c e false env S = .ok d S1) (h2 : evs c r env S1 = .ok ds S2) : evs c (.cons e r) env S = .ok (d :: ds) S2 := by
  have : evs c (.cons e r) env S = (ev c e false env S).bind fun x S1 => (evs c r env S1).bind fun xs S2 => .ok (x :: xs) S2 := by simp [evs]
  rw [this, h]
  show ((evs c r env S1).bind fun xs S2 => R.ok (d :: xs) S2) = _
  rw [h2]; rfl
theorem ex_asg {c : Cfg} {t : Tg} {e : E} {r : Sts} {env env' : KF.Env} {S S1 : Store} {d : D} (h : ev c e false env S = .ok d S1) (h2 : asg t d env = some env') : execs c (.cons (.asg t e) r) env S = execs c r env' S1 := by
  rw [execs_cons]
  have : exec c (.asg t e) env S = (ev c e false env S).st env fun d S1 => match asg t d env with
    | some env' => .next env' S1
    | none => .bad := by
    rw [exec]
    try rfl
  rw [this, h]
  show thenS _ (match asg t d env with
    | some env' => RS.next env' S1
    | none => .bad) = _
  rw [h2]; rfl
theorem ev_tup {c : Cfg} {as : Es} {env : KF.Env} {S S1 : Store} {ds : List D} (h : evs c as env S = .ok ds S1) (h2 : ds.length ≤ sizeLine) : ev c (.tup as) false env S = .ok (.tup ds) S1 := by
  have e : ev c (.tup as) false env S = (evs c as env S).bind fun ds S1 => if ds.length ≤ sizeLine then .ok (.tup ds) S1 else .bad := by simp [ev]
  rw [e, h]
  exact if_pos h2
theorem evs_none {c : Cfg} {env : KF.Env} {S : Store} : evs c .nil env S = .ok [] S := by simp [evs]
theorem ex_ifs_f {c : Cfg} {t : E} {a b r : Sts} {env : KF.Env} {S S1 : Store} (h : evT c t env S = .ok false S1) : execs c (.cons (.ifs t a b) r) env S = thenS (execs c r) (execs c b env S1) := by
  rw [execs_cons]
  have : exec c (.ifs t a b) env S = (evT c t env S).st env fun x S1 => if x = true then execs c a env S1 else execs c b env S1 := by
    rw [exec]
  rw [this, h]; rfl
theorem ex_ifs_t {c : Cfg} {t : E} {a b r : Sts} {env : KF.Env} {S S1 : Store} (h : evT c t env S = .ok true S1) : execs c (.cons (.ifs t a b) r) env S = thenS (execs c r) (execs c a env S1) := by
  rw [execs_cons]
  have : exec c (.ifs t a b) env S = (evT c t env S).st env fun x S1 => if x = true then execs c a env S1 else execs c b env S1 := by
    rw [exec]
  rw [this, h]; rfl
/-- what a body of a loop does -/
def bodyF (c : Cfg) (t : Tg) (b : Sts) : D → KF.Env → Store → RS := fun x env S => match asg t x env with
  | some env' => execs c b env' S
  | none => .bad
theorem ex_for {c : Cfg} {t : Tg} {it : It} {b r : Sts} {env : KF.Env} {S S1 : Store} {xs : List D} (hl : lkI c it env S = none) (h : evI c it env S = .ok xs S1) : execs c (.cons (.for_ t it b) r) env S = thenS (execs c r) (forL (bodyF c t b) xs env S1) := by
  rw [execs_cons]
  have : exec c (.for_ t it b) env S = (evI c it env S).st env fun xs S1 => forL (bodyF c t b) xs env S1 := by
    rw [exec]
    rw [hl]
    rfl
  rw [this, h]; rfl
theorem gc_bl (b : Bool) (S : Store) : ∃ S', gcR 0 (.ok (.bl b) S) = .ok (.bl b) S' := by
  unfold gcR
  dsimp only
  split
  · exact ⟨_, rfl⟩
  · exact ⟨_, rfl⟩
theorem map_at {α : Type} {f : Nat → Nat → α} {lo n m : Nat} {v : α} (h : (List.range' lo n).map (fun a => (List.range m).map fun b => f a b) = List.replicate n (List.replicate m v)) {a b : Nat} (h1 : lo ≤ a) (h2 : a < lo + n) (hb : b < m) : f a b = v := by
  have e := congrArg (fun l => (l[a - lo]?).bind (·[b]?)) h
  have e1 : (List.range' lo n)[a - lo]? = some a := by
    rw [List.getElem?_range' (by omega)]
    congr 1
    omega
  simp only [List.getElem?_map, e1, List.getElem?_replicate, Option.map_some, Option.bind_some, List.getElem?_range hb] at e
  rw [if_pos (by omega)] at e
  simp only [Option.bind_some, List.getElem?_replicate, if_pos hb] at e
  exact Option.some.inj e
end KF

set_option Elab.async false
set_option linter.all false
set_option maxRecDepth 100000
set_option maxHeartbeats 0
/-! P22a: k22's things -/
namespace K22
open PySem PySem.Spec PyProof.Rows L2 KF
def things : List D := [
  (.tup [.ins 5 [.int 1], .bl true]),
  (.tup [.ins 5 [.int 2], .bl true]),
  (.tup [.ins 6 [.dic false [.str "x"] [.int 1], .str "a"], .bl false]),
  (.tup [.ins 6 [.dic false [.str "x"] [.int 2], .str "a"], .bl false]),
  (.tup [.ins 6 [.dic false [.str "x"] [.int 1], .str ""], .bl false]),
  (.tup [.ins 7 [.tup [.str "x"], .tup []], .bl true]),
  (.tup [.ins 7 [.tup [], .tup [.str "x"]], .bl true]),
  (.tup [.ins 8 [.tup [.str "x"]], .bl false]),
  (.tup [.ins 8 [.tup [.str "x", .str "y"]], .bl false]),
  (.tup [.ins 12 [.int 1], .bl true]),
  (.tup [.ins 12 [.int 0], .bl true]),
  (.tup [.ins 13 [.str "a", .int 1, .int 2], .bl false]),
  (.tup [.ins 13 [.str "a", .non, .int 2], .bl false]),
  (.tup [.ins 13 [.str "", .int 1, .int 2], .bl false]),
  (.tup [.ins 16 [.tup [.str "x"]], .bl true]),
  (.tup [.ins 16 [.tup []], .bl true]),
  (.tup [.ins 17 [.int 1], .bl false]),
  (.tup [.ins 17 [.int 2], .bl false]),
  (.tup [.ins 20 [.str "a"], .bl true]),
  (.tup [.ins 20 [.non], .bl true]),
  (.tup [.ins 21 [.tup [.int 0]], .bl false]),
  (.tup [.ins 21 [.tup []], .bl false]),
  (.tup [.ins 14 [.int 1], .bl true]),
  (.tup [.ins 14 [.int 2], .bl true]),
  (.tup [.ins 15 [.tup [.int 0], .tup [.int 1], .str "x"], .bl false]),
  (.tup [.ins 15 [.tup [.int 0], .tup [.int 1], .str "y"], .bl false]),
  (.tup [.ins 15 [.tup [], .tup [.int 1], .str "x"], .bl false]),
  (.tup [.ins 15 [.tup [.int 0], .tup [.int 0], .str "x"], .bl false]),
  (.tup [.ins 22 [.int 1], .bl true]),
  (.tup [.ins 22 [.int 2], .bl true]),
  (.tup [.ins 23 [.str "x"], .bl false]),
  (.tup [.ins 23 [.str "y"], .bl false]),
  (.tup [.ins 18 [.int 1], .bl true]),
  (.tup [.ins 18 [.int 2], .bl true]),
  (.tup [.ins 19 [.tup [.int 0], .tup [.str "hang"], .tup [.str "stop", .str ""]], .bl false]),
  (.tup [.ins 19 [.tup [], .tup [.str "hang"], .tup [.str "stop", .str ""]], .bl false]),
  (.tup [.ins 19 [.tup [.int 0], .tup [.str "stop", .str ""], .tup [.str "hang"]], .bl false]),
  (.tup [.ins 24 [.int 1], .bl true]),
  (.tup [.ins 24 [.int 2], .bl true]),
  (.tup [.ins 25 [.int 0, .tup []], .bl false]),
  (.tup [.ins 25 [.int 0, .tup [.int 1]], .bl false]),
  (.tup [.ins 25 [.int 1, .tup []], .bl false]),
  (.tup [.ins 26 [.int 1], .bl true]),
  (.tup [.ins 26 [.int 2], .bl true]),
  (.tup [.ins 27 [.str "a"], .bl false]),
  (.tup [.ins 27 [.str ""], .bl false]),
  (.tup [.ins 2 [.str "a", .int 1], .bl true]),
  (.tup [.ins 2 [.str "a", .int 2], .bl true]),
  (.tup [.ins 2 [.str "", .int 1], .bl true]),
  (.tup [.ins 3 [.int 0, .int 1], .bl false]),
  (.tup [.ins 3 [.int 1, .int 1], .bl false]),
  (.tup [.ins 3 [.int 0, .int 2], .bl false]),
  (.tup [.ins 28 [.int 1], .bl true]),
  (.tup [.ins 28 [.int 2], .bl true]),
  (.tup [.ins 29 [.dic false [] [], .str "a"], .bl false]),
  (.tup [.ins 29 [.dic false [.str "x"] [.int 0], .str "a"], .bl false]),
  (.tup [.ins 30 [.int 1], .bl true]),
  (.tup [.ins 30 [.int 2], .bl true]),
  (.tup [.ins 31 [.dic false [] [], .str "a"], .bl false]),
  (.tup [.ins 31 [.dic false [.str "x"] [.int 0], .str "a"], .bl false])]

abbrev C (n : Nat) : Nat → List D → Store → R D := callN tx.w n
abbrev cf (n : Nat) : Cfg := cfgN tx.w (C n)
theorem things_ok (o : Ob) : C 19 33 [] [o] = .ok (.lst things) [o] := by kernel_rfl
def loopB : Sts := match b34 with
  | .cons _ (.cons _ (.cons (.for_ _ _ b) _)) => b
  | _ => .nil
def condE : E := match loopB with
  | .cons _ (.cons (.ifs t _ _) _) => t
  | _ => .kn
def rest : Sts := match b34 with
  | .cons _ (.cons _ (.cons _ r)) => r
  | _ => .nil
def envP (x0 : D) (x2 : Option D) (x15 x16 : Option D) : KF.Env := [some x0, some (.loc 0), x2, none, none, none, some (.lst things), some (.lst things), none, none, none, none, none, none, none, x15, x16]
def isRet : RS → Bool
  | .ret (.bl true) _ => true
  | _ => false
def dropS : Nat → Sts → Sts
  | 0, s => s
  | n + 1, .cons _ r => dropS n r
  | _ + 1, .nil => .nil
theorem t1 (x0 : D) (x2 : Option D) (o : Ob) : evT (cf 19) condE (envP x0 x2 (some (.int 0)) (some (.int 0))) [o] = .ok false [o] := by kernel_rfl
end K22

set_option Elab.async false
set_option linter.all false
set_option maxRecDepth 100000
set_option maxHeartbeats 0
/-! P22b0: pairs -/
namespace K22
open PySem PySem.Spec PyProof.Rows L2 KF
theorem pairs0 (x0 : D) (x2 : Option D) (o : Ob) : (List.range' 0 10).map (fun a => (List.range 60).map fun b => evT (cf 19) condE (envP x0 x2 (some (.int (a : Nat))) (some (.int (b : Nat)))) [o]) = List.replicate 10 (List.replicate 60 (.ok false [o])) := by kernel_rfl
end K22

set_option Elab.async false
set_option linter.all false
set_option maxRecDepth 100000
set_option maxHeartbeats 0
/-! P22b1: pairs -/
namespace K22
open PySem PySem.Spec PyProof.Rows L2 KF
theorem pairs1 (x0 : D) (x2 : Option D) (o : Ob) : (List.range' 10 10).map (fun a => (List.range 60).map fun b => evT (cf 19) condE (envP x0 x2 (some (.int (a : Nat))) (some (.int (b : Nat)))) [o]) = List.replicate 10 (List.replicate 60 (.ok false [o])) := by kernel_rfl
end K22

set_option Elab.async false
set_option linter.all false
set_option maxRecDepth 100000
set_option maxHeartbeats 0
/-! P22b2: pairs -/
namespace K22
open PySem PySem.Spec PyProof.Rows L2 KF
theorem pairs2 (x0 : D) (x2 : Option D) (o : Ob) : (List.range' 20 10).map (fun a => (List.range 60).map fun b => evT (cf 19) condE (envP x0 x2 (some (.int (a : Nat))) (some (.int (b : Nat)))) [o]) = List.replicate 10 (List.replicate 60 (.ok false [o])) := by kernel_rfl
end K22

set_option Elab.async false
set_option linter.all false
set_option maxRecDepth 100000
set_option maxHeartbeats 0
/-! P22b3: pairs -/
namespace K22
open PySem PySem.Spec PyProof.Rows L2 KF
theorem pairs3 (x0 : D) (x2 : Option D) (o : Ob) : (List.range' 30 10).map (fun a => (List.range 60).map fun b => evT (cf 19) condE (envP x0 x2 (some (.int (a : Nat))) (some (.int (b : Nat)))) [o]) = List.replicate 10 (List.replicate 60 (.ok false [o])) := by kernel_rfl
end K22

set_option Elab.async false
set_option linter.all false
set_option maxRecDepth 100000
set_option maxHeartbeats 0
/-! P22b4: pairs -/
namespace K22
open PySem PySem.Spec PyProof.Rows L2 KF
theorem pairs4 (x0 : D) (x2 : Option D) (o : Ob) : (List.range' 40 10).map (fun a => (List.range 60).map fun b => evT (cf 19) condE (envP x0 x2 (some (.int (a : Nat))) (some (.int (b : Nat)))) [o]) = List.replicate 10 (List.replicate 60 (.ok false [o])) := by kernel_rfl
end K22

set_option Elab.async false
set_option linter.all false
set_option maxRecDepth 100000
set_option maxHeartbeats 0
/-! P22b5: pairs -/
namespace K22
open PySem PySem.Spec PyProof.Rows L2 KF
theorem pairs5 (x0 : D) (x2 : Option D) (o : Ob) : (List.range' 50 10).map (fun a => (List.range 60).map fun b => evT (cf 19) condE (envP x0 x2 (some (.int (a : Nat))) (some (.int (b : Nat)))) [o]) = List.replicate 10 (List.replicate 60 (.ok false [o])) := by kernel_rfl
end K22

set_option Elab.async false
set_option linter.all false
set_option maxRecDepth 100000
set_option maxHeartbeats 0
/-! P22c0: behind the loop -/
namespace K22
open PySem PySem.Spec PyProof.Rows L2 KF
theorem rest0 (x0 : D) (x2 x15 x16 : Option D) (i : Int) : isRet (execs (cf 19) rest (envP x0 x2 x15 x16) [drawO [] i]) = true := by kernel_rfl
theorem rest1 (i0 : Int) (x0 : D) (x2 x15 x16 : Option D) (i : Int) : isRet (execs (cf 19) rest (envP x0 x2 x15 x16) [drawO [i0] i]) = true := by kernel_rfl
theorem rest2 (i0 i1 : Int) (x0 : D) (x2 x15 x16 : Option D) (i : Int) : isRet (execs (cf 19) rest (envP x0 x2 x15 x16) [drawO [i0, i1] i]) = true := by kernel_rfl
theorem rest3 (i0 i1 i2 : Int) (x0 : D) (x2 x15 x16 : Option D) (i : Int) : isRet (execs (cf 19) rest (envP x0 x2 x15 x16) [drawO [i0, i1, i2] i]) = true := by kernel_rfl
theorem rest4 (i0 i1 i2 i3 : Int) (x0 : D) (x2 x15 x16 : Option D) (i : Int) : isRet (execs (cf 19) rest (envP x0 x2 x15 x16) [drawO [i0, i1, i2, i3] i]) = true := by kernel_rfl
theorem rest5 (i0 i1 i2 i3 i4 : Int) (x0 : D) (x2 x15 x16 : Option D) (i : Int) : isRet (execs (cf 19) rest (envP x0 x2 x15 x16) [drawO [i0, i1, i2, i3, i4] i]) = true := by kernel_rfl
theorem rest6 (i0 i1 i2 i3 i4 i5 : Int) (x0 : D) (x2 x15 x16 : Option D) (i : Int) : isRet (execs (cf 19) rest (envP x0 x2 x15 x16) [drawO [i0, i1, i2, i3, i4, i5] i]) = true := by kernel_rfl
theorem rest7 (i0 i1 i2 i3 i4 i5 i6 : Int) (x0 : D) (x2 x15 x16 : Option D) (i : Int) : isRet (execs (cf 19) rest (envP x0 x2 x15 x16) [drawO [i0, i1, i2, i3, i4, i5, i6] i]) = true := by kernel_rfl
end K22

set_option Elab.async false
set_option linter.all false
set_option maxRecDepth 100000
set_option maxHeartbeats 0
/-! P22c1: behind the loop -/
namespace K22
open PySem PySem.Spec PyProof.Rows L2 KF
theorem rest8 (i0 i1 i2 i3 i4 i5 i6 i7 : Int) (x0 : D) (x2 x15 x16 : Option D) (i : Int) : isRet (execs (cf 19) rest (envP x0 x2 x15 x16) [drawO [i0, i1, i2, i3, i4, i5, i6, i7] i]) = true := by kernel_rfl
theorem rest9 (i0 i1 i2 i3 i4 i5 i6 i7 i8 : Int) (x0 : D) (x2 x15 x16 : Option D) (i : Int) : isRet (execs (cf 19) rest (envP x0 x2 x15 x16) [drawO [i0, i1, i2, i3, i4, i5, i6, i7, i8] i]) = true := by kernel_rfl
theorem rest10 (i0 i1 i2 i3 i4 i5 i6 i7 i8 i9 : Int) (x0 : D) (x2 x15 x16 : Option D) (i : Int) : isRet (execs (cf 19) rest (envP x0 x2 x15 x16) [drawO [i0, i1, i2, i3, i4, i5, i6, i7, i8, i9] i]) = true := by kernel_rfl
theorem rest11 (i0 i1 i2 i3 i4 i5 i6 i7 i8 i9 i10 : Int) (x0 : D) (x2 x15 x16 : Option D) (i : Int) : isRet (execs (cf 19) rest (envP x0 x2 x15 x16) [drawO [i0, i1, i2, i3, i4, i5, i6, i7, i8, i9, i10] i]) = true := by kernel_rfl
theorem rest12 (i0 i1 i2 i3 i4 i5 i6 i7 i8 i9 i10 i11 : Int) (x0 : D) (x2 x15 x16 : Option D) (i : Int) : isRet (execs (cf 19) rest (envP x0 x2 x15 x16) [drawO [i0, i1, i2, i3, i4, i5, i6, i7, i8, i9, i10, i11] i]) = true := by kernel_rfl
theorem rest13 (i0 i1 i2 i3 i4 i5 i6 i7 i8 i9 i10 i11 i12 : Int) (x0 : D) (x2 x15 x16 : Option D) (i : Int) : isRet (execs (cf 19) rest (envP x0 x2 x15 x16) [drawO [i0, i1, i2, i3, i4, i5, i6, i7, i8, i9, i10, i11, i12] i]) = true := by kernel_rfl
theorem rest14 (i0 i1 i2 i3 i4 i5 i6 i7 i8 i9 i10 i11 i12 i13 : Int) (x0 : D) (x2 x15 x16 : Option D) (i : Int) : isRet (execs (cf 19) rest (envP x0 x2 x15 x16) [drawO [i0, i1, i2, i3, i4, i5, i6, i7, i8, i9, i10, i11, i12, i13] i]) = true := by kernel_rfl
theorem rest15 (i0 i1 i2 i3 i4 i5 i6 i7 i8 i9 i10 i11 i12 i13 i14 : Int) (x0 : D) (x2 x15 x16 : Option D) (i : Int) : isRet (execs (cf 19) rest (envP x0 x2 x15 x16) [drawO [i0, i1, i2, i3, i4, i5, i6, i7, i8, i9, i10, i11, i12, i13, i14] i]) = true := by kernel_rfl
end K22

set_option Elab.async false
set_option linter.all false
set_option maxRecDepth 100000
set_option maxHeartbeats 0
/-! P22c2: behind the loop -/
namespace K22
open PySem PySem.Spec PyProof.Rows L2 KF
theorem rest16 (i0 i1 i2 i3 i4 i5 i6 i7 i8 i9 i10 i11 i12 i13 i14 i15 : Int) (x0 : D) (x2 x15 x16 : Option D) (i : Int) : isRet (execs (cf 19) rest (envP x0 x2 x15 x16) [drawO [i0, i1, i2, i3, i4, i5, i6, i7, i8, i9, i10, i11, i12, i13, i14, i15] i]) = true := by kernel_rfl
theorem rest17 (i0 i1 i2 i3 i4 i5 i6 i7 i8 i9 i10 i11 i12 i13 i14 i15 i16 : Int) (x0 : D) (x2 x15 x16 : Option D) (i : Int) : isRet (execs (cf 19) rest (envP x0 x2 x15 x16) [drawO [i0, i1, i2, i3, i4, i5, i6, i7, i8, i9, i10, i11, i12, i13, i14, i15, i16] i]) = true := by kernel_rfl
theorem rest18 (i0 i1 i2 i3 i4 i5 i6 i7 i8 i9 i10 i11 i12 i13 i14 i15 i16 i17 : Int) (x0 : D) (x2 x15 x16 : Option D) (i : Int) : isRet (execs (cf 19) rest (envP x0 x2 x15 x16) [drawO [i0, i1, i2, i3, i4, i5, i6, i7, i8, i9, i10, i11, i12, i13, i14, i15, i16, i17] i]) = true := by kernel_rfl
theorem rest19 (i0 i1 i2 i3 i4 i5 i6 i7 i8 i9 i10 i11 i12 i13 i14 i15 i16 i17 i18 : Int) (x0 : D) (x2 x15 x16 : Option D) (i : Int) : isRet (execs (cf 19) rest (envP x0 x2 x15 x16) [drawO [i0, i1, i2, i3, i4, i5, i6, i7, i8, i9, i10, i11, i12, i13, i14, i15, i16, i17, i18] i]) = true := by kernel_rfl
theorem rest20 (i0 i1 i2 i3 i4 i5 i6 i7 i8 i9 i10 i11 i12 i13 i14 i15 i16 i17 i18 i19 : Int) (x0 : D) (x2 x15 x16 : Option D) (i : Int) : isRet (execs (cf 19) rest (envP x0 x2 x15 x16) [drawO [i0, i1, i2, i3, i4, i5, i6, i7, i8, i9, i10, i11, i12, i13, i14, i15, i16, i17, i18, i19] i]) = true := by kernel_rfl
theorem rest21 (i0 i1 i2 i3 i4 i5 i6 i7 i8 i9 i10 i11 i12 i13 i14 i15 i16 i17 i18 i19 i20 : Int) (x0 : D) (x2 x15 x16 : Option D) (i : Int) : isRet (execs (cf 19) rest (envP x0 x2 x15 x16) [drawO [i0, i1, i2, i3, i4, i5, i6, i7, i8, i9, i10, i11, i12, i13, i14, i15, i16, i17, i18, i19, i20] i]) = true := by kernel_rfl
theorem rest22 (i0 i1 i2 i3 i4 i5 i6 i7 i8 i9 i10 i11 i12 i13 i14 i15 i16 i17 i18 i19 i20 i21 : Int) (x0 : D) (x2 x15 x16 : Option D) (i : Int) : isRet (execs (cf 19) rest (envP x0 x2 x15 x16) [drawO [i0, i1, i2, i3, i4, i5, i6, i7, i8, i9, i10, i11, i12, i13, i14, i15, i16, i17, i18, i19, i20, i21] i]) = true := by kernel_rfl
theorem rest23 (i0 i1 i2 i3 i4 i5 i6 i7 i8 i9 i10 i11 i12 i13 i14 i15 i16 i17 i18 i19 i20 i21 i22 : Int) (x0 : D) (x2 x15 x16 : Option D) (i : Int) : isRet (execs (cf 19) rest (envP x0 x2 x15 x16) [drawO [i0, i1, i2, i3, i4, i5, i6, i7, i8, i9, i10, i11, i12, i13, i14, i15, i16, i17, i18, i19, i20, i21, i22] i]) = true := by kernel_rfl
end K22

set_option Elab.async false
set_option linter.all false
set_option maxRecDepth 100000
set_option maxHeartbeats 0
/-! P22c3: behind the loop -/
namespace K22
open PySem PySem.Spec PyProof.Rows L2 KF
theorem rest24 (i0 i1 i2 i3 i4 i5 i6 i7 i8 i9 i10 i11 i12 i13 i14 i15 i16 i17 i18 i19 i20 i21 i22 i23 : Int) (x0 : D) (x2 x15 x16 : Option D) (i : Int) : isRet (execs (cf 19) rest (envP x0 x2 x15 x16) [drawO [i0, i1, i2, i3, i4, i5, i6, i7, i8, i9, i10, i11, i12, i13, i14, i15, i16, i17, i18, i19, i20, i21, i22, i23] i]) = true := by kernel_rfl
theorem rest25 (i0 i1 i2 i3 i4 i5 i6 i7 i8 i9 i10 i11 i12 i13 i14 i15 i16 i17 i18 i19 i20 i21 i22 i23 i24 : Int) (x0 : D) (x2 x15 x16 : Option D) (i : Int) : isRet (execs (cf 19) rest (envP x0 x2 x15 x16) [drawO [i0, i1, i2, i3, i4, i5, i6, i7, i8, i9, i10, i11, i12, i13, i14, i15, i16, i17, i18, i19, i20, i21, i22, i23, i24] i]) = true := by kernel_rfl
theorem rest26 (i0 i1 i2 i3 i4 i5 i6 i7 i8 i9 i10 i11 i12 i13 i14 i15 i16 i17 i18 i19 i20 i21 i22 i23 i24 i25 : Int) (x0 : D) (x2 x15 x16 : Option D) (i : Int) : isRet (execs (cf 19) rest (envP x0 x2 x15 x16) [drawO [i0, i1, i2, i3, i4, i5, i6, i7, i8, i9, i10, i11, i12, i13, i14, i15, i16, i17, i18, i19, i20, i21, i22, i23, i24, i25] i]) = true := by kernel_rfl
theorem rest27 (i0 i1 i2 i3 i4 i5 i6 i7 i8 i9 i10 i11 i12 i13 i14 i15 i16 i17 i18 i19 i20 i21 i22 i23 i24 i25 i26 : Int) (x0 : D) (x2 x15 x16 : Option D) (i : Int) : isRet (execs (cf 19) rest (envP x0 x2 x15 x16) [drawO [i0, i1, i2, i3, i4, i5, i6, i7, i8, i9, i10, i11, i12, i13, i14, i15, i16, i17, i18, i19, i20, i21, i22, i23, i24, i25, i26] i]) = true := by kernel_rfl
theorem rest28 (i0 i1 i2 i3 i4 i5 i6 i7 i8 i9 i10 i11 i12 i13 i14 i15 i16 i17 i18 i19 i20 i21 i22 i23 i24 i25 i26 i27 : Int) (x0 : D) (x2 x15 x16 : Option D) (i : Int) : isRet (execs (cf 19) rest (envP x0 x2 x15 x16) [drawO [i0, i1, i2, i3, i4, i5, i6, i7, i8, i9, i10, i11, i12, i13, i14, i15, i16, i17, i18, i19, i20, i21, i22, i23, i24, i25, i26, i27] i]) = true := by kernel_rfl
theorem rest29 (i0 i1 i2 i3 i4 i5 i6 i7 i8 i9 i10 i11 i12 i13 i14 i15 i16 i17 i18 i19 i20 i21 i22 i23 i24 i25 i26 i27 i28 : Int) (x0 : D) (x2 x15 x16 : Option D) (i : Int) : isRet (execs (cf 19) rest (envP x0 x2 x15 x16) [drawO [i0, i1, i2, i3, i4, i5, i6, i7, i8, i9, i10, i11, i12, i13, i14, i15, i16, i17, i18, i19, i20, i21, i22, i23, i24, i25, i26, i27, i28] i]) = true := by kernel_rfl
theorem rest30 (i0 i1 i2 i3 i4 i5 i6 i7 i8 i9 i10 i11 i12 i13 i14 i15 i16 i17 i18 i19 i20 i21 i22 i23 i24 i25 i26 i27 i28 i29 : Int) (x0 : D) (x2 x15 x16 : Option D) (i : Int) : isRet (execs (cf 19) rest (envP x0 x2 x15 x16) [drawO [i0, i1, i2, i3, i4, i5, i6, i7, i8, i9, i10, i11, i12, i13, i14, i15, i16, i17, i18, i19, i20, i21, i22, i23, i24, i25, i26, i27, i28, i29] i]) = true := by kernel_rfl
theorem rest31 (i0 i1 i2 i3 i4 i5 i6 i7 i8 i9 i10 i11 i12 i13 i14 i15 i16 i17 i18 i19 i20 i21 i22 i23 i24 i25 i26 i27 i28 i29 i30 : Int) (x0 : D) (x2 x15 x16 : Option D) (i : Int) : isRet (execs (cf 19) rest (envP x0 x2 x15 x16) [drawO [i0, i1, i2, i3, i4, i5, i6, i7, i8, i9, i10, i11, i12, i13, i14, i15, i16, i17, i18, i19, i20, i21, i22, i23, i24, i25, i26, i27, i28, i29, i30] i]) = true := by kernel_rfl
end K22

set_option Elab.async false
set_option linter.all false
set_option maxRecDepth 100000
set_option maxHeartbeats 0
/-! P22c4: behind the loop -/
namespace K22
open PySem PySem.Spec PyProof.Rows L2 KF
theorem rest32 (i0 i1 i2 i3 i4 i5 i6 i7 i8 i9 i10 i11 i12 i13 i14 i15 i16 i17 i18 i19 i20 i21 i22 i23 i24 i25 i26 i27 i28 i29 i30 i31 : Int) (x0 : D) (x2 x15 x16 : Option D) (i : Int) : isRet (execs (cf 19) rest (envP x0 x2 x15 x16) [drawO [i0, i1, i2, i3, i4, i5, i6, i7, i8, i9, i10, i11, i12, i13, i14, i15, i16, i17, i18, i19, i20, i21, i22, i23, i24, i25, i26, i27, i28, i29, i30, i31] i]) = true := by kernel_rfl
theorem rest33 (i0 i1 i2 i3 i4 i5 i6 i7 i8 i9 i10 i11 i12 i13 i14 i15 i16 i17 i18 i19 i20 i21 i22 i23 i24 i25 i26 i27 i28 i29 i30 i31 i32 : Int) (x0 : D) (x2 x15 x16 : Option D) (i : Int) : isRet (execs (cf 19) rest (envP x0 x2 x15 x16) [drawO [i0, i1, i2, i3, i4, i5, i6, i7, i8, i9, i10, i11, i12, i13, i14, i15, i16, i17, i18, i19, i20, i21, i22, i23, i24, i25, i26, i27, i28, i29, i30, i31, i32] i]) = true := by kernel_rfl
theorem rest34 (i0 i1 i2 i3 i4 i5 i6 i7 i8 i9 i10 i11 i12 i13 i14 i15 i16 i17 i18 i19 i20 i21 i22 i23 i24 i25 i26 i27 i28 i29 i30 i31 i32 i33 : Int) (x0 : D) (x2 x15 x16 : Option D) (i : Int) : isRet (execs (cf 19) rest (envP x0 x2 x15 x16) [drawO [i0, i1, i2, i3, i4, i5, i6, i7, i8, i9, i10, i11, i12, i13, i14, i15, i16, i17, i18, i19, i20, i21, i22, i23, i24, i25, i26, i27, i28, i29, i30, i31, i32, i33] i]) = true := by kernel_rfl
theorem rest35 (i0 i1 i2 i3 i4 i5 i6 i7 i8 i9 i10 i11 i12 i13 i14 i15 i16 i17 i18 i19 i20 i21 i22 i23 i24 i25 i26 i27 i28 i29 i30 i31 i32 i33 i34 : Int) (x0 : D) (x2 x15 x16 : Option D) (i : Int) : isRet (execs (cf 19) rest (envP x0 x2 x15 x16) [drawO [i0, i1, i2, i3, i4, i5, i6, i7, i8, i9, i10, i11, i12, i13, i14, i15, i16, i17, i18, i19, i20, i21, i22, i23, i24, i25, i26, i27, i28, i29, i30, i31, i32, i33, i34] i]) = true := by kernel_rfl
theorem rest36 (i0 i1 i2 i3 i4 i5 i6 i7 i8 i9 i10 i11 i12 i13 i14 i15 i16 i17 i18 i19 i20 i21 i22 i23 i24 i25 i26 i27 i28 i29 i30 i31 i32 i33 i34 i35 : Int) (x0 : D) (x2 x15 x16 : Option D) (i : Int) : isRet (execs (cf 19) rest (envP x0 x2 x15 x16) [drawO [i0, i1, i2, i3, i4, i5, i6, i7, i8, i9, i10, i11, i12, i13, i14, i15, i16, i17, i18, i19, i20, i21, i22, i23, i24, i25, i26, i27, i28, i29, i30, i31, i32, i33, i34, i35] i]) = true := by kernel_rfl
theorem rest37 (i0 i1 i2 i3 i4 i5 i6 i7 i8 i9 i10 i11 i12 i13 i14 i15 i16 i17 i18 i19 i20 i21 i22 i23 i24 i25 i26 i27 i28 i29 i30 i31 i32 i33 i34 i35 i36 : Int) (x0 : D) (x2 x15 x16 : Option D) (i : Int) : isRet (execs (cf 19) rest (envP x0 x2 x15 x16) [drawO [i0, i1, i2, i3, i4, i5, i6, i7, i8, i9, i10, i11, i12, i13, i14, i15, i16, i17, i18, i19, i20, i21, i22, i23, i24, i25, i26, i27, i28, i29, i30, i31, i32, i33, i34, i35, i36] i]) = true := by kernel_rfl
theorem rest38 (i0 i1 i2 i3 i4 i5 i6 i7 i8 i9 i10 i11 i12 i13 i14 i15 i16 i17 i18 i19 i20 i21 i22 i23 i24 i25 i26 i27 i28 i29 i30 i31 i32 i33 i34 i35 i36 i37 : Int) (x0 : D) (x2 x15 x16 : Option D) (i : Int) : isRet (execs (cf 19) rest (envP x0 x2 x15 x16) [drawO [i0, i1, i2, i3, i4, i5, i6, i7, i8, i9, i10, i11, i12, i13, i14, i15, i16, i17, i18, i19, i20, i21, i22, i23, i24, i25, i26, i27, i28, i29, i30, i31, i32, i33, i34, i35, i36, i37] i]) = true := by kernel_rfl
theorem rest39 (i0 i1 i2 i3 i4 i5 i6 i7 i8 i9 i10 i11 i12 i13 i14 i15 i16 i17 i18 i19 i20 i21 i22 i23 i24 i25 i26 i27 i28 i29 i30 i31 i32 i33 i34 i35 i36 i37 i38 : Int) (x0 : D) (x2 x15 x16 : Option D) (i : Int) : isRet (execs (cf 19) rest (envP x0 x2 x15 x16) [drawO [i0, i1, i2, i3, i4, i5, i6, i7, i8, i9, i10, i11, i12, i13, i14, i15, i16, i17, i18, i19, i20, i21, i22, i23, i24, i25, i26, i27, i28, i29, i30, i31, i32, i33, i34, i35, i36, i37, i38] i]) = true := by kernel_rfl
end K22

set_option Elab.async false
set_option linter.all false
set_option maxRecDepth 100000
set_option maxHeartbeats 0
/-! P22c5: behind the loop -/
namespace K22
open PySem PySem.Spec PyProof.Rows L2 KF
theorem rest40 (i0 i1 i2 i3 i4 i5 i6 i7 i8 i9 i10 i11 i12 i13 i14 i15 i16 i17 i18 i19 i20 i21 i22 i23 i24 i25 i26 i27 i28 i29 i30 i31 i32 i33 i34 i35 i36 i37 i38 i39 : Int) (x0 : D) (x2 x15 x16 : Option D) (i : Int) : isRet (execs (cf 19) rest (envP x0 x2 x15 x16) [drawO [i0, i1, i2, i3, i4, i5, i6, i7, i8, i9, i10, i11, i12, i13, i14, i15, i16, i17, i18, i19, i20, i21, i22, i23, i24, i25, i26, i27, i28, i29, i30, i31, i32, i33, i34, i35, i36, i37, i38, i39] i]) = true := by kernel_rfl
theorem rest41 (i0 i1 i2 i3 i4 i5 i6 i7 i8 i9 i10 i11 i12 i13 i14 i15 i16 i17 i18 i19 i20 i21 i22 i23 i24 i25 i26 i27 i28 i29 i30 i31 i32 i33 i34 i35 i36 i37 i38 i39 i40 : Int) (x0 : D) (x2 x15 x16 : Option D) (i : Int) : isRet (execs (cf 19) rest (envP x0 x2 x15 x16) [drawO [i0, i1, i2, i3, i4, i5, i6, i7, i8, i9, i10, i11, i12, i13, i14, i15, i16, i17, i18, i19, i20, i21, i22, i23, i24, i25, i26, i27, i28, i29, i30, i31, i32, i33, i34, i35, i36, i37, i38, i39, i40] i]) = true := by kernel_rfl
theorem rest42 (i0 i1 i2 i3 i4 i5 i6 i7 i8 i9 i10 i11 i12 i13 i14 i15 i16 i17 i18 i19 i20 i21 i22 i23 i24 i25 i26 i27 i28 i29 i30 i31 i32 i33 i34 i35 i36 i37 i38 i39 i40 i41 : Int) (x0 : D) (x2 x15 x16 : Option D) (i : Int) : isRet (execs (cf 19) rest (envP x0 x2 x15 x16) [drawO [i0, i1, i2, i3, i4, i5, i6, i7, i8, i9, i10, i11, i12, i13, i14, i15, i16, i17, i18, i19, i20, i21, i22, i23, i24, i25, i26, i27, i28, i29, i30, i31, i32, i33, i34, i35, i36, i37, i38, i39, i40, i41] i]) = true := by kernel_rfl
theorem rest43 (i0 i1 i2 i3 i4 i5 i6 i7 i8 i9 i10 i11 i12 i13 i14 i15 i16 i17 i18 i19 i20 i21 i22 i23 i24 i25 i26 i27 i28 i29 i30 i31 i32 i33 i34 i35 i36 i37 i38 i39 i40 i41 i42 : Int) (x0 : D) (x2 x15 x16 : Option D) (i : Int) : isRet (execs (cf 19) rest (envP x0 x2 x15 x16) [drawO [i0, i1, i2, i3, i4, i5, i6, i7, i8, i9, i10, i11, i12, i13, i14, i15, i16, i17, i18, i19, i20, i21, i22, i23, i24, i25, i26, i27, i28, i29, i30, i31, i32, i33, i34, i35, i36, i37, i38, i39, i40, i41, i42] i]) = true := by kernel_rfl
theorem rest44 (i0 i1 i2 i3 i4 i5 i6 i7 i8 i9 i10 i11 i12 i13 i14 i15 i16 i17 i18 i19 i20 i21 i22 i23 i24 i25 i26 i27 i28 i29 i30 i31 i32 i33 i34 i35 i36 i37 i38 i39 i40 i41 i42 i43 : Int) (x0 : D) (x2 x15 x16 : Option D) (i : Int) : isRet (execs (cf 19) rest (envP x0 x2 x15 x16) [drawO [i0, i1, i2, i3, i4, i5, i6, i7, i8, i9, i10, i11, i12, i13, i14, i15, i16, i17, i18, i19, i20, i21, i22, i23, i24, i25, i26, i27, i28, i29, i30, i31, i32, i33, i34, i35, i36, i37, i38, i39, i40, i41, i42, i43] i]) = true := by kernel_rfl
theorem rest45 (i0 i1 i2 i3 i4 i5 i6 i7 i8 i9 i10 i11 i12 i13 i14 i15 i16 i17 i18 i19 i20 i21 i22 i23 i24 i25 i26 i27 i28 i29 i30 i31 i32 i33 i34 i35 i36 i37 i38 i39 i40 i41 i42 i43 i44 : Int) (x0 : D) (x2 x15 x16 : Option D) (i : Int) : isRet (execs (cf 19) rest (envP x0 x2 x15 x16) [drawO [i0, i1, i2, i3, i4, i5, i6, i7, i8, i9, i10, i11, i12, i13, i14, i15, i16, i17, i18, i19, i20, i21, i22, i23, i24, i25, i26, i27, i28, i29, i30, i31, i32, i33, i34, i35, i36, i37, i38, i39, i40, i41, i42, i43, i44] i]) = true := by kernel_rfl
theorem rest46 (i0 i1 i2 i3 i4 i5 i6 i7 i8 i9 i10 i11 i12 i13 i14 i15 i16 i17 i18 i19 i20 i21 i22 i23 i24 i25 i26 i27 i28 i29 i30 i31 i32 i33 i34 i35 i36 i37 i38 i39 i40 i41 i42 i43 i44 i45 : Int) (x0 : D) (x2 x15 x16 : Option D) (i : Int) : isRet (execs (cf 19) rest (envP x0 x2 x15 x16) [drawO [i0, i1, i2, i3, i4, i5, i6, i7, i8, i9, i10, i11, i12, i13, i14, i15, i16, i17, i18, i19, i20, i21, i22, i23, i24, i25, i26, i27, i28, i29, i30, i31, i32, i33, i34, i35, i36, i37, i38, i39, i40, i41, i42, i43, i44, i45] i]) = true := by kernel_rfl
theorem rest47 (i0 i1 i2 i3 i4 i5 i6 i7 i8 i9 i10 i11 i12 i13 i14 i15 i16 i17 i18 i19 i20 i21 i22 i23 i24 i25 i26 i27 i28 i29 i30 i31 i32 i33 i34 i35 i36 i37 i38 i39 i40 i41 i42 i43 i44 i45 i46 : Int) (x0 : D) (x2 x15 x16 : Option D) (i : Int) : isRet (execs (cf 19) rest (envP x0 x2 x15 x16) [drawO [i0, i1, i2, i3, i4, i5, i6, i7, i8, i9, i10, i11, i12, i13, i14, i15, i16, i17, i18, i19, i20, i21, i22, i23, i24, i25, i26, i27, i28, i29, i30, i31, i32, i33, i34, i35, i36, i37, i38, i39, i40, i41, i42, i43, i44, i45, i46] i]) = true := by kernel_rfl
end K22

set_option Elab.async false
set_option linter.all false
set_option maxRecDepth 100000
set_option maxHeartbeats 0
/-! P22c6: behind the loop -/
namespace K22
open PySem PySem.Spec PyProof.Rows L2 KF
theorem rest48 (i0 i1 i2 i3 i4 i5 i6 i7 i8 i9 i10 i11 i12 i13 i14 i15 i16 i17 i18 i19 i20 i21 i22 i23 i24 i25 i26 i27 i28 i29 i30 i31 i32 i33 i34 i35 i36 i37 i38 i39 i40 i41 i42 i43 i44 i45 i46 i47 : Int) (x0 : D) (x2 x15 x16 : Option D) (i : Int) : isRet (execs (cf 19) rest (envP x0 x2 x15 x16) [drawO [i0, i1, i2, i3, i4, i5, i6, i7, i8, i9, i10, i11, i12, i13, i14, i15, i16, i17, i18, i19, i20, i21, i22, i23, i24, i25, i26, i27, i28, i29, i30, i31, i32, i33, i34, i35, i36, i37, i38, i39, i40, i41, i42, i43, i44, i45, i46, i47] i]) = true := by kernel_rfl
theorem rest49 (i0 i1 i2 i3 i4 i5 i6 i7 i8 i9 i10 i11 i12 i13 i14 i15 i16 i17 i18 i19 i20 i21 i22 i23 i24 i25 i26 i27 i28 i29 i30 i31 i32 i33 i34 i35 i36 i37 i38 i39 i40 i41 i42 i43 i44 i45 i46 i47 i48 : Int) (x0 : D) (x2 x15 x16 : Option D) (i : Int) : isRet (execs (cf 19) rest (envP x0 x2 x15 x16) [drawO [i0, i1, i2, i3, i4, i5, i6, i7, i8, i9, i10, i11, i12, i13, i14, i15, i16, i17, i18, i19, i20, i21, i22, i23, i24, i25, i26, i27, i28, i29, i30, i31, i32, i33, i34, i35, i36, i37, i38, i39, i40, i41, i42, i43, i44, i45, i46, i47, i48] i]) = true := by kernel_rfl
theorem rest50 (i0 i1 i2 i3 i4 i5 i6 i7 i8 i9 i10 i11 i12 i13 i14 i15 i16 i17 i18 i19 i20 i21 i22 i23 i24 i25 i26 i27 i28 i29 i30 i31 i32 i33 i34 i35 i36 i37 i38 i39 i40 i41 i42 i43 i44 i45 i46 i47 i48 i49 : Int) (x0 : D) (x2 x15 x16 : Option D) (i : Int) : isRet (execs (cf 19) rest (envP x0 x2 x15 x16) [drawO [i0, i1, i2, i3, i4, i5, i6, i7, i8, i9, i10, i11, i12, i13, i14, i15, i16, i17, i18, i19, i20, i21, i22, i23, i24, i25, i26, i27, i28, i29, i30, i31, i32, i33, i34, i35, i36, i37, i38, i39, i40, i41, i42, i43, i44, i45, i46, i47, i48, i49] i]) = true := by kernel_rfl
theorem rest51 (i0 i1 i2 i3 i4 i5 i6 i7 i8 i9 i10 i11 i12 i13 i14 i15 i16 i17 i18 i19 i20 i21 i22 i23 i24 i25 i26 i27 i28 i29 i30 i31 i32 i33 i34 i35 i36 i37 i38 i39 i40 i41 i42 i43 i44 i45 i46 i47 i48 i49 i50 : Int) (x0 : D) (x2 x15 x16 : Option D) (i : Int) : isRet (execs (cf 19) rest (envP x0 x2 x15 x16) [drawO [i0, i1, i2, i3, i4, i5, i6, i7, i8, i9, i10, i11, i12, i13, i14, i15, i16, i17, i18, i19, i20, i21, i22, i23, i24, i25, i26, i27, i28, i29, i30, i31, i32, i33, i34, i35, i36, i37, i38, i39, i40, i41, i42, i43, i44, i45, i46, i47, i48, i49, i50] i]) = true := by kernel_rfl
theorem rest52 (i0 i1 i2 i3 i4 i5 i6 i7 i8 i9 i10 i11 i12 i13 i14 i15 i16 i17 i18 i19 i20 i21 i22 i23 i24 i25 i26 i27 i28 i29 i30 i31 i32 i33 i34 i35 i36 i37 i38 i39 i40 i41 i42 i43 i44 i45 i46 i47 i48 i49 i50 i51 : Int) (x0 : D) (x2 x15 x16 : Option D) (i : Int) : isRet (execs (cf 19) rest (envP x0 x2 x15 x16) [drawO [i0, i1, i2, i3, i4, i5, i6, i7, i8, i9, i10, i11, i12, i13, i14, i15, i16, i17, i18, i19, i20, i21, i22, i23, i24, i25, i26, i27, i28, i29, i30, i31, i32, i33, i34, i35, i36, i37, i38, i39, i40, i41, i42, i43, i44, i45, i46, i47, i48, i49, i50, i51] i]) = true := by kernel_rfl
theorem rest53 (i0 i1 i2 i3 i4 i5 i6 i7 i8 i9 i10 i11 i12 i13 i14 i15 i16 i17 i18 i19 i20 i21 i22 i23 i24 i25 i26 i27 i28 i29 i30 i31 i32 i33 i34 i35 i36 i37 i38 i39 i40 i41 i42 i43 i44 i45 i46 i47 i48 i49 i50 i51 i52 : Int) (x0 : D) (x2 x15 x16 : Option D) (i : Int) : isRet (execs (cf 19) rest (envP x0 x2 x15 x16) [drawO [i0, i1, i2, i3, i4, i5, i6, i7, i8, i9, i10, i11, i12, i13, i14, i15, i16, i17, i18, i19, i20, i21, i22, i23, i24, i25, i26, i27, i28, i29, i30, i31, i32, i33, i34, i35, i36, i37, i38, i39, i40, i41, i42, i43, i44, i45, i46, i47, i48, i49, i50, i51, i52] i]) = true := by kernel_rfl
theorem rest54 (i0 i1 i2 i3 i4 i5 i6 i7 i8 i9 i10 i11 i12 i13 i14 i15 i16 i17 i18 i19 i20 i21 i22 i23 i24 i25 i26 i27 i28 i29 i30 i31 i32 i33 i34 i35 i36 i37 i38 i39 i40 i41 i42 i43 i44 i45 i46 i47 i48 i49 i50 i51 i52 i53 : Int) (x0 : D) (x2 x15 x16 : Option D) (i : Int) : isRet (execs (cf 19) rest (envP x0 x2 x15 x16) [drawO [i0, i1, i2, i3, i4, i5, i6, i7, i8, i9, i10, i11, i12, i13, i14, i15, i16, i17, i18, i19, i20, i21, i22, i23, i24, i25, i26, i27, i28, i29, i30, i31, i32, i33, i34, i35, i36, i37, i38, i39, i40, i41, i42, i43, i44, i45, i46, i47, i48, i49, i50, i51, i52, i53] i]) = true := by kernel_rfl
theorem rest55 (i0 i1 i2 i3 i4 i5 i6 i7 i8 i9 i10 i11 i12 i13 i14 i15 i16 i17 i18 i19 i20 i21 i22 i23 i24 i25 i26 i27 i28 i29 i30 i31 i32 i33 i34 i35 i36 i37 i38 i39 i40 i41 i42 i43 i44 i45 i46 i47 i48 i49 i50 i51 i52 i53 i54 : Int) (x0 : D) (x2 x15 x16 : Option D) (i : Int) : isRet (execs (cf 19) rest (envP x0 x2 x15 x16) [drawO [i0, i1, i2, i3, i4, i5, i6, i7, i8, i9, i10, i11, i12, i13, i14, i15, i16, i17, i18, i19, i20, i21, i22, i23, i24, i25, i26, i27, i28, i29, i30, i31, i32, i33, i34, i35, i36, i37, i38, i39, i40, i41, i42, i43, i44, i45, i46, i47, i48, i49, i50, i51, i52, i53, i54] i]) = true := by kernel_rfl
end K22

set_option Elab.async false
set_option linter.all false
set_option maxRecDepth 100000
set_option maxHeartbeats 0
/-! P22c7: behind the loop -/
namespace K22
open PySem PySem.Spec PyProof.Rows L2 KF
theorem rest56 (i0 i1 i2 i3 i4 i5 i6 i7 i8 i9 i10 i11 i12 i13 i14 i15 i16 i17 i18 i19 i20 i21 i22 i23 i24 i25 i26 i27 i28 i29 i30 i31 i32 i33 i34 i35 i36 i37 i38 i39 i40 i41 i42 i43 i44 i45 i46 i47 i48 i49 i50 i51 i52 i53 i54 i55 : Int) (x0 : D) (x2 x15 x16 : Option D) (i : Int) : isRet (execs (cf 19) rest (envP x0 x2 x15 x16) [drawO [i0, i1, i2, i3, i4, i5, i6, i7, i8, i9, i10, i11, i12, i13, i14, i15, i16, i17, i18, i19, i20, i21, i22, i23, i24, i25, i26, i27, i28, i29, i30, i31, i32, i33, i34, i35, i36, i37, i38, i39, i40, i41, i42, i43, i44, i45, i46, i47, i48, i49, i50, i51, i52, i53, i54, i55] i]) = true := by kernel_rfl
theorem rest57 (i0 i1 i2 i3 i4 i5 i6 i7 i8 i9 i10 i11 i12 i13 i14 i15 i16 i17 i18 i19 i20 i21 i22 i23 i24 i25 i26 i27 i28 i29 i30 i31 i32 i33 i34 i35 i36 i37 i38 i39 i40 i41 i42 i43 i44 i45 i46 i47 i48 i49 i50 i51 i52 i53 i54 i55 i56 : Int) (x0 : D) (x2 x15 x16 : Option D) (i : Int) : isRet (execs (cf 19) rest (envP x0 x2 x15 x16) [drawO [i0, i1, i2, i3, i4, i5, i6, i7, i8, i9, i10, i11, i12, i13, i14, i15, i16, i17, i18, i19, i20, i21, i22, i23, i24, i25, i26, i27, i28, i29, i30, i31, i32, i33, i34, i35, i36, i37, i38, i39, i40, i41, i42, i43, i44, i45, i46, i47, i48, i49, i50, i51, i52, i53, i54, i55, i56] i]) = true := by kernel_rfl
theorem rest58 (i0 i1 i2 i3 i4 i5 i6 i7 i8 i9 i10 i11 i12 i13 i14 i15 i16 i17 i18 i19 i20 i21 i22 i23 i24 i25 i26 i27 i28 i29 i30 i31 i32 i33 i34 i35 i36 i37 i38 i39 i40 i41 i42 i43 i44 i45 i46 i47 i48 i49 i50 i51 i52 i53 i54 i55 i56 i57 : Int) (x0 : D) (x2 x15 x16 : Option D) (i : Int) : isRet (execs (cf 19) rest (envP x0 x2 x15 x16) [drawO [i0, i1, i2, i3, i4, i5, i6, i7, i8, i9, i10, i11, i12, i13, i14, i15, i16, i17, i18, i19, i20, i21, i22, i23, i24, i25, i26, i27, i28, i29, i30, i31, i32, i33, i34, i35, i36, i37, i38, i39, i40, i41, i42, i43, i44, i45, i46, i47, i48, i49, i50, i51, i52, i53, i54, i55, i56, i57] i]) = true := by kernel_rfl
theorem rest59 (i0 i1 i2 i3 i4 i5 i6 i7 i8 i9 i10 i11 i12 i13 i14 i15 i16 i17 i18 i19 i20 i21 i22 i23 i24 i25 i26 i27 i28 i29 i30 i31 i32 i33 i34 i35 i36 i37 i38 i39 i40 i41 i42 i43 i44 i45 i46 i47 i48 i49 i50 i51 i52 i53 i54 i55 i56 i57 i58 : Int) (x0 : D) (x2 x15 x16 : Option D) (i : Int) : isRet (execs (cf 19) rest (envP x0 x2 x15 x16) [drawO [i0, i1, i2, i3, i4, i5, i6, i7, i8, i9, i10, i11, i12, i13, i14, i15, i16, i17, i18, i19, i20, i21, i22, i23, i24, i25, i26, i27, i28, i29, i30, i31, i32, i33, i34, i35, i36, i37, i38, i39, i40, i41, i42, i43, i44, i45, i46, i47, i48, i49, i50, i51, i52, i53, i54, i55, i56, i57, i58] i]) = true := by kernel_rfl
theorem rest60 (i0 i1 i2 i3 i4 i5 i6 i7 i8 i9 i10 i11 i12 i13 i14 i15 i16 i17 i18 i19 i20 i21 i22 i23 i24 i25 i26 i27 i28 i29 i30 i31 i32 i33 i34 i35 i36 i37 i38 i39 i40 i41 i42 i43 i44 i45 i46 i47 i48 i49 i50 i51 i52 i53 i54 i55 i56 i57 i58 i59 : Int) (x0 : D) (x2 x15 x16 : Option D) (i : Int) : isRet (execs (cf 19) rest (envP x0 x2 x15 x16) [drawO [i0, i1, i2, i3, i4, i5, i6, i7, i8, i9, i10, i11, i12, i13, i14, i15, i16, i17, i18, i19, i20, i21, i22, i23, i24, i25, i26, i27, i28, i29, i30, i31, i32, i33, i34, i35, i36, i37, i38, i39, i40, i41, i42, i43, i44, i45, i46, i47, i48, i49, i50, i51, i52, i53, i54, i55, i56, i57, i58, i59] i]) = true := by kernel_rfl
theorem rest61 (i0 i1 i2 i3 i4 i5 i6 i7 i8 i9 i10 i11 i12 i13 i14 i15 i16 i17 i18 i19 i20 i21 i22 i23 i24 i25 i26 i27 i28 i29 i30 i31 i32 i33 i34 i35 i36 i37 i38 i39 i40 i41 i42 i43 i44 i45 i46 i47 i48 i49 i50 i51 i52 i53 i54 i55 i56 i57 i58 i59 i60 : Int) (x0 : D) (x2 x15 x16 : Option D) (i : Int) : isRet (execs (cf 19) rest (envP x0 x2 x15 x16) [drawO [i0, i1, i2, i3, i4, i5, i6, i7, i8, i9, i10, i11, i12, i13, i14, i15, i16, i17, i18, i19, i20, i21, i22, i23, i24, i25, i26, i27, i28, i29, i30, i31, i32, i33, i34, i35, i36, i37, i38, i39, i40, i41, i42, i43, i44, i45, i46, i47, i48, i49, i50, i51, i52, i53, i54, i55, i56, i57, i58, i59, i60] i]) = true := by kernel_rfl
theorem rest62 (i0 i1 i2 i3 i4 i5 i6 i7 i8 i9 i10 i11 i12 i13 i14 i15 i16 i17 i18 i19 i20 i21 i22 i23 i24 i25 i26 i27 i28 i29 i30 i31 i32 i33 i34 i35 i36 i37 i38 i39 i40 i41 i42 i43 i44 i45 i46 i47 i48 i49 i50 i51 i52 i53 i54 i55 i56 i57 i58 i59 i60 i61 : Int) (x0 : D) (x2 x15 x16 : Option D) (i : Int) : isRet (execs (cf 19) rest (envP x0 x2 x15 x16) [drawO [i0, i1, i2, i3, i4, i5, i6, i7, i8, i9, i10, i11, i12, i13, i14, i15, i16, i17, i18, i19, i20, i21, i22, i23, i24, i25, i26, i27, i28, i29, i30, i31, i32, i33, i34, i35, i36, i37, i38, i39, i40, i41, i42, i43, i44, i45, i46, i47, i48, i49, i50, i51, i52, i53, i54, i55, i56, i57, i58, i59, i60, i61] i]) = true := by kernel_rfl
theorem rest63 (i0 i1 i2 i3 i4 i5 i6 i7 i8 i9 i10 i11 i12 i13 i14 i15 i16 i17 i18 i19 i20 i21 i22 i23 i24 i25 i26 i27 i28 i29 i30 i31 i32 i33 i34 i35 i36 i37 i38 i39 i40 i41 i42 i43 i44 i45 i46 i47 i48 i49 i50 i51 i52 i53 i54 i55 i56 i57 i58 i59 i60 i61 i62 : Int) (x0 : D) (x2 x15 x16 : Option D) (i : Int) : isRet (execs (cf 19) rest (envP x0 x2 x15 x16) [drawO [i0, i1, i2, i3, i4, i5, i6, i7, i8, i9, i10, i11, i12, i13, i14, i15, i16, i17, i18, i19, i20, i21, i22, i23, i24, i25, i26, i27, i28, i29, i30, i31, i32, i33, i34, i35, i36, i37, i38, i39, i40, i41, i42, i43, i44, i45, i46, i47, i48, i49, i50, i51, i52, i53, i54, i55, i56, i57, i58, i59, i60, i61, i62] i]) = true := by kernel_rfl
end K22

set_option Elab.async false
set_option linter.all false
set_option maxRecDepth 100000
set_option maxHeartbeats 0
/-! P22d: k22's plain law -/
namespace K22
open PySem PySem.Spec PyProof.Rows L2 KF
theorem rest_ok : ∀ (l : List Int), l.length ≤ 63 → ∀ (x0 : D) (x2 x15 x16 : Option D) (i : Int), isRet (execs (cf 19) rest (envP x0 x2 x15 x16) [drawO l i]) = true := by
  intro l hl x0 x2 x15 x16 i
  exact go l hl x0 x2 x15 x16 i
where go (l : List Int) (hl : l.length ≤ 63) (x0 : D) (x2 x15 x16 : Option D) (i : Int) : isRet (execs (cf 19) rest (envP x0 x2 x15 x16) [drawO l i]) = true := match l, hl with
  | [], _ => rest0  x0 x2 x15 x16 i
  | i0 :: [], _ => rest1 i0 x0 x2 x15 x16 i
  | i0 :: i1 :: [], _ => rest2 i0 i1 x0 x2 x15 x16 i
  | i0 :: i1 :: i2 :: [], _ => rest3 i0 i1 i2 x0 x2 x15 x16 i
  | i0 :: i1 :: i2 :: i3 :: [], _ => rest4 i0 i1 i2 i3 x0 x2 x15 x16 i
  | i0 :: i1 :: i2 :: i3 :: i4 :: [], _ => rest5 i0 i1 i2 i3 i4 x0 x2 x15 x16 i
  | i0 :: i1 :: i2 :: i3 :: i4 :: i5 :: [], _ => rest6 i0 i1 i2 i3 i4 i5 x0 x2 x15 x16 i
  | i0 :: i1 :: i2 :: i3 :: i4 :: i5 :: i6 :: [], _ => rest7 i0 i1 i2 i3 i4 i5 i6 x0 x2 x15 x16 i
  | i0 :: i1 :: i2 :: i3 :: i4 :: i5 :: i6 :: i7 :: [], _ => rest8 i0 i1 i2 i3 i4 i5 i6 i7 x0 x2 x15 x16 i
  | i0 :: i1 :: i2 :: i3 :: i4 :: i5 :: i6 :: i7 :: i8 :: [], _ => rest9 i0 i1 i2 i3 i4 i5 i6 i7 i8 x0 x2 x15 x16 i
  | i0 :: i1 :: i2 :: i3 :: i4 :: i5 :: i6 :: i7 :: i8 :: i9 :: [], _ => rest10 i0 i1 i2 i3 i4 i5 i6 i7 i8 i9 x0 x2 x15 x16 i
  | i0 :: i1 :: i2 :: i3 :: i4 :: i5 :: i6 :: i7 :: i8 :: i9 :: i10 :: [], _ => rest11 i0 i1 i2 i3 i4 i5 i6 i7 i8 i9 i10 x0 x2 x15 x16 i
  | i0 :: i1 :: i2 :: i3 :: i4 :: i5 :: i6 :: i7 :: i8 :: i9 :: i10 :: i11 :: [], _ => rest12 i0 i1 i2 i3 i4 i5 i6 i7 i8 i9 i10 i11 x0 x2 x15 x16 i
  | i0 :: i1 :: i2 :: i3 :: i4 :: i5 :: i6 :: i7 :: i8 :: i9 :: i10 :: i11 :: i12 :: [], _ => rest13 i0 i1 i2 i3 i4 i5 i6 i7 i8 i9 i10 i11 i12 x0 x2 x15 x16 i
  | i0 :: i1 :: i2 :: i3 :: i4 :: i5 :: i6 :: i7 :: i8 :: i9 :: i10 :: i11 :: i12 :: i13 :: [], _ => rest14 i0 i1 i2 i3 i4 i5 i6 i7 i8 i9 i10 i11 i12 i13 x0 x2 x15 x16 i
  | i0 :: i1 :: i2 :: i3 :: i4 :: i5 :: i6 :: i7 :: i8 :: i9 :: i10 :: i11 :: i12 :: i13 :: i14 :: [], _ => rest15 i0 i1 i2 i3 i4 i5 i6 i7 i8 i9 i10 i11 i12 i13 i14 x0 x2 x15 x16 i
  | i0 :: i1 :: i2 :: i3 :: i4 :: i5 :: i6 :: i7 :: i8 :: i9 :: i10 :: i11 :: i12 :: i13 :: i14 :: i15 :: [], _ => rest16 i0 i1 i2 i3 i4 i5 i6 i7 i8 i9 i10 i11 i12 i13 i14 i15 x0 x2 x15 x16 i
  | i0 :: i1 :: i2 :: i3 :: i4 :: i5 :: i6 :: i7 :: i8 :: i9 :: i10 :: i11 :: i12 :: i13 :: i14 :: i15 :: i16 :: [], _ => rest17 i0 i1 i2 i3 i4 i5 i6 i7 i8 i9 i10 i11 i12 i13 i14 i15 i16 x0 x2 x15 x16 i
  | i0 :: i1 :: i2 :: i3 :: i4 :: i5 :: i6 :: i7 :: i8 :: i9 :: i10 :: i11 :: i12 :: i13 :: i14 :: i15 :: i16 :: i17 :: [], _ => rest18 i0 i1 i2 i3 i4 i5 i6 i7 i8 i9 i10 i11 i12 i13 i14 i15 i16 i17 x0 x2 x15 x16 i
  | i0 :: i1 :: i2 :: i3 :: i4 :: i5 :: i6 :: i7 :: i8 :: i9 :: i10 :: i11 :: i12 :: i13 :: i14 :: i15 :: i16 :: i17 :: i18 :: [], _ => rest19 i0 i1 i2 i3 i4 i5 i6 i7 i8 i9 i10 i11 i12 i13 i14 i15 i16 i17 i18 x0 x2 x15 x16 i
  | i0 :: i1 :: i2 :: i3 :: i4 :: i5 :: i6 :: i7 :: i8 :: i9 :: i10 :: i11 :: i12 :: i13 :: i14 :: i15 :: i16 :: i17 :: i18 :: i19 :: [], _ => rest20 i0 i1 i2 i3 i4 i5 i6 i7 i8 i9 i10 i11 i12 i13 i14 i15 i16 i17 i18 i19 x0 x2 x15 x16 i
  | i0 :: i1 :: i2 :: i3 :: i4 :: i5 :: i6 :: i7 :: i8 :: i9 :: i10 :: i11 :: i12 :: i13 :: i14 :: i15 :: i16 :: i17 :: i18 :: i19 :: i20 :: [], _ => rest21 i0 i1 i2 i3 i4 i5 i6 i7 i8 i9 i10 i11 i12 i13 i14 i15 i16 i17 i18 i19 i20 x0 x2 x15 x16 i
  | i0 :: i1 :: i2 :: i3 :: i4 :: i5 :: i6 :: i7 :: i8 :: i9 :: i10 :: i11 :: i12 :: i13 :: i14 :: i15 :: i16 :: i17 :: i18 :: i19 :: i20 :: i21 :: [], _ => rest22 i0 i1 i2 i3 i4 i5 i6 i7 i8 i9 i10 i11 i12 i13 i14 i15 i16 i17 i18 i19 i20 i21 x0 x2 x15 x16 i
  | i0 :: i1 :: i2 :: i3 :: i4 :: i5 :: i6 :: i7 :: i8 :: i9 :: i10 :: i11 :: i12 :: i13 :: i14 :: i15 :: i16 :: i17 :: i18 :: i19 :: i20 :: i21 :: i22 :: [], _ => rest23 i0 i1 i2 i3 i4 i5 i6 i7 i8 i9 i10 i11 i12 i13 i14 i15 i16 i17 i18 i19 i20 i21 i22 x0 x2 x15 x16 i
  | i0 :: i1 :: i2 :: i3 :: i4 :: i5 :: i6 :: i7 :: i8 :: i9 :: i10 :: i11 :: i12 :: i13 :: i14 :: i15 :: i16 :: i17 :: i18 :: i19 :: i20 :: i21 :: i22 :: i23 :: [], _ => rest24 i0 i1 i2 i3 i4 i5 i6 i7 i8 i9 i10 i11 i12 i13 i14 i15 i16 i17 i18 i19 i20 i21 i22 i23 x0 x2 x15 x16 i
  | i0 :: i1 :: i2 :: i3 :: i4 :: i5 :: i6 :: i7 :: i8 :: i9 :: i10 :: i11 :: i12 :: i13 :: i14 :: i15 :: i16 :: i17 :: i18 :: i19 :: i20 :: i21 :: i22 :: i23 :: i24 :: [], _ => rest25 i0 i1 i2 i3 i4 i5 i6 i7 i8 i9 i10 i11 i12 i13 i14 i15 i16 i17 i18 i19 i20 i21 i22 i23 i24 x0 x2 x15 x16 i
  | i0 :: i1 :: i2 :: i3 :: i4 :: i5 :: i6 :: i7 :: i8 :: i9 :: i10 :: i11 :: i12 :: i13 :: i14 :: i15 :: i16 :: i17 :: i18 :: i19 :: i20 :: i21 :: i22 :: i23 :: i24 :: i25 :: [], _ => rest26 i0 i1 i2 i3 i4 i5 i6 i7 i8 i9 i10 i11 i12 i13 i14 i15 i16 i17 i18 i19 i20 i21 i22 i23 i24 i25 x0 x2 x15 x16 i
  | i0 :: i1 :: i2 :: i3 :: i4 :: i5 :: i6 :: i7 :: i8 :: i9 :: i10 :: i11 :: i12 :: i13 :: i14 :: i15 :: i16 :: i17 :: i18 :: i19 :: i20 :: i21 :: i22 :: i23 :: i24 :: i25 :: i26 :: [], _ => rest27 i0 i1 i2 i3 i4 i5 i6 i7 i8 i9 i10 i11 i12 i13 i14 i15 i16 i17 i18 i19 i20 i21 i22 i23 i24 i25 i26 x0 x2 x15 x16 i
  | i0 :: i1 :: i2 :: i3 :: i4 :: i5 :: i6 :: i7 :: i8 :: i9 :: i10 :: i11 :: i12 :: i13 :: i14 :: i15 :: i16 :: i17 :: i18 :: i19 :: i20 :: i21 :: i22 :: i23 :: i24 :: i25 :: i26 :: i27 :: [], _ => rest28 i0 i1 i2 i3 i4 i5 i6 i7 i8 i9 i10 i11 i12 i13 i14 i15 i16 i17 i18 i19 i20 i21 i22 i23 i24 i25 i26 i27 x0 x2 x15 x16 i
  | i0 :: i1 :: i2 :: i3 :: i4 :: i5 :: i6 :: i7 :: i8 :: i9 :: i10 :: i11 :: i12 :: i13 :: i14 :: i15 :: i16 :: i17 :: i18 :: i19 :: i20 :: i21 :: i22 :: i23 :: i24 :: i25 :: i26 :: i27 :: i28 :: [], _ => rest29 i0 i1 i2 i3 i4 i5 i6 i7 i8 i9 i10 i11 i12 i13 i14 i15 i16 i17 i18 i19 i20 i21 i22 i23 i24 i25 i26 i27 i28 x0 x2 x15 x16 i
  | i0 :: i1 :: i2 :: i3 :: i4 :: i5 :: i6 :: i7 :: i8 :: i9 :: i10 :: i11 :: i12 :: i13 :: i14 :: i15 :: i16 :: i17 :: i18 :: i19 :: i20 :: i21 :: i22 :: i23 :: i24 :: i25 :: i26 :: i27 :: i28 :: i29 :: [], _ => rest30 i0 i1 i2 i3 i4 i5 i6 i7 i8 i9 i10 i11 i12 i13 i14 i15 i16 i17 i18 i19 i20 i21 i22 i23 i24 i25 i26 i27 i28 i29 x0 x2 x15 x16 i
  | i0 :: i1 :: i2 :: i3 :: i4 :: i5 :: i6 :: i7 :: i8 :: i9 :: i10 :: i11 :: i12 :: i13 :: i14 :: i15 :: i16 :: i17 :: i18 :: i19 :: i20 :: i21 :: i22 :: i23 :: i24 :: i25 :: i26 :: i27 :: i28 :: i29 :: i30 :: [], _ => rest31 i0 i1 i2 i3 i4 i5 i6 i7 i8 i9 i10 i11 i12 i13 i14 i15 i16 i17 i18 i19 i20 i21 i22 i23 i24 i25 i26 i27 i28 i29 i30 x0 x2 x15 x16 i
  | i0 :: i1 :: i2 :: i3 :: i4 :: i5 :: i6 :: i7 :: i8 :: i9 :: i10 :: i11 :: i12 :: i13 :: i14 :: i15 :: i16 :: i17 :: i18 :: i19 :: i20 :: i21 :: i22 :: i23 :: i24 :: i25 :: i26 :: i27 :: i28 :: i29 :: i30 :: i31 :: [], _ => rest32 i0 i1 i2 i3 i4 i5 i6 i7 i8 i9 i10 i11 i12 i13 i14 i15 i16 i17 i18 i19 i20 i21 i22 i23 i24 i25 i26 i27 i28 i29 i30 i31 x0 x2 x15 x16 i
  | i0 :: i1 :: i2 :: i3 :: i4 :: i5 :: i6 :: i7 :: i8 :: i9 :: i10 :: i11 :: i12 :: i13 :: i14 :: i15 :: i16 :: i17 :: i18 :: i19 :: i20 :: i21 :: i22 :: i23 :: i24 :: i25 :: i26 :: i27 :: i28 :: i29 :: i30 :: i31 :: i32 :: [], _ => rest33 i0 i1 i2 i3 i4 i5 i6 i7 i8 i9 i10 i11 i12 i13 i14 i15 i16 i17 i18 i19 i20 i21 i22 i23 i24 i25 i26 i27 i28 i29 i30 i31 i32 x0 x2 x15 x16 i
  | i0 :: i1 :: i2 :: i3 :: i4 :: i5 :: i6 :: i7 :: i8 :: i9 :: i10 :: i11 :: i12 :: i13 :: i14 :: i15 :: i16 :: i17 :: i18 :: i19 :: i20 :: i21 :: i22 :: i23 :: i24 :: i25 :: i26 :: i27 :: i28 :: i29 :: i30 :: i31 :: i32 :: i33 :: [], _ => rest34 i0 i1 i2 i3 i4 i5 i6 i7 i8 i9 i10 i11 i12 i13 i14 i15 i16 i17 i18 i19 i20 i21 i22 i23 i24 i25 i26 i27 i28 i29 i30 i31 i32 i33 x0 x2 x15 x16 i
  | i0 :: i1 :: i2 :: i3 :: i4 :: i5 :: i6 :: i7 :: i8 :: i9 :: i10 :: i11 :: i12 :: i13 :: i14 :: i15 :: i16 :: i17 :: i18 :: i19 :: i20 :: i21 :: i22 :: i23 :: i24 :: i25 :: i26 :: i27 :: i28 :: i29 :: i30 :: i31 :: i32 :: i33 :: i34 :: [], _ => rest35 i0 i1 i2 i3 i4 i5 i6 i7 i8 i9 i10 i11 i12 i13 i14 i15 i16 i17 i18 i19 i20 i21 i22 i23 i24 i25 i26 i27 i28 i29 i30 i31 i32 i33 i34 x0 x2 x15 x16 i
  | i0 :: i1 :: i2 :: i3 :: i4 :: i5 :: i6 :: i7 :: i8 :: i9 :: i10 :: i11 :: i12 :: i13 :: i14 :: i15 :: i16 :: i17 :: i18 :: i19 :: i20 :: i21 :: i22 :: i23 :: i24 :: i25 :: i26 :: i27 :: i28 :: i29 :: i30 :: i31 :: i32 :: i33 :: i34 :: i35 :: [], _ => rest36 i0 i1 i2 i3 i4 i5 i6 i7 i8 i9 i10 i11 i12 i13 i14 i15 i16 i17 i18 i19 i20 i21 i22 i23 i24 i25 i26 i27 i28 i29 i30 i31 i32 i33 i34 i35 x0 x2 x15 x16 i
  | i0 :: i1 :: i2 :: i3 :: i4 :: i5 :: i6 :: i7 :: i8 :: i9 :: i10 :: i11 :: i12 :: i13 :: i14 :: i15 :: i16 :: i17 :: i18 :: i19 :: i20 :: i21 :: i22 :: i23 :: i24 :: i25 :: i26 :: i27 :: i28 :: i29 :: i30 :: i31 :: i32 :: i33 :: i34 :: i35 :: i36 :: [], _ => rest37 i0 i1 i2 i3 i4 i5 i6 i7 i8 i9 i10 i11 i12 i13 i14 i15 i16 i17 i18 i19 i20 i21 i22 i23 i24 i25 i26 i27 i28 i29 i30 i31 i32 i33 i34 i35 i36 x0 x2 x15 x16 i
  | i0 :: i1 :: i2 :: i3 :: i4 :: i5 :: i6 :: i7 :: i8 :: i9 :: i10 :: i11 :: i12 :: i13 :: i14 :: i15 :: i16 :: i17 :: i18 :: i19 :: i20 :: i21 :: i22 :: i23 :: i24 :: i25 :: i26 :: i27 :: i28 :: i29 :: i30 :: i31 :: i32 :: i33 :: i34 :: i35 :: i36 :: i37 :: [], _ => rest38 i0 i1 i2 i3 i4 i5 i6 i7 i8 i9 i10 i11 i12 i13 i14 i15 i16 i17 i18 i19 i20 i21 i22 i23 i24 i25 i26 i27 i28 i29 i30 i31 i32 i33 i34 i35 i36 i37 x0 x2 x15 x16 i
  | i0 :: i1 :: i2 :: i3 :: i4 :: i5 :: i6 :: i7 :: i8 :: i9 :: i10 :: i11 :: i12 :: i13 :: i14 :: i15 :: i16 :: i17 :: i18 :: i19 :: i20 :: i21 :: i22 :: i23 :: i24 :: i25 :: i26 :: i27 :: i28 :: i29 :: i30 :: i31 :: i32 :: i33 :: i34 :: i35 :: i36 :: i37 :: i38 :: [], _ => rest39 i0 i1 i2 i3 i4 i5 i6 i7 i8 i9 i10 i11 i12 i13 i14 i15 i16 i17 i18 i19 i20 i21 i22 i23 i24 i25 i26 i27 i28 i29 i30 i31 i32 i33 i34 i35 i36 i37 i38 x0 x2 x15 x16 i
  | i0 :: i1 :: i2 :: i3 :: i4 :: i5 :: i6 :: i7 :: i8 :: i9 :: i10 :: i11 :: i12 :: i13 :: i14 :: i15 :: i16 :: i17 :: i18 :: i19 :: i20 :: i21 :: i22 :: i23 :: i24 :: i25 :: i26 :: i27 :: i28 :: i29 :: i30 :: i31 :: i32 :: i33 :: i34 :: i35 :: i36 :: i37 :: i38 :: i39 :: [], _ => rest40 i0 i1 i2 i3 i4 i5 i6 i7 i8 i9 i10 i11 i12 i13 i14 i15 i16 i17 i18 i19 i20 i21 i22 i23 i24 i25 i26 i27 i28 i29 i30 i31 i32 i33 i34 i35 i36 i37 i38 i39 x0 x2 x15 x16 i
  | i0 :: i1 :: i2 :: i3 :: i4 :: i5 :: i6 :: i7 :: i8 :: i9 :: i10 :: i11 :: i12 :: i13 :: i14 :: i15 :: i16 :: i17 :: i18 :: i19 :: i20 :: i21 :: i22 :: i23 :: i24 :: i25 :: i26 :: i27 :: i28 :: i29 :: i30 :: i31 :: i32 :: i33 :: i34 :: i35 :: i36 :: i37 :: i38 :: i39 :: i40 :: [], _ => rest41 i0 i1 i2 i3 i4 i5 i6 i7 i8 i9 i10 i11 i12 i13 i14 i15 i16 i17 i18 i19 i20 i21 i22 i23 i24 i25 i26 i27 i28 i29 i30 i31 i32 i33 i34 i35 i36 i37 i38 i39 i40 x0 x2 x15 x16 i
  | i0 :: i1 :: i2 :: i3 :: i4 :: i5 :: i6 :: i7 :: i8 :: i9 :: i10 :: i11 :: i12 :: i13 :: i14 :: i15 :: i16 :: i17 :: i18 :: i19 :: i20 :: i21 :: i22 :: i23 :: i24 :: i25 :: i26 :: i27 :: i28 :: i29 :: i30 :: i31 :: i32 :: i33 :: i34 :: i35 :: i36 :: i37 :: i38 :: i39 :: i40 :: i41 :: [], _ => rest42 i0 i1 i2 i3 i4 i5 i6 i7 i8 i9 i10 i11 i12 i13 i14 i15 i16 i17 i18 i19 i20 i21 i22 i23 i24 i25 i26 i27 i28 i29 i30 i31 i32 i33 i34 i35 i36 i37 i38 i39 i40 i41 x0 x2 x15 x16 i
  | i0 :: i1 :: i2 :: i3 :: i4 :: i5 :: i6 :: i7 :: i8 :: i9 :: i10 :: i11 :: i12 :: i13 :: i14 :: i15 :: i16 :: i17 :: i18 :: i19 :: i20 :: i21 :: i22 :: i23 :: i24 :: i25 :: i26 :: i27 :: i28 :: i29 :: i30 :: i31 :: i32 :: i33 :: i34 :: i35 :: i36 :: i37 :: i38 :: i39 :: i40 :: i41 :: i42 :: [], _ => rest43 i0 i1 i2 i3 i4 i5 i6 i7 i8 i9 i10 i11 i12 i13 i14 i15 i16 i17 i18 i19 i20 i21 i22 i23 i24 i25 i26 i27 i28 i29 i30 i31 i32 i33 i34 i35 i36 i37 i38 i39 i40 i41 i42 x0 x2 x15 x16 i
  | i0 :: i1 :: i2 :: i3 :: i4 :: i5 :: i6 :: i7 :: i8 :: i9 :: i10 :: i11 :: i12 :: i13 :: i14 :: i15 :: i16 :: i17 :: i18 :: i19 :: i20 :: i21 :: i22 :: i23 :: i24 :: i25 :: i26 :: i27 :: i28 :: i29 :: i30 :: i31 :: i32 :: i33 :: i34 :: i35 :: i36 :: i37 :: i38 :: i39 :: i40 :: i41 :: i42 :: i43 :: [], _ => rest44 i0 i1 i2 i3 i4 i5 i6 i7 i8 i9 i10 i11 i12 i13 i14 i15 i16 i17 i18 i19 i20 i21 i22 i23 i24 i25 i26 i27 i28 i29 i30 i31 i32 i33 i34 i35 i36 i37 i38 i39 i40 i41 i42 i43 x0 x2 x15 x16 i
  | i0 :: i1 :: i2 :: i3 :: i4 :: i5 :: i6 :: i7 :: i8 :: i9 :: i10 :: i11 :: i12 :: i13 :: i14 :: i15 :: i16 :: i17 :: i18 :: i19 :: i20 :: i21 :: i22 :: i23 :: i24 :: i25 :: i26 :: i27 :: i28 :: i29 :: i30 :: i31 :: i32 :: i33 :: i34 :: i35 :: i36 :: i37 :: i38 :: i39 :: i40 :: i41 :: i42 :: i43 :: i44 :: [], _ => rest45 i0 i1 i2 i3 i4 i5 i6 i7 i8 i9 i10 i11 i12 i13 i14 i15 i16 i17 i18 i19 i20 i21 i22 i23 i24 i25 i26 i27 i28 i29 i30 i31 i32 i33 i34 i35 i36 i37 i38 i39 i40 i41 i42 i43 i44 x0 x2 x15 x16 i
  | i0 :: i1 :: i2 :: i3 :: i4 :: i5 :: i6 :: i7 :: i8 :: i9 :: i10 :: i11 :: i12 :: i13 :: i14 :: i15 :: i16 :: i17 :: i18 :: i19 :: i20 :: i21 :: i22 :: i23 :: i24 :: i25 :: i26 :: i27 :: i28 :: i29 :: i30 :: i31 :: i32 :: i33 :: i34 :: i35 :: i36 :: i37 :: i38 :: i39 :: i40 :: i41 :: i42 :: i43 :: i44 :: i45 :: [], _ => rest46 i0 i1 i2 i3 i4 i5 i6 i7 i8 i9 i10 i11 i12 i13 i14 i15 i16 i17 i18 i19 i20 i21 i22 i23 i24 i25 i26 i27 i28 i29 i30 i31 i32 i33 i34 i35 i36 i37 i38 i39 i40 i41 i42 i43 i44 i45 x0 x2 x15 x16 i
  | i0 :: i1 :: i2 :: i3 :: i4 :: i5 :: i6 :: i7 :: i8 :: i9 :: i10 :: i11 :: i12 :: i13 :: i14 :: i15 :: i16 :: i17 :: i18 :: i19 :: i20 :: i21 :: i22 :: i23 :: i24 :: i25 :: i26 :: i27 :: i28 :: i29 :: i30 :: i31 :: i32 :: i33 :: i34 :: i35 :: i36 :: i37 :: i38 :: i39 :: i40 :: i41 :: i42 :: i43 :: i44 :: i45 :: i46 :: [], _ => rest47 i0 i1 i2 i3 i4 i5 i6 i7 i8 i9 i10 i11 i12 i13 i14 i15 i16 i17 i18 i19 i20 i21 i22 i23 i24 i25 i26 i27 i28 i29 i30 i31 i32 i33 i34 i35 i36 i37 i38 i39 i40 i41 i42 i43 i44 i45 i46 x0 x2 x15 x16 i
  | i0 :: i1 :: i2 :: i3 :: i4 :: i5 :: i6 :: i7 :: i8 :: i9 :: i10 :: i11 :: i12 :: i13 :: i14 :: i15 :: i16 :: i17 :: i18 :: i19 :: i20 :: i21 :: i22 :: i23 :: i24 :: i25 :: i26 :: i27 :: i28 :: i29 :: i30 :: i31 :: i32 :: i33 :: i34 :: i35 :: i36 :: i37 :: i38 :: i39 :: i40 :: i41 :: i42 :: i43 :: i44 :: i45 :: i46 :: i47 :: [], _ => rest48 i0 i1 i2 i3 i4 i5 i6 i7 i8 i9 i10 i11 i12 i13 i14 i15 i16 i17 i18 i19 i20 i21 i22 i23 i24 i25 i26 i27 i28 i29 i30 i31 i32 i33 i34 i35 i36 i37 i38 i39 i40 i41 i42 i43 i44 i45 i46 i47 x0 x2 x15 x16 i
  | i0 :: i1 :: i2 :: i3 :: i4 :: i5 :: i6 :: i7 :: i8 :: i9 :: i10 :: i11 :: i12 :: i13 :: i14 :: i15 :: i16 :: i17 :: i18 :: i19 :: i20 :: i21 :: i22 :: i23 :: i24 :: i25 :: i26 :: i27 :: i28 :: i29 :: i30 :: i31 :: i32 :: i33 :: i34 :: i35 :: i36 :: i37 :: i38 :: i39 :: i40 :: i41 :: i42 :: i43 :: i44 :: i45 :: i46 :: i47 :: i48 :: [], _ => rest49 i0 i1 i2 i3 i4 i5 i6 i7 i8 i9 i10 i11 i12 i13 i14 i15 i16 i17 i18 i19 i20 i21 i22 i23 i24 i25 i26 i27 i28 i29 i30 i31 i32 i33 i34 i35 i36 i37 i38 i39 i40 i41 i42 i43 i44 i45 i46 i47 i48 x0 x2 x15 x16 i
  | i0 :: i1 :: i2 :: i3 :: i4 :: i5 :: i6 :: i7 :: i8 :: i9 :: i10 :: i11 :: i12 :: i13 :: i14 :: i15 :: i16 :: i17 :: i18 :: i19 :: i20 :: i21 :: i22 :: i23 :: i24 :: i25 :: i26 :: i27 :: i28 :: i29 :: i30 :: i31 :: i32 :: i33 :: i34 :: i35 :: i36 :: i37 :: i38 :: i39 :: i40 :: i41 :: i42 :: i43 :: i44 :: i45 :: i46 :: i47 :: i48 :: i49 :: [], _ => rest50 i0 i1 i2 i3 i4 i5 i6 i7 i8 i9 i10 i11 i12 i13 i14 i15 i16 i17 i18 i19 i20 i21 i22 i23 i24 i25 i26 i27 i28 i29 i30 i31 i32 i33 i34 i35 i36 i37 i38 i39 i40 i41 i42 i43 i44 i45 i46 i47 i48 i49 x0 x2 x15 x16 i
  | i0 :: i1 :: i2 :: i3 :: i4 :: i5 :: i6 :: i7 :: i8 :: i9 :: i10 :: i11 :: i12 :: i13 :: i14 :: i15 :: i16 :: i17 :: i18 :: i19 :: i20 :: i21 :: i22 :: i23 :: i24 :: i25 :: i26 :: i27 :: i28 :: i29 :: i30 :: i31 :: i32 :: i33 :: i34 :: i35 :: i36 :: i37 :: i38 :: i39 :: i40 :: i41 :: i42 :: i43 :: i44 :: i45 :: i46 :: i47 :: i48 :: i49 :: i50 :: [], _ => rest51 i0 i1 i2 i3 i4 i5 i6 i7 i8 i9 i10 i11 i12 i13 i14 i15 i16 i17 i18 i19 i20 i21 i22 i23 i24 i25 i26 i27 i28 i29 i30 i31 i32 i33 i34 i35 i36 i37 i38 i39 i40 i41 i42 i43 i44 i45 i46 i47 i48 i49 i50 x0 x2 x15 x16 i
  | i0 :: i1 :: i2 :: i3 :: i4 :: i5 :: i6 :: i7 :: i8 :: i9 :: i10 :: i11 :: i12 :: i13 :: i14 :: i15 :: i16 :: i17 :: i18 :: i19 :: i20 :: i21 :: i22 :: i23 :: i24 :: i25 :: i26 :: i27 :: i28 :: i29 :: i30 :: i31 :: i32 :: i33 :: i34 :: i35 :: i36 :: i37 :: i38 :: i39 :: i40 :: i41 :: i42 :: i43 :: i44 :: i45 :: i46 :: i47 :: i48 :: i49 :: i50 :: i51 :: [], _ => rest52 i0 i1 i2 i3 i4 i5 i6 i7 i8 i9 i10 i11 i12 i13 i14 i15 i16 i17 i18 i19 i20 i21 i22 i23 i24 i25 i26 i27 i28 i29 i30 i31 i32 i33 i34 i35 i36 i37 i38 i39 i40 i41 i42 i43 i44 i45 i46 i47 i48 i49 i50 i51 x0 x2 x15 x16 i
  | i0 :: i1 :: i2 :: i3 :: i4 :: i5 :: i6 :: i7 :: i8 :: i9 :: i10 :: i11 :: i12 :: i13 :: i14 :: i15 :: i16 :: i17 :: i18 :: i19 :: i20 :: i21 :: i22 :: i23 :: i24 :: i25 :: i26 :: i27 :: i28 :: i29 :: i30 :: i31 :: i32 :: i33 :: i34 :: i35 :: i36 :: i37 :: i38 :: i39 :: i40 :: i41 :: i42 :: i43 :: i44 :: i45 :: i46 :: i47 :: i48 :: i49 :: i50 :: i51 :: i52 :: [], _ => rest53 i0 i1 i2 i3 i4 i5 i6 i7 i8 i9 i10 i11 i12 i13 i14 i15 i16 i17 i18 i19 i20 i21 i22 i23 i24 i25 i26 i27 i28 i29 i30 i31 i32 i33 i34 i35 i36 i37 i38 i39 i40 i41 i42 i43 i44 i45 i46 i47 i48 i49 i50 i51 i52 x0 x2 x15 x16 i
  | i0 :: i1 :: i2 :: i3 :: i4 :: i5 :: i6 :: i7 :: i8 :: i9 :: i10 :: i11 :: i12 :: i13 :: i14 :: i15 :: i16 :: i17 :: i18 :: i19 :: i20 :: i21 :: i22 :: i23 :: i24 :: i25 :: i26 :: i27 :: i28 :: i29 :: i30 :: i31 :: i32 :: i33 :: i34 :: i35 :: i36 :: i37 :: i38 :: i39 :: i40 :: i41 :: i42 :: i43 :: i44 :: i45 :: i46 :: i47 :: i48 :: i49 :: i50 :: i51 :: i52 :: i53 :: [], _ => rest54 i0 i1 i2 i3 i4 i5 i6 i7 i8 i9 i10 i11 i12 i13 i14 i15 i16 i17 i18 i19 i20 i21 i22 i23 i24 i25 i26 i27 i28 i29 i30 i31 i32 i33 i34 i35 i36 i37 i38 i39 i40 i41 i42 i43 i44 i45 i46 i47 i48 i49 i50 i51 i52 i53 x0 x2 x15 x16 i
  | i0 :: i1 :: i2 :: i3 :: i4 :: i5 :: i6 :: i7 :: i8 :: i9 :: i10 :: i11 :: i12 :: i13 :: i14 :: i15 :: i16 :: i17 :: i18 :: i19 :: i20 :: i21 :: i22 :: i23 :: i24 :: i25 :: i26 :: i27 :: i28 :: i29 :: i30 :: i31 :: i32 :: i33 :: i34 :: i35 :: i36 :: i37 :: i38 :: i39 :: i40 :: i41 :: i42 :: i43 :: i44 :: i45 :: i46 :: i47 :: i48 :: i49 :: i50 :: i51 :: i52 :: i53 :: i54 :: [], _ => rest55 i0 i1 i2 i3 i4 i5 i6 i7 i8 i9 i10 i11 i12 i13 i14 i15 i16 i17 i18 i19 i20 i21 i22 i23 i24 i25 i26 i27 i28 i29 i30 i31 i32 i33 i34 i35 i36 i37 i38 i39 i40 i41 i42 i43 i44 i45 i46 i47 i48 i49 i50 i51 i52 i53 i54 x0 x2 x15 x16 i
  | i0 :: i1 :: i2 :: i3 :: i4 :: i5 :: i6 :: i7 :: i8 :: i9 :: i10 :: i11 :: i12 :: i13 :: i14 :: i15 :: i16 :: i17 :: i18 :: i19 :: i20 :: i21 :: i22 :: i23 :: i24 :: i25 :: i26 :: i27 :: i28 :: i29 :: i30 :: i31 :: i32 :: i33 :: i34 :: i35 :: i36 :: i37 :: i38 :: i39 :: i40 :: i41 :: i42 :: i43 :: i44 :: i45 :: i46 :: i47 :: i48 :: i49 :: i50 :: i51 :: i52 :: i53 :: i54 :: i55 :: [], _ => rest56 i0 i1 i2 i3 i4 i5 i6 i7 i8 i9 i10 i11 i12 i13 i14 i15 i16 i17 i18 i19 i20 i21 i22 i23 i24 i25 i26 i27 i28 i29 i30 i31 i32 i33 i34 i35 i36 i37 i38 i39 i40 i41 i42 i43 i44 i45 i46 i47 i48 i49 i50 i51 i52 i53 i54 i55 x0 x2 x15 x16 i
  | i0 :: i1 :: i2 :: i3 :: i4 :: i5 :: i6 :: i7 :: i8 :: i9 :: i10 :: i11 :: i12 :: i13 :: i14 :: i15 :: i16 :: i17 :: i18 :: i19 :: i20 :: i21 :: i22 :: i23 :: i24 :: i25 :: i26 :: i27 :: i28 :: i29 :: i30 :: i31 :: i32 :: i33 :: i34 :: i35 :: i36 :: i37 :: i38 :: i39 :: i40 :: i41 :: i42 :: i43 :: i44 :: i45 :: i46 :: i47 :: i48 :: i49 :: i50 :: i51 :: i52 :: i53 :: i54 :: i55 :: i56 :: [], _ => rest57 i0 i1 i2 i3 i4 i5 i6 i7 i8 i9 i10 i11 i12 i13 i14 i15 i16 i17 i18 i19 i20 i21 i22 i23 i24 i25 i26 i27 i28 i29 i30 i31 i32 i33 i34 i35 i36 i37 i38 i39 i40 i41 i42 i43 i44 i45 i46 i47 i48 i49 i50 i51 i52 i53 i54 i55 i56 x0 x2 x15 x16 i
  | i0 :: i1 :: i2 :: i3 :: i4 :: i5 :: i6 :: i7 :: i8 :: i9 :: i10 :: i11 :: i12 :: i13 :: i14 :: i15 :: i16 :: i17 :: i18 :: i19 :: i20 :: i21 :: i22 :: i23 :: i24 :: i25 :: i26 :: i27 :: i28 :: i29 :: i30 :: i31 :: i32 :: i33 :: i34 :: i35 :: i36 :: i37 :: i38 :: i39 :: i40 :: i41 :: i42 :: i43 :: i44 :: i45 :: i46 :: i47 :: i48 :: i49 :: i50 :: i51 :: i52 :: i53 :: i54 :: i55 :: i56 :: i57 :: [], _ => rest58 i0 i1 i2 i3 i4 i5 i6 i7 i8 i9 i10 i11 i12 i13 i14 i15 i16 i17 i18 i19 i20 i21 i22 i23 i24 i25 i26 i27 i28 i29 i30 i31 i32 i33 i34 i35 i36 i37 i38 i39 i40 i41 i42 i43 i44 i45 i46 i47 i48 i49 i50 i51 i52 i53 i54 i55 i56 i57 x0 x2 x15 x16 i
  | i0 :: i1 :: i2 :: i3 :: i4 :: i5 :: i6 :: i7 :: i8 :: i9 :: i10 :: i11 :: i12 :: i13 :: i14 :: i15 :: i16 :: i17 :: i18 :: i19 :: i20 :: i21 :: i22 :: i23 :: i24 :: i25 :: i26 :: i27 :: i28 :: i29 :: i30 :: i31 :: i32 :: i33 :: i34 :: i35 :: i36 :: i37 :: i38 :: i39 :: i40 :: i41 :: i42 :: i43 :: i44 :: i45 :: i46 :: i47 :: i48 :: i49 :: i50 :: i51 :: i52 :: i53 :: i54 :: i55 :: i56 :: i57 :: i58 :: [], _ => rest59 i0 i1 i2 i3 i4 i5 i6 i7 i8 i9 i10 i11 i12 i13 i14 i15 i16 i17 i18 i19 i20 i21 i22 i23 i24 i25 i26 i27 i28 i29 i30 i31 i32 i33 i34 i35 i36 i37 i38 i39 i40 i41 i42 i43 i44 i45 i46 i47 i48 i49 i50 i51 i52 i53 i54 i55 i56 i57 i58 x0 x2 x15 x16 i
  | i0 :: i1 :: i2 :: i3 :: i4 :: i5 :: i6 :: i7 :: i8 :: i9 :: i10 :: i11 :: i12 :: i13 :: i14 :: i15 :: i16 :: i17 :: i18 :: i19 :: i20 :: i21 :: i22 :: i23 :: i24 :: i25 :: i26 :: i27 :: i28 :: i29 :: i30 :: i31 :: i32 :: i33 :: i34 :: i35 :: i36 :: i37 :: i38 :: i39 :: i40 :: i41 :: i42 :: i43 :: i44 :: i45 :: i46 :: i47 :: i48 :: i49 :: i50 :: i51 :: i52 :: i53 :: i54 :: i55 :: i56 :: i57 :: i58 :: i59 :: [], _ => rest60 i0 i1 i2 i3 i4 i5 i6 i7 i8 i9 i10 i11 i12 i13 i14 i15 i16 i17 i18 i19 i20 i21 i22 i23 i24 i25 i26 i27 i28 i29 i30 i31 i32 i33 i34 i35 i36 i37 i38 i39 i40 i41 i42 i43 i44 i45 i46 i47 i48 i49 i50 i51 i52 i53 i54 i55 i56 i57 i58 i59 x0 x2 x15 x16 i
  | i0 :: i1 :: i2 :: i3 :: i4 :: i5 :: i6 :: i7 :: i8 :: i9 :: i10 :: i11 :: i12 :: i13 :: i14 :: i15 :: i16 :: i17 :: i18 :: i19 :: i20 :: i21 :: i22 :: i23 :: i24 :: i25 :: i26 :: i27 :: i28 :: i29 :: i30 :: i31 :: i32 :: i33 :: i34 :: i35 :: i36 :: i37 :: i38 :: i39 :: i40 :: i41 :: i42 :: i43 :: i44 :: i45 :: i46 :: i47 :: i48 :: i49 :: i50 :: i51 :: i52 :: i53 :: i54 :: i55 :: i56 :: i57 :: i58 :: i59 :: i60 :: [], _ => rest61 i0 i1 i2 i3 i4 i5 i6 i7 i8 i9 i10 i11 i12 i13 i14 i15 i16 i17 i18 i19 i20 i21 i22 i23 i24 i25 i26 i27 i28 i29 i30 i31 i32 i33 i34 i35 i36 i37 i38 i39 i40 i41 i42 i43 i44 i45 i46 i47 i48 i49 i50 i51 i52 i53 i54 i55 i56 i57 i58 i59 i60 x0 x2 x15 x16 i
  | i0 :: i1 :: i2 :: i3 :: i4 :: i5 :: i6 :: i7 :: i8 :: i9 :: i10 :: i11 :: i12 :: i13 :: i14 :: i15 :: i16 :: i17 :: i18 :: i19 :: i20 :: i21 :: i22 :: i23 :: i24 :: i25 :: i26 :: i27 :: i28 :: i29 :: i30 :: i31 :: i32 :: i33 :: i34 :: i35 :: i36 :: i37 :: i38 :: i39 :: i40 :: i41 :: i42 :: i43 :: i44 :: i45 :: i46 :: i47 :: i48 :: i49 :: i50 :: i51 :: i52 :: i53 :: i54 :: i55 :: i56 :: i57 :: i58 :: i59 :: i60 :: i61 :: [], _ => rest62 i0 i1 i2 i3 i4 i5 i6 i7 i8 i9 i10 i11 i12 i13 i14 i15 i16 i17 i18 i19 i20 i21 i22 i23 i24 i25 i26 i27 i28 i29 i30 i31 i32 i33 i34 i35 i36 i37 i38 i39 i40 i41 i42 i43 i44 i45 i46 i47 i48 i49 i50 i51 i52 i53 i54 i55 i56 i57 i58 i59 i60 i61 x0 x2 x15 x16 i
  | i0 :: i1 :: i2 :: i3 :: i4 :: i5 :: i6 :: i7 :: i8 :: i9 :: i10 :: i11 :: i12 :: i13 :: i14 :: i15 :: i16 :: i17 :: i18 :: i19 :: i20 :: i21 :: i22 :: i23 :: i24 :: i25 :: i26 :: i27 :: i28 :: i29 :: i30 :: i31 :: i32 :: i33 :: i34 :: i35 :: i36 :: i37 :: i38 :: i39 :: i40 :: i41 :: i42 :: i43 :: i44 :: i45 :: i46 :: i47 :: i48 :: i49 :: i50 :: i51 :: i52 :: i53 :: i54 :: i55 :: i56 :: i57 :: i58 :: i59 :: i60 :: i61 :: i62 :: [], _ => rest63 i0 i1 i2 i3 i4 i5 i6 i7 i8 i9 i10 i11 i12 i13 i14 i15 i16 i17 i18 i19 i20 i21 i22 i23 i24 i25 i26 i27 i28 i29 i30 i31 i32 i33 i34 i35 i36 i37 i38 i39 i40 i41 i42 i43 i44 i45 i46 i47 i48 i49 i50 i51 i52 i53 i54 i55 i56 i57 i58 i59 i60 i61 i62 x0 x2 x15 x16 i
  | _ :: _ :: _ :: _ :: _ :: _ :: _ :: _ :: _ :: _ :: _ :: _ :: _ :: _ :: _ :: _ :: _ :: _ :: _ :: _ :: _ :: _ :: _ :: _ :: _ :: _ :: _ :: _ :: _ :: _ :: _ :: _ :: _ :: _ :: _ :: _ :: _ :: _ :: _ :: _ :: _ :: _ :: _ :: _ :: _ :: _ :: _ :: _ :: _ :: _ :: _ :: _ :: _ :: _ :: _ :: _ :: _ :: _ :: _ :: _ :: _ :: _ :: _ :: _ :: _, h => absurd h (by simp)
theorem pair_ok (x0 : D) (x2 : Option D) (o : Ob) {a b : Int} (ha : 0 ≤ a) (ha2 : a < 60) (hb : 0 ≤ b) (hb2 : b < 60) : evT (cf 19) condE (envP x0 x2 (some (.int a)) (some (.int b))) [o] = .ok false [o] := by
  obtain ⟨A, rfl⟩ := Int.eq_ofNat_of_zero_le ha
  obtain ⟨B, rfl⟩ := Int.eq_ofNat_of_zero_le hb
  have hA : A < 60 := by omega
  have hB : B < 60 := by omega
  by_cases h1 : A < 10
  · exact map_at (pairs0 x0 x2 o) (by omega) h1 hB
  by_cases h2 : A < 20
  · exact map_at (pairs1 x0 x2 o) (by omega) h2 hB
  by_cases h3 : A < 30
  · exact map_at (pairs2 x0 x2 o) (by omega) h3 hB
  by_cases h4 : A < 40
  · exact map_at (pairs3 x0 x2 o) (by omega) h4 hB
  by_cases h5 : A < 50
  · exact map_at (pairs4 x0 x2 o) (by omega) h5 hB
  · exact map_at (pairs5 x0 x2 o) (by omega) hA hB
def callE : E := .call 32 (.cons (.v 1) (.cons (.bi .len (.cons (.v 6) .nil)) .nil))
theorem loop_eq : loopB = .cons (.asg (.t (.cons (.n 15) (.cons (.n 16) .nil))) (.tup (.cons callE (.cons callE .nil)))) (.cons (.ifs condE (.cons (.ret (.kb false)) .nil) .nil) .nil) := by rfl
theorem take1 (x0 : D) (x2 x15 x16 : Option D) {l : List Int} (hl : l.length ≤ 63) (j : Int) : ∃ r : Int, 0 ≤ r ∧ r < 60 ∧ ev (cf 19) callE false (envP x0 x2 x15 x16) [drawO l j] = .ok (.int r) [drawO l (j + 1)] := by
  obtain ⟨r, h0, h1, h⟩ := takeC (w := tx.w) (k := 17) (f := 32) (f' := 31) rfl rfl hl (j := j) (m := 60) (S := [drawO l j]) (n := 0) rfl (by decide)
  refine ⟨r, h0, h1, ?_⟩
  have e : evs (cf 19) (.cons (.v 1) (.cons (.bi .len (.cons (.v 6) .nil)) .nil)) (envP x0 x2 x15 x16) [drawO l j] = .ok [.loc 0, .int 60] [drawO l j] := by kernel_rfl
  unfold callE
  rw [ev_call e]
  exact h
theorem turn (x0 : D) (x2 x15 x16 : Option D) {l : List Int} (hl : l.length ≤ 63) (j : Int) : ∃ (y15 y16 : Option D) (j' : Int), execs (cf 19) loopB (envP x0 x2 x15 x16) [drawO l j] = .next (envP x0 x2 y15 y16) [drawO l j'] := by
  obtain ⟨a, a0, a1, ha⟩ := take1 x0 x2 x15 x16 hl j
  obtain ⟨b, b0, b1, hb⟩ := take1 x0 x2 x15 x16 hl (j + 1)
  refine ⟨some (.int a), some (.int b), j + 1 + 1, ?_⟩
  rw [loop_eq, ex_asg (ev_tup (evs_two ha (evs_two hb evs_none)) (by simp)) (env' := envP x0 x2 (some (.int a)) (some (.int b))) rfl, ex_ifs_f (pair_ok x0 x2 _ a0 a1 b0 b1)]
  rfl
theorem loops (x0 : D) {l : List Int} (hl : l.length ≤ 63) : ∀ (xs : List D) (x2 x15 x16 : Option D) (j : Int), ∃ (y2 y15 y16 : Option D) (j' : Int), forL (bodyF (cf 19) (.n 2) loopB) xs (envP x0 x2 x15 x16) [drawO l j] = .next (envP x0 y2 y15 y16) [drawO l j']
  | [], x2, x15, x16, j => ⟨x2, x15, x16, j, rfl⟩
  | x :: xs, x2, x15, x16, j => by
    obtain ⟨y15, y16, j', h⟩ := turn x0 (some x) x15 x16 hl j
    obtain ⟨z2, z15, z16, j2, h2⟩ := loops x0 hl xs (some x) y15 y16 j'
    refine ⟨z2, z15, z16, j2, ?_⟩
    rw [forL_cons]
    have : bodyF (cf 19) (.n 2) loopB x (envP x0 x2 x15 x16) [drawO l j] = execs (cf 19) loopB (envP x0 (some x) x15 x16) [drawO l j] := rfl
    rw [this, h, loop_next, h2]
theorem start_ok (x0 : D) : execs (cf 19) b34 (startE d34.N [x0]) [] = execs (cf 19) (dropS 2 b34) (envP x0 none none none) [.lst [x0, .int 0]] := by kernel_rfl
theorem drop2 : dropS 2 b34 = .cons (.for_ (.n 2) (.rng (.ki 20)) loopB) rest := by rfl
theorem says0 : LawSays tx 34 20 := by
  intro l hl _
  obtain ⟨y2, y15, y16, j, h⟩ := loops (.lst (nums l)) hl (rngD 0 20) none none none 0
  have h3 : isRet (execs (cf 19) b34 (startE d34.N [.lst (nums l)]) []) = true := by
    rw [start_ok, drop2, show (Ob.lst [.lst (nums l), .int 0]) = drawO l 0 from rfl, ex_for (xs := rngD 0 20) (S1 := [drawO l 0]) rfl (by kernel_rfl), h, then_next]
    exact rest_ok l hl _ _ _ _ _
  have hc : callN tx.w 20 34 [.lst (nums l)] [] = frR [] (runD (cf 19) d34 [.lst (nums l)] []) := callN_shut (k := 19) rfl rfl (by show (lows 0 (nums l) && true) = true; rw [lows_ints]; rfl)
  cases q : execs (cf 19) b34 (startE d34.N [.lst (nums l)]) [] with
  | ret d S =>
    rw [q] at h3
    cases d with
    | bl b =>
      cases b with
      | true =>
        obtain ⟨S', hg⟩ := gc_bl true S
        refine ⟨[], ?_⟩
        show callN tx.w 20 34 [.lst (nums l)] [] = _
        rw [hc]
        have : runD (cf 19) d34 [.lst (nums l)] [] = gcR 0 (endR (execs (cf 19) b34 (startE d34.N [.lst (nums l)]) [])) := rfl
        rw [this, q]
        show frR [] (gcR 0 (.ok (.bl true) S)) = _
        rw [hg]; rfl
      | false => cases h3
    | _ => cases h3
  | _ => rw [q] at h3; cases h3
end K22

set_option Elab.async false
set_option linter.all false
set_option maxRecDepth 100000
set_option maxHeartbeats 0
namespace K22
open PySem PySem.Spec PyProof.Rows L2 LamX KF
theorem run (w : World) : HandSHeadRun.RunEq RR (PySem.W.view RR.prog [96]) hk ob 12500 loose w := by
  intro os
  exact runY (t := tx) (tf := tf) (al := asL tx) (kk := kk) (fun _ => rfl) (p1 w os) (p2 w os) (p3 w os) (p3m w os) (p4 w os) (p4m w os) (p5 w os) (p7 w os)
theorem says : LawSays tx 34 20 := says0
end K22

set_option Elab.async false
set_option linter.all false
set_option maxRecDepth 100000
set_option maxHeartbeats 0
open PySem PySem.W PySem.Calls PyProof.Rows
theorem PySem.Challenge.cw_knownfirst_k22_like_things_holds : PySem.Challenge.rw_knownfirst_k22_like_things.Holds := by
  w_on; o_law
  refine HandSHeadRun.head_any (r := OpenLaw.row PySem.Challenge.rw_knownfirst_k22_like_things) (q := view (OpenLaw.row PySem.Challenge.rw_knownfirst_k22_like_things).prog [96]) (H := K22.hk) (ob := K22.ob) (M := 12500) (loose := K22.loose) (d := HandSHeadRun.topDef (OpenLaw.row PySem.Challenge.rw_knownfirst_k22_like_things).prog 96) (kwd := []) K22.ob_eq
    (by kernel_rfl) (fun s => by kernel_rfl) K22.run (by kernel_rfl) (by kernel_rfl) (by kernel_rfl) (by rfl) (by first | assumption | decide +kernel) (by decide +kernel) ⟨rfl, rfl, rfl, rfl, rfl, by decide +kernel⟩ ?hw ?hc
  case hw => w_witness2
  case hc =>
    refine LamX.walk_ofTsE (l := PySem.Challenge.rw_knownfirst_k22_like_things) (n := 63) (k := 81) (x := "script") (CX := fun w => L2.CX (PySem.Challenge.rw_knownfirst_k22_like_things).prog w) rfl (by decide) (by kernel_rfl) ⟨rfl, by decide, by decide⟩ ?F (fun _ _ _ _ _ h => by
      obtain ⟨_, _, _, _, _, _, _, _, _, _, _, _, z⟩ := h
      exact z.elim)
    intro w mg fa h Y G hmg0
    have hmg : mg ("law" : PySem.Str) = some (.ref fa) := by
      have e : (HandSHeadRun.topDef (OpenLaw.row PySem.Challenge.rw_knownfirst_k22_like_things).prog 96).name = ("law" : PySem.Str) := by kernel_rfl
      rw [← e]
      exact hmg0
    exact KF.law_at (t := K22.tx) (tf := K22.tf) (f := 34) (k := 20) (d := (K22.d34, K22.top 96)) rfl rfl rfl rfl K22.all K22.mok K22.ini (by decide +kernel) K22.says Y G hmg

